import PyProof.Rows.All
import HandS.ForMost
import HandS.ForExc
import HandS.ExcField
import HandS.ExcIs
import HandS.TupAny
import HandS.Zip
import HandS.IsInst
import HandS.More
import HandS.Style
import HandS.Conv
import HandS.SortInts
import HandS.Deep
import HandS.Wide
import HandS.Steps
import HandS.Text
import HandS.TupMul
import HandS.ExcInit
import KE.KExcSuper
import KE.KSuper
import HandS.CallLocal
import HandS.RaiseMore
import HandS.Ends
import KE.KIntText
import KE.IntTextText
import PyProof.StrLawsTight
import PyProof.StrLawsChain
import PySem.Challenge.RW_choirstands_k82_texts_of_tables
set_option Elab.async false
set_option linter.all false
set_option maxRecDepth 100000
set_option maxHeartbeats 4000000
/-! FN1: data by value, worlds, slots. -/
namespace FN
open PySem PySem.Spec PyProof.Rows L2
abbrev D := PyData
abbrev FpS := Addr → Prop
/-! ### data in a frozen heap -/
mutual
/-- b: tuples that the text wrote (not tracked) are let -/
inductive RD (b : Bool) (K : PySem.W.Frag) (F : Hp) : V → D → Prop
  | non : RD b K F .non .none
  | bl (c : Bool) : RD b K F (.bl c) (.bool c)
  | int (i : Int) : RD b K F (.int i) (.int i)
  | str (x : Str) : RD b K F (.str x) (.str x)
  | lst {a : Addr} {xs : List V} {ds : List D} : F a = some (.lst xs) → RDs b K F xs ds → RD b K F (.ref a) (.list ds)
  | tup {a : Addr} {xs : List V} {ds : List D} : F a = some (.tup xs) → RDs b K F xs ds → RD b K F (.ref a) (.tuple ds)
  | con {a : Addr} {xs : List V} {ds : List D} : b = true → SqT K F a xs → RDs b K F xs ds → RD b K F (.ref a) (.tuple ds)
inductive RDs (b : Bool) (K : PySem.W.Frag) (F : Hp) : List V → List D → Prop
  | nil : RDs b K F [] []
  | cons {v : V} {vs : List V} {d : D} {ds : List D} : RD b K F v d → RDs b K F vs ds → RDs b K F (v :: vs) (d :: ds)
end
theorem sameT {K : PySem.W.Frag} {H H' : Hp} {a : Addr} {xs : List V} (e : Same H H') (h : SqT K H a xs) : SqT K H' a xs := by
  rcases h with (h | ⟨o, h⟩) | h
  · exact .inl (.inl (e _ _ h))
  · exact .inl (.inr ⟨o, e _ _ h⟩)
  · exact .inr h
mutual
theorem RD.mono {b : Bool} {K : PySem.W.Frag} {F F' : Hp} (e : Same F F') {v : V} {d : D} : RD b K F v d → RD b K F' v d
  | .non => .non
  | .bl c => .bl c
  | .int i => .int i
  | .str x => .str x
  | .lst h t => .lst (e _ _ h) (RDs.mono e t)
  | .tup h t => .tup (e _ _ h) (RDs.mono e t)
  | .con z h t => .con z (sameT e h) (RDs.mono e t)
theorem RDs.mono {b : Bool} {K : PySem.W.Frag} {F F' : Hp} (e : Same F F') {vs : List V} {ds : List D} : RDs b K F vs ds → RDs b K F' vs ds
  | .nil => .nil
  | .cons h t => .cons (RD.mono e h) (RDs.mono e t)
end
mutual
theorem RD.dp {b : Bool} {K : PySem.W.Frag} {F : Hp} {v : V} {d : D} : RD b K F v d → Dp K F v d
  | .non => .non
  | .bl c => .bl c
  | .int i => .int i
  | .str x => .str x
  | .lst h t => .lst (SqL.of h) (RDs.dp t)
  | .tup h t => .tup (SqT.of h) (RDs.dp t)
  | .con _ h t => .tup h (RDs.dp t)
theorem RDs.dp {b : Bool} {K : PySem.W.Frag} {F : Hp} {vs : List V} {ds : List D} : RDs b K F vs ds → DpAll K F vs ds
  | .nil => .nil
  | .cons h t => .cons (RD.dp h) (RDs.dp t)
end
theorem RDs.length {b : Bool} {K : PySem.W.Frag} {F : Hp} : ∀ {vs : List V} {ds : List D}, RDs b K F vs ds → vs.length = ds.length
  | _, _, .nil => rfl
  | _, _, .cons _ t => by rw [List.length_cons, List.length_cons, RDs.length t]
theorem DpAll.length {K : PySem.W.Frag} {F : Hp} : ∀ {vs : List V} {ds : List D}, DpAll K F vs ds → vs.length = ds.length
  | _, _, .nil => rfl
  | _, _, .cons _ t => by rw [List.length_cons, List.length_cons, DpAll.length t]
theorem RDs.get {b : Bool} {K : PySem.W.Frag} {F : Hp} : ∀ {vs : List V} {ds : List D} {i : Nat} {d : D}, RDs b K F vs ds → ds[i]? = some d → ∃ v, vs[i]? = some v ∧ RD b K F v d
  | _, _, _, _, .nil, e => by simp at e
  | _, _, 0, _, .cons h _, e => by
    rw [List.getElem?_cons_zero] at e
    cases e
    exact ⟨_, List.getElem?_cons_zero .., h⟩
  | _, _, i + 1, _, .cons _ t, e => by
    rw [List.getElem?_cons_succ] at e
    obtain ⟨v, e1, e2⟩ := RDs.get t e
    exact ⟨v, by rw [List.getElem?_cons_succ]; exact e1, e2⟩
theorem RDs.append {b : Bool} {K : PySem.W.Frag} {F : Hp} : ∀ {vs ws : List V} {ds es : List D}, RDs b K F vs ds → RDs b K F ws es → RDs b K F (vs ++ ws) (ds ++ es)
  | _, _, _, _, .nil, t => t
  | _, _, _, _, .cons h s, t => .cons h (RDs.append s t)
theorem RDs.take {b : Bool} {K : PySem.W.Frag} {F : Hp} : ∀ {vs : List V} {ds : List D} (n : Nat), RDs b K F vs ds → RDs b K F (vs.take n) (ds.take n)
  | _, _, 0, _ => .nil
  | _, _, _ + 1, .nil => .nil
  | _, _, n + 1, .cons h t => .cons h (RDs.take n t)
theorem RDs.drop {b : Bool} {K : PySem.W.Frag} {F : Hp} : ∀ {vs : List V} {ds : List D} (n : Nat), RDs b K F vs ds → RDs b K F (vs.drop n) (ds.drop n)
  | _, _, 0, h => h
  | _, _, _ + 1, .nil => .nil
  | _, _, n + 1, .cons _ t => RDs.drop n t
theorem RDs.set {b : Bool} {K : PySem.W.Frag} {F : Hp} {v : V} {d : D} (r : RD b K F v d) : ∀ {vs : List V} {ds : List D} (i : Nat), RDs b K F vs ds → RDs b K F (vs.set i v) (ds.set i d)
  | _, _, _, .nil => .nil
  | _, _, 0, .cons _ t => .cons r t
  | _, _, i + 1, .cons h t => .cons h (RDs.set r i t)
theorem RDs.eraseIdx {b : Bool} {K : PySem.W.Frag} {F : Hp} : ∀ {vs : List V} {ds : List D} (i : Nat), RDs b K F vs ds → RDs b K F (vs.eraseIdx i) (ds.eraseIdx i)
  | _, _, _, .nil => .nil
  | _, _, 0, .cons _ t => t
  | _, _, i + 1, .cons h t => .cons h (RDs.eraseIdx i t)
theorem RDs.dropLast {b : Bool} {K : PySem.W.Frag} {F : Hp} {vs : List V} {ds : List D} (h : RDs b K F vs ds) : RDs b K F vs.dropLast ds.dropLast := by
  rw [List.dropLast_eq_take, List.dropLast_eq_take, h.length]
  exact h.take _
theorem RDs.reverse {b : Bool} {K : PySem.W.Frag} {F : Hp} : ∀ {vs : List V} {ds : List D}, RDs b K F vs ds → RDs b K F vs.reverse ds.reverse
  | _, _, .nil => .nil
  | _, _, .cons h t => by
    rw [List.reverse_cons, List.reverse_cons]
    exact RDs.append (RDs.reverse t) (.cons h .nil)
mutual
theorem RD.any {b : Bool} {K : PySem.W.Frag} {F : Hp} {v : V} {d : D} : RD b K F v d → RD true K F v d
  | .non => .non
  | .bl c => .bl c
  | .int i => .int i
  | .str x => .str x
  | .lst h t => .lst h (RDs.any t)
  | .tup h t => .tup h (RDs.any t)
  | .con _ h t => .con rfl h (RDs.any t)
theorem RDs.any {b : Bool} {K : PySem.W.Frag} {F : Hp} {vs : List V} {ds : List D} : RDs b K F vs ds → RDs true K F vs ds
  | .nil => .nil
  | .cons h t => .cons (RD.any h) (RDs.any t)
end
theorem RDs.ints {b : Bool} {K : PySem.W.Frag} {F : Hp} : ∀ ns : List Int, RDs b K F (ns.map V.int) (ns.map PyData.int)
  | [] => .nil
  | n :: r => .cons (.int n) (RDs.ints r)
theorem RDs.of_get {b : Bool} {K : PySem.W.Frag} {F : Hp} : ∀ {vs : List V} {ds : List D}, vs.length = ds.length → (∀ (i : Nat) v d, vs[i]? = some v → ds[i]? = some d → RD b K F v d) → RDs b K F vs ds
  | [], [], _, _ => .nil
  | [], _ :: _, h, _ => by simp at h
  | _ :: _, [], h, _ => by simp at h
  | v :: vs, d :: ds, h, g => .cons (g 0 v d rfl rfl) (RDs.of_get (by simpa using h) fun i v' d' e1 e2 => g (i + 1) v' d' (by simpa using e1) (by simpa using e2))
/-! ### kinds, owned data -/
inductive Kind where
  /-- an immediate datum -/
  | v (b : Bool)
  /-- an owned list -/
  | lst (k : Kind)
  /-- the law's script: a list of ints that is read -/
  | scr
  /-- the very object u (a parameter that is changed) -/
  | fix (u : V) (k : Kind)
  /-- the very object u (a def, a class) -/
  | tok (u : V)
  /-- a caught error at a, its dict at dx; the datum is its value -/
  | exc (a dx : Addr) (cls : Value) (R : Addr → Prop)
  /-- an owned dict, its keys tuples of texts and ints -/
  | dT (b : Bool)
  /-- an owned dict, its keys texts and ints -/
  | dK (b : Bool)
abbrev Kind.imm : Kind := .v true
abbrev Kind.st : Kind := .v false
inductive ODl (R : V → D → FpS → Prop) : List V → List D → FpS → Prop
  | nil {fp : FpS} : ODl R [] [] fp
  | cons {v : V} {d : D} {vs : List V} {ds : List D} {f g fp : FpS} : R v d f → ODl R vs ds g → (∀ a, f a → ¬ g a) → (∀ a, f a → fp a) → (∀ a, g a → fp a) → ODl R (v :: vs) (d :: ds) fp
/-- kinds that are read as data -/
def dk : Kind → Bool
  | .v _ => true
  | .lst k => dk k
  | .scr => true
  | .fix _ k => dk k
  | _ => false
/-- a key's datum -/
def kD : Key → D
  | .inl i => .int i
  | .inr s => .str s
/-- a dict's pairs -/
inductive RKT (b : Bool) (K : PySem.W.Frag) (F : Hp) : List (List Key × V) → List (D × D) → Prop
  | nil : RKT b K F [] []
  | cons {k : List Key} {v : V} {d : D} {kvs : List (List Key × V)} {ps : List (D × D)} : RD b K F v d → RKT b K F kvs ps → RKT b K F ((k, v) :: kvs) ((.tuple (k.map kD), d) :: ps)
inductive RKK (b : Bool) (K : PySem.W.Frag) (F : Hp) : List (Key × V) → List (D × D) → Prop
  | nil : RKK b K F [] []
  | cons {k : Key} {v : V} {d : D} {kvs : List (Key × V)} {ps : List (D × D)} : RD b K F v d → RKK b K F kvs ps → RKK b K F ((k, v) :: kvs) ((kD k, d) :: ps)
theorem RKT.mono {b : Bool} {K : PySem.W.Frag} {F F' : Hp} (e : Same F F') {kvs : List (List Key × V)} {ps : List (D × D)} (h : RKT b K F kvs ps) : RKT b K F' kvs ps := by
  induction h with
  | nil => exact .nil
  | cons r _ ih => exact .cons (r.mono e) ih
theorem RKK.mono {b : Bool} {K : PySem.W.Frag} {F F' : Hp} (e : Same F F') {kvs : List (Key × V)} {ps : List (D × D)} (h : RKK b K F kvs ps) : RKK b K F' kvs ps := by
  induction h with
  | nil => exact .nil
  | cons r _ ih => exact .cons (r.mono e) ih
def OD (K : PySem.W.Frag) (F H : Hp) : Kind → V → D → FpS → Prop
  | .v b, v, d, _ => RD b K F v d
  | .lst k, v, d, fp => ∃ (a : Addr) (vs : List V) (ds : List D) (g : FpS), v = .ref a ∧ d = .list ds ∧ H a = some (.lst vs) ∧ fp a ∧ ¬ g a ∧ (∀ b, g b → fp b) ∧ ODl (fun v d f => dk k = true ∧ OD K F H k v d f) vs ds g
  | .scr, v, d, _ => ∃ (a : Addr) (ns : List Int), v = .ref a ∧ d = .list (ns.map .int) ∧ SqL K F a (ns.map V.int)
  | .fix _ k, v, d, fp => OD K F H k v d fp
  | .tok u, v, d, _ => v = u ∧ d = .dict []
  | .exc a dx cls R, v, d, _ => v = .ref a ∧ ∃ (y : V) (d' : D), d = .dict [(.none, d')] ∧ F dx = some (.xd [(("value" : Str), y)]) ∧ RD true K F y d' ∧ ∃ C, cls = .ref C ∧ XfC K C ∧ PySem.W.findIn K (.ref C) "value" = some none ∧ R C
  | .dT b, v, d, fp => ∃ (a : Addr) (kvs : List (List Key × V)) (ps : List (D × D)), v = .ref a ∧ d = .dict ps ∧ H a = some (.dT kvs) ∧ fp a ∧ RKT b K F kvs ps
  | .dK b, v, d, fp => ∃ (a : Addr) (kvs : List (Key × V)) (ps : List (D × D)), v = .ref a ∧ d = .dict ps ∧ H a = some (.dK kvs) ∧ fp a ∧ RKK b K F kvs ps
theorem ODl.imp {R R' : V → D → FpS → Prop} : ∀ {vs : List V} {ds : List D} {fp : FpS}, ODl R vs ds fp → (∀ v d f, R v d f → (∀ a, f a → fp a) → R' v d f) → ODl R' vs ds fp
  | _, _, _, .nil, _ => .nil
  | _, _, _, .cons r t d h1 h2, i => .cons (i _ _ _ r h1) (ODl.imp t fun v d f q z => i v d f q fun a y => h2 a (z a y)) d h1 h2
theorem ODl.mono {R : V → D → FpS → Prop} {vs : List V} {ds : List D} {fp fp' : FpS} (h : ODl R vs ds fp) (s : ∀ a, fp a → fp' a) : ODl R vs ds fp' := by
  cases h with
  | nil => exact .nil
  | cons r t d h1 h2 => exact .cons r t d (fun a z => s a (h1 a z)) fun a z => s a (h2 a z)
theorem OD.mono {K : PySem.W.Frag} {F H : Hp} : ∀ {k : Kind} {v : V} {d : D} {fp fp' : FpS}, OD K F H k v d fp → (∀ a, fp a → fp' a) → OD K F H k v d fp'
  | .v _, _, _, _, _, h, _ => h
  | .lst _, _, _, _, _, ⟨a, vs, ds, g, e1, e2, e3, h1, h2, h3, t⟩, s => ⟨a, vs, ds, g, e1, e2, e3, s a h1, h2, fun b z => s b (h3 b z), t⟩
  | .scr, _, _, _, _, h, _ => h
  | .fix _ k, _, _, _, _, h, s => OD.mono (k := k) h s
  | .tok _, _, _, _, _, h, _ => h
  | .exc _ _ _ _, _, _, _, _, h, _ => h
  | .dT _, _, _, _, _, ⟨a, kvs, ps, e1, e2, e3, h1, t⟩, s => ⟨a, kvs, ps, e1, e2, e3, s a h1, t⟩
  | .dK _, _, _, _, _, ⟨a, kvs, ps, e1, e2, e3, h1, t⟩, s => ⟨a, kvs, ps, e1, e2, e3, s a h1, t⟩
theorem OD.frame {K : PySem.W.Frag} {F F' H H' : Hp} (eF : Same F F') : ∀ {k : Kind} {v : V} {d : D} {fp : FpS}, OD K F H k v d fp → (∀ a o, fp a → H a = some o → H' a = some o) → OD K F' H' k v d fp
  | .v _, _, _, _, h, _ => RD.mono eF h
  | .lst k, _, _, _, ⟨a, vs, ds, g, e1, e2, e3, h1, h2, h3, t⟩, s => ⟨a, vs, ds, g, e1, e2, s a _ h1 e3, h1, h2, h3, t.imp fun v d f r z => ⟨r.1, OD.frame eF (k := k) r.2 fun b o y q => s b o (h3 b (z b y)) q⟩⟩
  | .scr, _, _, _, ⟨a, ns, e1, e2, h⟩, _ => ⟨a, ns, e1, e2, eF.seq h⟩
  | .fix _ k, _, _, _, h, s => OD.frame eF (k := k) h s
  | .tok _, _, _, _, h, _ => h
  | .exc _ _ _ _, _, _, _, ⟨e1, y, d', e2, e3, h, r⟩, _ => ⟨e1, y, d', e2, eF _ _ e3, RD.mono eF h, r⟩
  | .dT _, _, _, _, ⟨a, kvs, ps, e1, e2, e3, h1, t⟩, s => ⟨a, kvs, ps, e1, e2, s a _ h1 e3, h1, t.mono eF⟩
  | .dK _, _, _, _, ⟨a, kvs, ps, e1, e2, e3, h1, t⟩, s => ⟨a, kvs, ps, e1, e2, s a _ h1 e3, h1, t.mono eF⟩
theorem dpAll_of {K : PySem.W.Frag} {H : Hp} {R : V → D → FpS → Prop} : ∀ {vs : List V} {ds : List D} {fp : FpS}, ODl R vs ds fp → (∀ v d f, R v d f → Dp K H v d) → DpAll K H vs ds
  | _, _, _, .nil, _ => .nil
  | _, _, _, .cons r t _ _ _, i => .cons (i _ _ _ r) (dpAll_of t i)
theorem Dp_same {b : Bool} {K : PySem.W.Frag} {H H' : Hp} (e : Same H H') {v : V} {d : D} (h : RD b K H v d) : Dp K H' v d := (h.mono e).dp
theorem OD.dp {K : PySem.W.Frag} {F H : Hp} (eF : Same F H) : ∀ {k : Kind} {v : V} {d : D} {fp : FpS}, dk k = true → OD K F H k v d fp → Dp K H v d
  | .v _, _, _, _, _, h => Dp_same eF h
  | .lst k, _, _, _, _, ⟨a, vs, ds, g, e1, e2, e3, h1, h2, h3, t⟩ => by
    subst e1; subst e2
    exact .lst (SqL.of e3) (dpAll_of t fun v d f r => OD.dp eF (k := k) r.1 r.2)
  | .scr, _, _, _, _, ⟨a, ns, e1, e2, h⟩ => by
    subst e1; subst e2
    exact .lst (eF.seq h) (RDs.ints (b := true) (K := K) (F := H) ns).dp
  | .fix _ k, _, _, _, hd, h => OD.dp eF (k := k) hd h
/-- .. read off the datum -/
theorem OD.dpn {K : PySem.W.Frag} {F H : Hp} (eF : Same F H) : ∀ {k : Kind} {v : V} {d : D} {fp : FpS}, (∀ ps, d ≠ .dict ps) → OD K F H k v d fp → Dp K H v d
  | .v _, _, _, _, _, h => Dp_same eF h
  | .lst k, _, _, _, _, ⟨a, vs, ds, g, e1, e2, e3, h1, h2, h3, t⟩ => by
    subst e1; subst e2
    exact .lst (SqL.of e3) (dpAll_of t fun v d f r => OD.dp eF (k := k) r.1 r.2)
  | .scr, _, _, _, _, ⟨a, ns, e1, e2, h⟩ => by
    subst e1; subst e2
    exact .lst (eF.seq h) (RDs.ints (b := true) (K := K) (F := H) ns).dp
  | .fix _ k, _, _, _, hd, h => OD.dpn eF (k := k) hd h
  | .tok _, _, _, _, hd, ⟨_, e⟩ => absurd e (hd _)
  | .exc _ _ _ _, _, _, _, hd, ⟨_, _, _, e, _⟩ => absurd e (hd _)
  | .dT _, _, _, _, hd, ⟨_, _, _, _, e, _⟩ => absurd e (hd _)
  | .dK _, _, _, _, hd, ⟨_, _, _, _, e, _⟩ => absurd e (hd _)
/-! ### slots -/
abbrev Env := List (Option D)
inductive Slots (K : PySem.W.Frag) (F H : Hp) : List Kind → Env → L2.St → FpS → Prop
  | nil {fp : FpS} : Slots K F H [] [] [] fp
  | skip {k : Kind} {κ : List Kind} {ρ : Env} {o : Option V} {σ : L2.St} {fp : FpS} : Slots K F H κ ρ σ fp → Slots K F H (k :: κ) (none :: ρ) (o :: σ) fp
  | cons {k : Kind} {κ : List Kind} {d : D} {ρ : Env} {v : V} {σ : L2.St} {f g fp : FpS} : OD K F H k v d f → Slots K F H κ ρ σ g → (∀ a, f a → ¬ g a) → (∀ a, f a → fp a) → (∀ a, g a → fp a) → Slots K F H (k :: κ) (some d :: ρ) (some v :: σ) fp
section
variable {K : PySem.W.Frag} {F H F' H' : Hp}
theorem Slots.mono {κ : List Kind} {ρ : Env} {σ : L2.St} {fp fp' : FpS} (h : Slots K F H κ ρ σ fp) (s : ∀ a, fp a → fp' a) : Slots K F H κ ρ σ fp' := by
  induction h generalizing fp' with
  | nil => exact .nil
  | skip _ ih => exact .skip (ih s)
  | cons r t d h1 h2 ih => exact .cons r t d (fun a z => s a (h1 a z)) fun a z => s a (h2 a z)
theorem Slots.frame (eF : Same F F') {κ : List Kind} {ρ : Env} {σ : L2.St} {fp : FpS} (h : Slots K F H κ ρ σ fp) (s : ∀ a o, fp a → H a = some o → H' a = some o) : Slots K F' H' κ ρ σ fp := by
  induction h with
  | nil => exact .nil
  | skip _ ih => exact .skip (ih s)
  | cons r t d h1 h2 ih => exact .cons (r.frame eF fun a o z => s a o (h1 a z)) (ih fun a o z => s a o (h2 a z)) d h1 h2
theorem Slots.lengths {κ : List Kind} {ρ : Env} {σ : L2.St} {fp : FpS} (h : Slots K F H κ ρ σ fp) : κ.length = σ.length ∧ ρ.length = σ.length := by
  induction h with
  | nil => exact ⟨rfl, rfl⟩
  | skip _ ih => simp [ih.1, ih.2]
  | cons _ _ _ _ _ ih => simp [ih.1, ih.2]
theorem Slots.get {κ : List Kind} {ρ : Env} {σ : L2.St} {fp : FpS} (h : Slots K F H κ ρ σ fp) : ∀ {i : Nat} {d : D} {k : Kind}, ρ[i]? = some (some d) → κ[i]? = some k → ∃ v f, σ[i]? = some (some v) ∧ OD K F H k v d f ∧ (∀ a, f a → fp a) := by
  induction h with
  | nil => intro i d k e; simp at e
  | skip _ ih =>
    intro i d k e1 e2
    cases i with
    | zero => simp at e1
    | succ i => exact ih (by simpa using e1) (by simpa using e2)
  | @cons k κ d ρ v σ f g fp r t dj h1 h2 ih =>
    intro i d k e1 e2
    cases i with
    | zero =>
      simp only [List.getElem?_cons_zero, Option.some.injEq] at e1 e2
      subst e1; subst e2
      exact ⟨_, _, rfl, r, h1⟩
    | succ i =>
      obtain ⟨v, f, q1, q2, q3⟩ := ih (i := i) (by simpa using e1) (by simpa using e2)
      exact ⟨v, f, by simpa using q1, q2, fun a z => h2 a (q3 a z)⟩
/-- a slot forgotten -/
theorem Slots.drop {κ : List Kind} {ρ : Env} {σ : L2.St} {fp : FpS} (h : Slots K F H κ ρ σ fp) (i : Nat) : Slots K F H κ (ρ.set i none) σ fp := by
  induction h generalizing i with
  | nil => exact .nil
  | skip t ih =>
    cases i with
    | zero => exact .skip t
    | succ i => exact .skip (ih i)
  | cons r t dj h1 h2 ih =>
    cases i with
    | zero => exact .skip (t.mono h2)
    | succ i => exact .cons r (ih i) dj h1 h2
/-- a slot taken out -/
theorem Slots.out {κ : List Kind} {ρ : Env} {σ : L2.St} {fp : FpS} (h : Slots K F H κ ρ σ fp) : ∀ {i : Nat} {d : D} {k : Kind}, ρ[i]? = some (some d) → κ[i]? = some k →
    ∃ v f g, σ[i]? = some (some v) ∧ OD K F H k v d f ∧ Slots K F H κ (ρ.set i none) σ g ∧ (∀ a, f a → ¬ g a) ∧ (∀ a, f a → fp a) ∧ (∀ a, g a → fp a) := by
  induction h with
  | nil => intro i d k e; simp at e
  | skip _ ih =>
    intro i d k e1 e2
    cases i with
    | zero => simp at e1
    | succ i =>
      obtain ⟨v, f, g, q1, q2, q3, q4, q5, q6⟩ := ih (i := i) (by simpa using e1) (by simpa using e2)
      exact ⟨v, f, g, by simpa using q1, q2, .skip q3, q4, q5, q6⟩
  | @cons k κ d ρ v σ f g fp r t dj h1 h2 ih =>
    intro i d k e1 e2
    cases i with
    | zero =>
      simp only [List.getElem?_cons_zero, Option.some.injEq] at e1 e2
      subst e1; subst e2
      exact ⟨_, _, _, rfl, r, .skip t, dj, h1, h2⟩
    | succ i =>
      obtain ⟨v', f', g', q1, q2, q3, q4, q5, q6⟩ := ih (i := i) (by simpa using e1) (by simpa using e2)
      refine ⟨v', f', fun a => f a ∨ g' a, by simpa using q1, q2, .cons r q3 (fun a z y => dj a z (q6 a y)) (fun a z => .inl z) (fun a z => .inr z), fun a z y => ?_, fun a z => h2 a (q5 a z), fun a z => z.elim (h1 a) fun y => h2 a (q6 a y)⟩
      rcases y with y | y
      · exact dj a y (q5 a z)
      · exact q4 a z y
/-- a slot filled anew -/
theorem Slots.put {κ : List Kind} {ρ : Env} {σ : L2.St} {g : FpS} (h : Slots K F H κ ρ σ g) : ∀ {i : Nat} {d : D} {k : Kind} {v : V} {f : FpS}, i < σ.length → OD K F H k v d f → (∀ a, f a → ¬ g a) →
    Slots K F H (κ.set i k) (ρ.set i (some d)) (σ.set i (some v)) (fun a => f a ∨ g a) := by
  induction h with
  | nil => intro i d k v f hi; simp at hi
  | @skip k0 κ ρ o σ fp t ih =>
    intro i d k v f hi r dj
    cases i with
    | zero => exact .cons r t dj (fun a z => .inl z) fun a z => .inr z
    | succ i => exact .skip (ih (i := i) (by simpa using hi) r dj)
  | @cons k0 κ d0 ρ v0 σ f0 g0 fp r0 t dj0 h1 h2 ih =>
    intro i d k v f hi r dj
    cases i with
    | zero => exact .cons r t (fun a z y => dj a z (h2 a y)) (fun a z => .inl z) fun a z => .inr (h2 a z)
    | succ i =>
      refine .cons r0 (ih (i := i) (by simpa using hi) r fun a z y => dj a z (h2 a y)) (fun a z y => ?_) (fun a z => .inr (h1 a z)) fun a z => z.elim .inl fun y => .inr (h2 a y)
      rcases y with y | y
      · exact dj a y (h1 a z)
      · exact dj0 a z y
/-- a kind changed where the slot is empty -/
theorem Slots.rekind {κ : List Kind} {ρ : Env} {σ : L2.St} {fp : FpS} (h : Slots K F H κ ρ σ fp) : ∀ {i : Nat} (k : Kind), ρ[i]? = some none → Slots K F H (κ.set i k) ρ σ fp := by
  induction h with
  | nil => intro i k e; simp at e
  | skip t ih =>
    intro i k e
    cases i with
    | zero => exact .skip t
    | succ i => exact .skip (ih k (by simpa using e))
  | cons r t dj h1 h2 ih =>
    intro i k e
    cases i with
    | zero => simp at e
    | succ i => exact .cons r (ih k (by simpa using e)) dj h1 h2
end
/-! ### worlds -/
structure Wd where
  F : Hp
  H : Hp
  fp : FpS
structure Rel (K : PySem.W.Frag) (κ : List Kind) (ρ : Env) (σ : L2.St) (w : Wd) : Prop where
  same : Same w.F w.H
  frz : ∀ a, w.fp a → w.F a = none
  live : ∀ a, w.fp a → w.H a ≠ none
  fixed : ∀ (i : Nat) (u : V) (k : Kind), κ[i]? = some (Kind.fix u k) → σ[i]? = some (some u)
  slots : Slots K w.F w.H κ ρ σ w.fp
structure Ext (w w' : Wd) : Prop where
  same : Same w.F w'.F
  new : ∀ a o, w'.F a = some o → w.F a = some o ∨ w.fp a ∨ w.H a = none
  keep : ∀ a o, w.H a = some o → ¬ w.fp a → w'.H a = some o
  fp : ∀ a, w'.fp a → w.fp a ∨ w.H a = none
theorem Ext.refl (w : Wd) : Ext w w := ⟨Same.refl _, fun _ _ h => .inl h, fun _ _ h _ => h, fun _ h => .inl h⟩
theorem Ext.nofp {w w' : Wd} (e : Ext w w') {a : Addr} {o : HO} (h : w.H a = some o) (n : ¬ w.fp a) : ¬ w'.fp a := fun z => by
  rcases e.fp a z with y | y
  · exact n y
  · rw [h] at y; cases y
theorem Ext.trans {w w1 w2 : Wd} (a : Ext w w1) (b : Ext w1 w2) : Ext w w2 where
  same := a.same.trans b.same
  new := fun c o h => by
    have key : w1.fp c ∨ w1.H c = none → w.fp c ∨ w.H c = none := fun z => by
      rcases z with z | z
      · exact a.fp c z
      · cases q : w.H c with
        | none => exact .inr rfl
        | some o1 =>
          by_cases y : w.fp c
          · exact .inl y
          · rw [a.keep c o1 q y] at z; cases z
    rcases b.new c o h with z | z
    · rcases a.new c o z with y | y
      · exact .inl y
      · exact .inr y
    · exact .inr (key z)
  keep := fun c o h n => b.keep c o (a.keep c o h n) (a.nofp h n)
  fp := fun c h => by
    rcases b.fp c h with z | z
    · exact a.fp c z
    · cases q : w.H c with
      | none => exact .inr rfl
      | some o1 =>
        by_cases y : w.fp c
        · exact .inl y
        · rw [a.keep c o1 q y] at z; cases z
/-- a value of kind k that has come since w, in no slot -/
def Temp (K : PySem.W.Frag) (k : Kind) (w w' : Wd) (d : D) (v : V) : Prop :=
  ∃ g : FpS, OD K w'.F w'.H k v d g ∧ ∀ a, g a → ¬ w'.fp a ∧ w'.F a = none ∧ w'.H a ≠ none ∧ (w.fp a ∨ w.H a = none)
section
variable {K : PySem.W.Frag} {w w1 w2 : Wd} {k : Kind} {d : D} {v : V}
theorem temp_keep {g : FpS} (e : Ext w1 w2) (h : OD K w1.F w1.H k v d g) (c : ∀ a, g a → ¬ w1.fp a ∧ w1.F a = none ∧ w1.H a ≠ none) : OD K w2.F w2.H k v d g ∧ ∀ a, g a → ¬ w2.fp a ∧ w2.F a = none ∧ w2.H a ≠ none := by
  refine ⟨h.frame e.same fun a o z q => e.keep a o q (c a z).1, fun a z => ?_⟩
  obtain ⟨c1, c2, c3⟩ := c a z
  cases q : w1.H a with
  | none => exact absurd q c3
  | some o =>
    refine ⟨e.nofp q c1, ?_, by rw [e.keep a o q c1]; intro y; cases y⟩
    cases y : w2.F a with
    | none => rfl
    | some u =>
      rcases e.new a u y with y | y | y
      · rw [c2] at y; cases y
      · exact absurd y c1
      · rw [q] at y; cases y
theorem Temp.keep (t : Temp K k w w1 d v) (e : Ext w1 w2) : Temp K k w w2 d v := by
  obtain ⟨g, h, c⟩ := t
  obtain ⟨h', c'⟩ := temp_keep e h fun a z => ⟨(c a z).1, (c a z).2.1, (c a z).2.2.1⟩
  exact ⟨g, h', fun a z => ⟨(c' a z).1, (c' a z).2.1, (c' a z).2.2, (c a z).2.2.2⟩⟩
theorem Temp.since (t : Temp K k w1 w2 d v) (e : Ext w w1) : Temp K k w w2 d v := by
  obtain ⟨g, h, c⟩ := t
  refine ⟨g, h, fun a z => ?_⟩
  obtain ⟨c1, c2, c3, c4⟩ := c a z
  refine ⟨c1, c2, c3, ?_⟩
  rcases c4 with y | y
  · exact e.fp a y
  · cases q : w.H a with
    | none => exact .inr rfl
    | some o =>
      by_cases n : w.fp a
      · exact .inl n
      · rw [e.keep a o q n] at y; cases y
theorem Temp.imm {b : Bool} (h : RD b K w1.F v d) : Temp K (.v b) w w1 d v := ⟨fun _ => False, h, fun _ z => z.elim⟩
theorem Temp.rd {b : Bool} (t : Temp K (.v b) w w1 d v) : RD b K w1.F v d := t.elim fun _ h => h.1
theorem Temp.dp (hk : dk k = true) (t : Temp K k w w1 d v) (e : Same w1.F w1.H) : Dp K w1.H v d := t.elim fun _ h => OD.dp e hk h.1
end
end FN
set_option Elab.async false
set_option linter.all false
set_option maxRecDepth 100000
set_option maxHeartbeats 4000000
/-! FN2: outcomes, expressions, arguments, tests. -/
namespace FN
open PySem PySem.Spec PyProof.Rows L2
inductive Out (α : Type) where
  | ok (a : α) (ρ : Env)
  | err (c : Str) (d : D) (ρ : Env)
abbrev M (α : Type) := Env → Option (Out α)
structure Ct where
  K : PySem.W.Frag
  mg : Str → Option Value
  W : WX
def ErrAt (c : Ct) (n : Str) (d : D) (cls : Value) (dx : Addr) (w : Wd) : Prop :=
  ∃ (C : Addr) (v : V), c.mg n = some (.ref C) ∧ cls = .ref C ∧ w.F dx = some (.xd [(("value" : Str), v)]) ∧ RD true c.K w.F v d
def ErrOk (c : Ct) (κ : List Kind) (σ : L2.St) (w : Wd) (n : Str) (d : D) (ρ : Env) : Prop :=
  ∀ cls dx w', Rel c.K κ ρ σ w' → Ext w w' → ErrAt c n d cls dx w' → c.W cls (some dx) σ w'.H
inductive Md where
  /-- a value of kind k -/
  | t (k : Kind)
  /-- the object in slot i -/
  | r (i : Nat)
def TempM (K : PySem.W.Frag) (m : Md) (σ : L2.St) (w w' : Wd) (d : D) (v : V) : Prop := match m with
  | .t k => Temp K k w w' d v
  | .r i => σ[i]? = some (some v)
def PostV (c : Ct) (κ : List Kind) (σ : L2.St) (m : Md) (w : Wd) (Q : VK) : Option (Out D) → Prop
  | some (.ok d ρ) => ∀ v w', Rel c.K κ ρ σ w' → Ext w w' → TempM c.K m σ w w' d v → Q v w'.H
  | some (.err n d ρ) => ErrOk c κ σ w n d ρ
  | none => False
def tV (c : Ct) (κ : List Kind) (m : Md) (f : M D) : TE := fun σ H Q => ∃ ρ w, w.H = H ∧ Rel c.K κ ρ σ w ∧ PostV c κ σ m w Q (f ρ)
abbrev ctx (X : Cx) (W : WX) : Ct := ⟨X.K, X.mg, W⟩
def FV (X : Cx) (W : WX) (κ : List Kind) (m : Md) (e : Expr) (f : M D) : Prop := PE X e (tV (ctx X W) κ m f)
/-- a reading weakened -/
theorem _root_.L2.PE.imp {X : Cx} {e : Expr} {t t' : TE} (h : PE X e t) (i : ∀ σ H Q, t' σ H Q → t σ H Q) : PE X e t' := ⟨fun pins s σ H Q I q => h.run pins s σ H Q I (i σ H Q q)⟩
theorem _root_.L2.PT.imp {X : Cx} {e : Expr} {t t' : TT} (h : PT X e t) (i : ∀ σ H Q, t' σ H Q → t σ H Q) : PT X e t' := ⟨fun pins s σ H Q I q => h.run pins s σ H Q I (i σ H Q q)⟩
theorem _root_.L2.PA.imp {X : Cx} {e : List Expr} {t t' : TA} (h : PA X e t) (i : ∀ σ H Q, t' σ H Q → t σ H Q) : PA X e t' := ⟨fun pos pins s σ H Q I q => h.run pos pins s σ H Q I (i σ H Q q)⟩
theorem _root_.L2.PS.imp {X : Cx} {e : Stmt} {t t' : TS} (h : PS X e t) (i : ∀ D σ H, t' D σ H → t D σ H) : PS X e t' := ⟨fun pins s σ H Q I q => h.run pins s σ H Q I (i Q σ H q)⟩
theorem _root_.L2.PSs.imp {X : Cx} {e : List Stmt} {t t' : TS} (h : PSs X e t) (i : ∀ D σ H, t' D σ H → t D σ H) : PSs X e t' := ⟨fun pins s σ H Q I q => h.run pins s σ H Q I (i Q σ H q)⟩
/-- one after another; e: how an error is handed on -/
def bnd {α β : Type} (r : Option (Out α)) (e : Str → D → Env → β) (g : α → Env → Option β) : Option β := match r with
  | some (.ok a ρ) => g a ρ
  | some (.err c d ρ) => some (e c d ρ)
  | none => none
abbrev bdo {α β : Type} (r : Option (Out α)) (g : α → Env → Option (Out β)) : Option (Out β) := bnd r Out.err g
section
variable {c : Ct} {κ : List Kind} {σ : L2.St} {w w1 : Wd}
theorem seqV {β : Type} {m : Md} {fa : M D} {ρ : Env} {P : Option β → Prop} {e : Str → D → Env → β} {g : D → Env → Option β} {R : VK} (rel : Rel c.K κ ρ σ w1) (h : P (bnd (fa ρ) e g)) (hN : ¬ P none) (hE : ∀ n d ρ', P (some (e n d ρ')) → ErrOk c κ σ w1 n d ρ')
    (hR : ∀ d ρ2 v w2, Rel c.K κ ρ2 σ w2 → Ext w1 w2 → TempM c.K m σ w1 w2 d v → P (g d ρ2) → R v w2.H) : tV c κ m fa σ w1.H R := by
  refine ⟨ρ, w1, rfl, rel, ?_⟩
  cases q : fa ρ with
  | none =>
    rw [q] at h
    exact hN h
  | some o =>
    rw [q] at h
    cases o with
    | ok d ρ2 => exact fun v w2 r2 e2 t2 => hR d ρ2 v w2 r2 e2 t2 h
    | err n d ρ2 => exact hE n d ρ2 h
theorem ErrOk.since {n : Str} {d : D} {ρ : Env} (h : ErrOk c κ σ w n d ρ) (e : Ext w w1) : ErrOk c κ σ w1 n d ρ := fun cls dx w' r x a => h cls dx w' r (e.trans x) a
theorem PostV.N {m : Md} {Q : VK} : ¬ PostV c κ σ m w Q none := fun h => h
theorem TempM.since {m : Md} {w2 : Wd} {d : D} {v : V} (t : TempM c.K m σ w1 w2 d v) (e : Ext w w1) : TempM c.K m σ w w2 d v := by
  cases m with
  | t k => exact Temp.since t e
  | r i => exact t
theorem TempM.keep {m : Md} {w2 : Wd} {d : D} {v : V} (t : TempM c.K m σ w w1 d v) (e : Ext w1 w2) : TempM c.K m σ w w2 d v := by
  cases m with
  | t k => exact Temp.keep t e
  | r i => exact t
/-- the data of an operand, read behind all that was evaluated -/
def rd (m : Md) (d : D) (ρ : Env) : Option D := match m with
  | .t k => match dk k with
    | true => some d
    | false => none
  | .r i => match ρ[i]? with
    | some (some (.dict _)) => none
    | some (some d) => some d
    | _ => none
theorem rd_r {i : Nat} {d d' : D} {ρ : Env} (h : rd (.r i) d ρ = some d') : ρ[i]? = some (some d') ∧ ∀ ps, d' ≠ .dict ps := by
  unfold rd at h
  dsimp only at h
  split at h
  · cases h
  · rename_i d2 hn e
    cases h
    exact ⟨e, fun ps z => hn ps z⟩
  · cases h
theorem rd_t {k : Kind} {d d' : D} {ρ : Env} (h : rd (.t k) d ρ = some d') : d' = d ∧ dk k = true := by
  unfold rd at h
  dsimp only at h
  split at h
  · rename_i e
    cases h
    exact ⟨rfl, e⟩
  · cases h
theorem join_some {α : Type} {o : Option (Option α)} {a : α} (h : o.join = some a) : o = some (some a) := by
  cases o with
  | none => cases h
  | some o => exact congrArg some h
theorem kind_at {K : PySem.W.Frag} {κ : List Kind} {ρ : Env} {σ : L2.St} {w : Wd} {i : Nat} {d : D} (rel : Rel K κ ρ σ w) (h : ρ[i]? = some (some d)) : ∃ k, κ[i]? = some k := by
  have l := rel.slots.lengths
  have hi : i < ρ.length := (List.getElem?_eq_some_iff.mp h).1
  exact ⟨κ[i]'(by omega), List.getElem?_eq_getElem _⟩
theorem rd_dp {m : Md} {ρ : Env} {d d' : D} {v : V} (rel : Rel c.K κ ρ σ w1) (t : TempM c.K m σ w w1 d v) (h : rd m d ρ = some d') : Dp c.K w1.H v d' := by
  cases m with
  | t k =>
    obtain ⟨rfl, hk⟩ := rd_t h
    exact Temp.dp hk t rel.same
  | r i =>
    obtain ⟨h', hn⟩ := rd_r h
    obtain ⟨k, hk⟩ := kind_at rel h'
    obtain ⟨v', f, e, o, _⟩ := rel.slots.get h' hk
    rw [show σ[i]? = some (some v) from t] at e
    cases e
    exact OD.dpn rel.same hn o
/-- an immediate datum -/
theorem rd_imm {b : Bool} {ρ : Env} {d d' : D} {v : V} (t : TempM c.K (.t (.v b)) σ w w1 d v) (h : rd (.t (.v b)) d ρ = some d') : RD b c.K w1.F v d' := by
  cases h
  exact Temp.rd t
end
/-! ### what a value-level step ends with -/
section
variable {c : Ct} {κ : List Kind} {σ : L2.St} {w w1 : Wd} {ρ : Env} {d : D} {Q : VK}
theorem fin_imm {b : Bool} {v : V} (h : PostV c κ σ (.t (.v b)) w Q (some (.ok d ρ))) (rel : Rel c.K κ ρ σ w1) (e : Ext w w1) (r : RD b c.K w1.F v d) : Q v w1.H := h v w1 rel e (Temp.imm r)
/-- a new frozen object -/
theorem world_new {K : PySem.W.Frag} {p : Addr} {o : HO} (rel : Rel K κ ρ σ w) (np : w.H p = none) : ∃ w', w'.H = upd w.H p o ∧ w'.F = upd w.F p o ∧ Rel K κ ρ σ w' ∧ Ext w w' := by
  have nF : w.F p = none := rel.same.free np
  have sF : Same w.F (upd w.F p o) := fun b u h => by rw [upd_ne (ne_of_none h nF)]; exact h
  have sH : Same w.H (upd w.H p o) := fun b u h => by rw [upd_ne (ne_of_none h np)]; exact h
  have ne : ∀ a, w.fp a → a ≠ p := fun a h z => rel.live a h (by rw [z]; exact np)
  refine ⟨⟨upd w.F p o, upd w.H p o, w.fp⟩, rfl, rfl, ⟨fun b u h => ?_, fun a h => ?_, fun a h => ?_, rel.fixed, rel.slots.frame sF fun a u _ h => sH a u h⟩, ⟨sF, fun a u h => ?_, fun a u h _ => sH a u h, fun a h => .inl h⟩⟩
  · have h' : upd w.F p o b = some u := h
    show upd w.H p o b = some u
    by_cases hb : b = p
    · rw [hb, upd_same] at h'
      rw [hb, upd_same]
      exact h'
    · rw [upd_ne hb] at h'
      rw [upd_ne hb]
      exact rel.same b u h'
  · show upd w.F p o a = none
    rw [upd_ne (ne a h)]
    exact rel.frz a h
  · show upd w.H p o a ≠ none
    rw [upd_ne (ne a h)]
    exact rel.live a h
  · by_cases hb : a = p
    · exact .inr (.inr (by rw [hb]; exact np))
    · have h' : upd w.F p o a = some u := h
      rw [upd_ne hb] at h'
      exact .inl h'
/-- a new object beside -/
theorem world_own {K : PySem.W.Frag} {p : Addr} {o : HO} (rel : Rel K κ ρ σ w) (np : w.H p = none) : ∃ w', w'.H = upd w.H p o ∧ w'.F = w.F ∧ w'.fp = w.fp ∧ Rel K κ ρ σ w' ∧ Ext w w' := by
  have sH : Same w.H (upd w.H p o) := fun b u h => by rw [upd_ne (ne_of_none h np)]; exact h
  have ne : ∀ a, w.fp a → a ≠ p := fun a h z => rel.live a h (by rw [z]; exact np)
  refine ⟨⟨w.F, upd w.H p o, w.fp⟩, rfl, rfl, rfl, ⟨rel.same.trans sH, rel.frz, fun a h => ?_, rel.fixed, rel.slots.frame (Same.refl _) fun a u _ h => sH a u h⟩, ⟨Same.refl _, fun a u h => .inl h, fun a u h _ => sH a u h, fun a h => .inl h⟩⟩
  show upd w.H p o a ≠ none
  rw [upd_ne (ne a h)]
  exact rel.live a h
theorem fin_tup {b : Bool} {p : Addr} {xs : List V} {ds : List D} (h : PostV c κ σ (.t (.v b)) w Q (some (.ok (.tuple ds) ρ))) (rel : Rel c.K κ ρ σ w1) (e : Ext w w1) (r : RDs b c.K w1.F xs ds) (np : w1.H p = none) : Q (.ref p) (upd w1.H p (.tup xs)) := by
  obtain ⟨w2, eH, eF, rel2, e2⟩ := world_new (o := .tup xs) rel np
  rw [← eH]
  exact h _ w2 rel2 (e.trans e2) (Temp.imm (.tup (by rw [eF, upd_same]) (r.mono e2.same)))
/-- a new list, frozen at once, or owned -/
def newL (b : Bool) : Kind → Prop
  | .v c => c = b
  | .lst (.v c) => c = b
  | _ => False
theorem odl_imm {b : Bool} {K : PySem.W.Frag} {F H : Hp} {fp : FpS} : ∀ {xs : List V} {ds : List D}, RDs b K F xs ds → ODl (fun v d f => dk (.v b) = true ∧ OD K F H (.v b) v d f) xs ds fp
  | _, _, .nil => .nil
  | _, _, .cons h t => .cons (f := fun _ => False) (g := fun _ => False) ⟨rfl, h⟩ (odl_imm t) (fun _ z => z.elim) (fun _ z => z.elim) fun _ z => z.elim
theorem fin_lst {b : Bool} {k : Kind} {p : Addr} {xs : List V} {ds : List D} (hk : newL b k) (h : PostV c κ σ (.t k) w Q (some (.ok (.list ds) ρ))) (rel : Rel c.K κ ρ σ w1) (e : Ext w w1) (r : RDs b c.K w1.F xs ds) (np : w1.H p = none) : Q (.ref p) (upd w1.H p (.lst xs)) := by
  cases k with
  | v c =>
    cases hk
    obtain ⟨w2, eH, eF, rel2, e2⟩ := world_new (o := .lst xs) rel np
    rw [← eH]
    exact h _ w2 rel2 (e.trans e2) (Temp.imm (.lst (by rw [eF, upd_same]) (r.mono e2.same)))
  | lst k =>
    cases k with
    | v c =>
      cases hk
      obtain ⟨w2, eH, eF, ef, rel2, e2⟩ := world_own (o := .lst xs) rel np
      rw [← eH]
      refine h _ w2 rel2 (e.trans e2) ⟨fun a => a = p, ⟨p, xs, ds, fun _ => False, rfl, rfl, by rw [eH, upd_same], rfl, fun z => z, fun _ z => z.elim, odl_imm (by rw [eF]; exact r)⟩, fun a ha => ?_⟩
      have ha' : a = p := ha
      rw [ha']
      refine ⟨fun z => ?_, ?_, ?_, ?_⟩
      · rw [ef] at z
        exact rel.live _ z np
      · rw [eF]
        exact rel.same.free np
      · rw [eH, upd_same]
        intro z; cases z
      · cases q : w.H p with
        | none => exact .inr rfl
        | some o =>
          by_cases y : w.fp p
          · exact .inl y
          · rw [e.keep p o q y] at np; cases np
    | lst _ => exact hk.elim
    | _ => exact hk.elim
  | _ => exact hk.elim
end
/-! ### names, constants -/
section
variable {X : Cx} {W : WX} {κ : List Kind} {pos : Pos}
def fVar (i : Nat) : M D := fun ρ => match ρ[i]? with
  | some (some d) => some (.ok d ρ)
  | _ => none
theorem ev_var {c : Ct} {b : Bool} {i : Nat} {σ : L2.St} {H : Hp} {Q : VK} (hk : κ[i]? = some (.v b)) (h : tV c κ (.t (.v b)) (fVar i) σ H Q) : tVar i σ H Q := by
  obtain ⟨ρ, w, rfl, rel, post⟩ := h
  unfold fVar at post
  split at post
  · rename_i d e
    obtain ⟨v, f, e1, o, _⟩ := rel.slots.get e hk
    exact ⟨v, e1, fin_imm post rel (Ext.refl _) o⟩
  · exact post.elim
/-- a name that holds an immediate datum -/
theorem fe_var {b : Bool} (i : Nat) {x : Str} (hk : κ[i]? = some (.v b) := by rfl) (hN : X.N[i]? = some x := by rfl) (hv : Vis X.env.scope x := by first | exact Or.inl rfl | exact Or.inr (Or.inl rfl) | exact Or.inr (Or.inr rfl)) (hd : (x == ("__debug__" : Str)) = false := by decide)
    (hcd : (x == ("__classdict__" : Str)) = false := by decide) : FV X W κ (.t (.v b)) (.Name x pos) (fVar i) := (pe_var hN hv hd hcd).imp fun _ _ _ h => ev_var hk h
/-- a name, as the object that it holds -/
def fRef (i : Nat) : M D := fun ρ => match ρ[i]? with
  | some (some _) => some (.ok .none ρ)
  | _ => none
theorem fe_ref (i : Nat) {x : Str} (hN : X.N[i]? = some x := by rfl) (hv : Vis X.env.scope x := by first | exact Or.inl rfl | exact Or.inr (Or.inl rfl) | exact Or.inr (Or.inr rfl)) (hd : (x == ("__debug__" : Str)) = false := by decide)
    (hcd : (x == ("__classdict__" : Str)) = false := by decide) : FV X W κ (.r i) (.Name x pos) (fRef i) := (pe_var hN hv hd hcd).imp fun σ H Q h => by
  obtain ⟨ρ, w, rfl, rel, post⟩ := h
  unfold fRef at post
  split at post
  · rename_i d e
    obtain ⟨k, hk⟩ := kind_at rel e
    obtain ⟨v, f, e1, o, _⟩ := rel.slots.get e hk
    exact ⟨v, e1, post v w rel (Ext.refl _) e1⟩
  · exact post.elim
def fC (d : D) : M D := fun ρ => some (.ok d ρ)
theorem ev_con {b : Bool} {c : Ct} {v : V} {d : D} {σ : L2.St} {H : Hp} {Q : VK} (r : ∀ F, RD b c.K F v d) (h : tV c κ (.t (.v b)) (fC d) σ H Q) : Q v H := by
  obtain ⟨ρ, w, rfl, rel, post⟩ := h
  exact fin_imm post rel (Ext.refl _) (r _)
theorem fe_int {b : Bool} {i j} : FV X W κ (.t (.v b)) (.Constant (.int i) j pos) (fC (.int i)) := pe_int.imp fun _ _ _ h => ev_con (fun _ => .int i) h
theorem fe_bl {b : Bool} {c j} : FV X W κ (.t (.v b)) (.Constant (.bool c) j pos) (fC (.bool c)) := pe_bl.imp fun _ _ _ h => ev_con (fun _ => .bl c) h
theorem fe_non {b : Bool} {j} : FV X W κ (.t (.v b)) (.Constant .none j pos) (fC .none) := pe_non.imp fun _ _ _ h => ev_con (fun _ => .non) h
theorem fe_str {b : Bool} {x j} : FV X W κ (.t (.v b)) (.Constant (.str x) j pos) (fC (.str x)) := pe_str.imp fun _ _ _ h => ev_con (fun _ => .str x) h
/-- a module's constant that is no object -/
theorem fe_glob {b : Bool} {x : Str} {v : V} {d : D} {u : Value} (hg : Gl X x) (hm : X.mg x = some u) (r : RelV v u) (q : ∀ F, RD b X.K F v d) (hd : (x == ("__debug__" : Str)) = false := by decide) : FV X W κ (.t (.v b)) (.Name x pos) (fC d) :=
  (pe_glob hg hm r hd).imp fun _ _ _ h => ev_con q h
end
/-! ### operators on two data -/
section
variable {X : Cx} {W : WX} {κ : List Kind} {pos : Pos} {a b : Expr} {fa fb : M D} {ma mb : Md}
/-- two operands, then op of their data -/
def f2 (ma mb : Md) (op : D → D → Option D) (fa fb : M D) : M D := fun ρ => bdo (fa ρ) fun x ρ1 => bdo (fb ρ1) fun y ρ2 => match rd ma x ρ2, rd mb y ρ2 with
  | some x, some y => (op x y).map fun z => .ok z ρ2
  | _, _ => none
/-- a value-level rule whose answer is an immediate datum that leans on no heap -/
def Sc (K : PySem.W.Frag) (r : R2) (op : D → D → Option D) : Prop := ∀ x y dx dy z (H : Hp) (Q : VK), Dp K H x dx → Dp K H y dy → op dx dy = some z → (∀ v, (∀ b F, RD b K F v z) → Q v H) → r x y H Q
theorem ev_2 {c : Ct} {k : Kind} {op : D → D → Option D} {r : R2} {σ : L2.St} {H : Hp} {Q : VK}
    (hr : ∀ ρ w w2 x y dx dy vx vy z, Rel c.K κ ρ σ w2 → Ext w w2 → TempM c.K ma σ w w2 dx vx → TempM c.K mb σ w w2 dy vy → rd ma dx ρ = some x → rd mb dy ρ = some y → op x y = some z → PostV c κ σ (.t k) w Q (some (.ok z ρ)) → r vx vy w2.H Q)
    (h : tV c κ (.t k) (f2 ma mb op fa fb) σ H Q) : tOp r (tV c κ ma fa) (tV c κ mb fb) σ H Q := by
  obtain ⟨ρ, w, rfl, rel, post⟩ := h
  refine seqV (P := PostV c κ σ (.t k) w Q) rel post (fun z => z) (fun n d ρ' z => z) fun dx ρ1 vx w1 rel1 e1 t1 post1 => ?_
  refine seqV (P := PostV c κ σ (.t k) w Q) rel1 post1 (fun z => z) (fun n d ρ' z => z.since e1) fun dy ρ2 vy w2 rel2 e2 t2 post2 => ?_
  split at post2
  · rename_i x y ex ey
    cases ez : op x y with
    | none =>
      rw [ez] at post2
      exact post2.elim
    | some z =>
      rw [ez] at post2
      exact hr ρ2 w w2 x y dx dy vx vy z rel2 (e1.trans e2) (t1.keep e2) (t2.since e1) ex ey ez post2
  · exact post2.elim
theorem fe_op {bb : Bool} {op : Operator} {r : R2} {o : D → D → Option D} (ho : OpR X (binaryOp op) r) (hs : Sc X.K r o) (ha : FV X W κ ma a fa) (hb : FV X W κ mb b fb) : FV X W κ (.t (.v bb)) (.BinOp a op b pos) (f2 ma mb o fa fb) :=
  (pe_op ho ha hb).imp fun _ _ _ h => ev_2 (fun _ _ _ _ _ _ _ _ _ _ rel e t1 t2 e1 e2 ez post => hs _ _ _ _ _ _ _ (rd_dp rel t1 e1) (rd_dp rel t2 e2) ez fun v q => fin_imm post rel e (q _ _)) h
theorem fe_cmp {bb : Bool} {op : CmpOp} {r : R2} {o : D → D → Option D} (ho : OpR X (compareOp op) r) (hs : Sc X.K r o) (ha : FV X W κ ma a fa) (hb : FV X W κ mb b fb) (hm : behindInMarks op b = false) : FV X W κ (.t (.v bb)) (.Compare a [op] [b] pos) (f2 ma mb o fa fb) :=
  (pe_cmpR ho ha hb hm).imp fun _ _ _ h => ev_2 (fun _ _ _ _ _ _ _ _ _ _ rel e t1 t2 e1 e2 ez post => hs _ _ _ _ _ _ _ (rd_dp rel t1 e1) (rd_dp rel t2 e2) ez fun v q => fin_imm post rel e (q _ _)) h
end
/-! ### the operators -/
section
variable {K : PySem.W.Frag}
theorem dp_int {H : Hp} {x : V} {i : Int} (h : Dp K H x (.int i)) : x = .int i := by cases h; rfl
theorem dp_str {H : Hp} {x : V} {i : Str} (h : Dp K H x (.str i)) : x = .str i := by cases h; rfl
theorem dp_bl {H : Hp} {x : V} {i : Bool} (h : Dp K H x (.bool i)) : x = .bl i := by cases h; rfl
/-- of two ints -/
def oI (p : Int → Int → Bool) (g : Int → Int → D) : D → D → Option D
  | .int i, .int j => if p i j then some (g i j) else none
  | _, _ => none
theorem sc_I {C : Int → Int → Prop} {p : Int → Int → Bool} {g : Int → Int → V} {gd : Int → Int → D} (hp : ∀ i j, p i j = true → C i j) (hg : ∀ i j b F, RD b K F (g i j) (gd i j)) : Sc K (rI C g) (oI p gd) := by
  intro x y dx dy z H Q hx hy ho q
  unfold oI at ho
  split at ho
  · rename_i i j
    split at ho
    · rename_i c
      cases ho
      exact ⟨i, j, dp_int hx, dp_int hy, hp i j c, q _ (hg i j)⟩
    · cases ho
  · cases ho
theorem sc_I0 {g : Int → Int → V} {gd : Int → Int → D} (hg : ∀ i j b F, RD b K F (g i j) (gd i j)) : Sc K (rI0 g) (oI (fun _ _ => true) gd) := by
  intro x y dx dy z H Q hx hy ho q
  unfold oI at ho
  split at ho
  · rename_i i j
    cases ho
    exact ⟨i, j, dp_int hx, dp_int hy, q _ (hg i j)⟩
  · cases ho
def bMul (i j : Int) : Bool := decide ((-(2 ^ 64) < i ∧ i < 2 ^ 64) ∨ (-(2 ^ 64) < j ∧ j < 2 ^ 64))
def dSub : D → D → Option D := oI (fun _ _ => true) fun i j => .int (i - j)
def dMod : D → D → Option D := oI (fun _ j => decide (0 < j)) fun i j => .int (i % j)
def dPow : D → D → Option D := oI (fun i j => decide (0 ≤ j ∧ j ≤ 1000000 ∧ i.natAbs < 2 ^ 64)) fun i j => .int (i ^ j.toNat)
def dLt : D → D → Option D := oI (fun _ _ => true) fun i j => .bool (decide (i < j))
def dLe : D → D → Option D := oI (fun _ _ => true) fun i j => .bool (decide (i ≤ j))
def dGt : D → D → Option D := oI (fun _ _ => true) fun i j => .bool (decide (j < i))
def dGe : D → D → Option D := oI (fun _ _ => true) fun i j => .bool (decide (j ≤ i))
theorem s_sub : Sc K (rI0 fun i j => .int (i - j)) dSub := sc_I0 fun i j b F => .int _
theorem s_mod : Sc K (rI (fun _ j => 0 < j) fun i j => .int (i % j)) dMod := sc_I (fun i j h => of_decide_eq_true h) fun i j b F => .int _
theorem s_pow : Sc K (rI CPow fun i j => .int (i ^ j.toNat)) dPow := sc_I (fun i j h => (of_decide_eq_true h : 0 ≤ j ∧ j ≤ 1000000 ∧ i.natAbs < 2 ^ 64)) fun i j b F => .int _
theorem s_lt : Sc K (rI0 fun i j => .bl (decide (i < j))) dLt := sc_I0 fun i j b F => .bl _
theorem s_le : Sc K (rI0 fun i j => .bl (decide (i ≤ j))) dLe := sc_I0 fun i j b F => .bl _
theorem s_gt : Sc K (rI0 fun i j => .bl (decide (j < i))) dGt := sc_I0 fun i j b F => .bl _
theorem s_ge : Sc K (rI0 fun i j => .bl (decide (j ≤ i))) dGe := sc_I0 fun i j b F => .bl _
def dEq (x y : D) : Option D := if SeqAt.shaped x && SeqAt.shaped y then some (.bool (PyData.eqv x y)) else none
def dNe (x y : D) : Option D := if SeqAt.shaped x && SeqAt.shaped y then some (.bool (!PyData.eqv x y)) else none
theorem s_eq : Sc K (rEqD K) dEq := by
  intro x y dx dy z H Q hx hy ho q
  unfold dEq at ho
  split at ho
  · rename_i c
    cases ho
    rw [Bool.and_eq_true] at c
    exact ⟨dx, dy, hx, hy, c.1, c.2, q _ fun b F => .bl _⟩
  · cases ho
theorem s_ne : Sc K (rNeD K) dNe := by
  intro x y dx dy z H Q hx hy ho q
  unfold dNe at ho
  split at ho
  · rename_i c
    cases ho
    rw [Bool.and_eq_true] at c
    exact ⟨dx, dy, hx, hy, c.1, c.2, q _ fun b F => .bl _⟩
  · cases ho
end
end FN
set_option Elab.async false
set_option linter.all false
set_option maxRecDepth 100000
set_option maxHeartbeats 4000000
/-! FN3: tests, and, or, not, displays, arguments, subscripts, slices. -/
namespace FN
open PySem PySem.Spec PyProof.Rows L2
/-! ### tests -/
def PostT (c : Ct) (κ : List Kind) (σ : L2.St) (w : Wd) (Q : Bool → Hp → Prop) : Option (Out Bool) → Prop
  | some (.ok b ρ) => ∀ w', Rel c.K κ ρ σ w' → Ext w w' → Q b w'.H
  | some (.err n d ρ) => ErrOk c κ σ w n d ρ
  | none => False
def tT (c : Ct) (κ : List Kind) (f : M Bool) : TT := fun σ H Q => ∃ ρ w, w.H = H ∧ Rel c.K κ ρ σ w ∧ PostT c κ σ w Q (f ρ)
def FT (X : Cx) (W : WX) (κ : List Kind) (e : Expr) (f : M Bool) : Prop := PT X e (tT (ctx X W) κ f)
def FW (X : Cx) (W : WX) (κ : List Kind) (e : Expr) (f : M Bool) : Prop := PW X e (tT (ctx X W) κ f)
theorem _root_.L2.PW.imp {X : Cx} {e : Expr} {t t' : TT} (h : PW X e t) (i : ∀ σ H Q, t' σ H Q → t σ H Q) : PW X e t' := ⟨fun wh pins s σ H Q I q => h.run wh pins s σ H Q I (i σ H Q q)⟩
section
variable {c : Ct} {κ : List Kind} {σ : L2.St} {w w1 : Wd}
theorem seqT {β : Type} {fa : M Bool} {ρ : Env} {P : Option β → Prop} {e : Str → D → Env → β} {g : Bool → Env → Option β} {R : Bool → Hp → Prop} (rel : Rel c.K κ ρ σ w1) (h : P (bnd (fa ρ) e g)) (hN : ¬ P none) (hE : ∀ n d ρ', P (some (e n d ρ')) → ErrOk c κ σ w1 n d ρ')
    (hR : ∀ b ρ2 w2, Rel c.K κ ρ2 σ w2 → Ext w1 w2 → P (g b ρ2) → R b w2.H) : tT c κ fa σ w1.H R := by
  refine ⟨ρ, w1, rfl, rel, ?_⟩
  cases q : fa ρ with
  | none =>
    rw [q] at h
    exact hN h
  | some o =>
    rw [q] at h
    cases o with
    | ok d ρ2 => exact fun w2 r2 e2 => hR d ρ2 w2 r2 e2 h
    | err n d ρ2 => exact hE n d ρ2 h
theorem PostV.since {m : Md} {Q : VK} {r : Option (Out D)} (h : PostV c κ σ m w Q r) (e : Ext w w1) : PostV c κ σ m w1 Q r := by
  cases r with
  | none => exact h
  | some o =>
    cases o with
    | ok d ρ => exact fun v w' r x t => h v w' r (e.trans x) (t.since e)
    | err n d ρ => exact ErrOk.since h e
theorem PostT.since {Q : Bool → Hp → Prop} {r : Option (Out Bool)} (h : PostT c κ σ w Q r) (e : Ext w w1) : PostT c κ σ w1 Q r := by
  cases r with
  | none => exact h
  | some o =>
    cases o with
    | ok d ρ => exact fun w' r x => h w' r (e.trans x)
    | err n d ρ => exact ErrOk.since h e
/-- truth of data -/
def truD : D → Option Bool
  | .none => some false
  | .bool b => some b
  | .int i => some (i != 0)
  | .str x => if x.length ≤ sizeLine then some ((x.length : Int) != 0) else none
  | .list xs => some !xs.isEmpty
  | .tuple xs => some !xs.isEmpty
  | .dict _ => none
theorem truD_ok {K : PySem.W.Frag} {H : Hp} {v : V} {d : D} {k : Bool} (h : Dp K H v d) (e : truD d = some k) : TruV K v H k := by
  cases h with
  | non => cases e; rfl
  | bl b => cases e; rfl
  | int i => cases e; rfl
  | str x =>
    have e' : (if x.length ≤ sizeLine then some ((x.length : Int) != 0) else none) = some k := e
    split at e'
    · rename_i hl
      cases e'
      exact ⟨hl, rfl⟩
    · cases e'
  | lst h t =>
    cases e
    refine .inl ⟨_, h, ?_⟩
    cases t <;> rfl
  | tup h t =>
    cases e
    refine .inr (.inl ⟨_, h, ?_⟩)
    cases t <;> rfl
def fTru (m : Md) (fa : M D) : M Bool := fun ρ => bdo (fa ρ) fun x ρ1 => match rd m x ρ1 with
  | some x => (truD x).map fun b => .ok b ρ1
  | none => none
end
section
variable {X : Cx} {W : WX} {κ : List Kind} {pos : Pos} {a b e : Expr} {fa fb : M D} {ma mb : Md} {ta tb : M Bool}
theorem ft_tru (ha : FV X W κ ma a fa) (he : ∀ whole, isTrue a X.env whole = (do let v ← whole; standAt a.pos; holding [v] (truthy v)) := by intro _; rfl) : FT X W κ a (fTru ma fa) :=
  (pt_truth ha he).imp fun σ H Q h => by
    obtain ⟨ρ, w, rfl, rel, post⟩ := h
    refine seqV (P := PostT (ctx X W) κ σ w Q) rel post (fun z => z) (fun n d ρ' z => z) fun d ρ1 v w1 rel1 e1 t1 post1 => ?_
    split at post1
    · rename_i x ex
      cases eb : truD x with
      | none =>
        rw [eb] at post1
        exact post1.elim
      | some k =>
        rw [eb] at post1
        exact ⟨k, truD_ok (rd_dp rel1 t1 ex) eb, post1 w1 rel1 e1⟩
    · exact post1.elim
def tAndF (ta tb : M Bool) : M Bool := fun ρ => bdo (ta ρ) fun c ρ1 => if c = true then tb ρ1 else some (.ok false ρ1)
def tOrF (ta tb : M Bool) : M Bool := fun ρ => bdo (ta ρ) fun c ρ1 => if c = true then some (.ok true ρ1) else tb ρ1
def tNotF (ta : M Bool) : M Bool := fun ρ => bdo (ta ρ) fun c ρ1 => some (.ok (!c) ρ1)
theorem fw_and1 (ha : FT X W κ a ta) : FW X W κ (.BoolOp .And [a] pos) ta := pw_and1 ha
theorem fw_or1 (ha : FT X W κ a ta) : FW X W κ (.BoolOp .Or [a] pos) ta := pw_or1 ha
theorem fw_and {rest : List Expr} (ha : FT X W κ a ta) (hb : FW X W κ (.BoolOp .And (b :: rest) pos) tb) : FW X W κ (.BoolOp .And (a :: b :: rest) pos) (tAndF ta tb) := (pw_and ha hb).imp fun σ H Q h => by
  obtain ⟨ρ, w, rfl, rel, post⟩ := h
  refine seqT (P := PostT (ctx X W) κ σ w Q) rel post (fun z => z) (fun n d ρ' z => z) fun k ρ1 w1 rel1 e1 post1 => ?_
  cases k with
  | true => exact ⟨ρ1, w1, rfl, rel1, PostT.since post1 e1⟩
  | false => exact post1 w1 rel1 e1
theorem fw_or {rest : List Expr} (ha : FT X W κ a ta) (hb : FW X W κ (.BoolOp .Or (b :: rest) pos) tb) : FW X W κ (.BoolOp .Or (a :: b :: rest) pos) (tOrF ta tb) := (pw_or ha hb).imp fun σ H Q h => by
  obtain ⟨ρ, w, rfl, rel, post⟩ := h
  refine seqT (P := PostT (ctx X W) κ σ w Q) rel post (fun z => z) (fun n d ρ' z => z) fun k ρ1 w1 rel1 e1 post1 => ?_
  cases k with
  | true => exact post1 w1 rel1 e1
  | false => exact ⟨ρ1, w1, rfl, rel1, PostT.since post1 e1⟩
theorem ft_w (h : FW X W κ e ta) : FT X W κ e ta := PW.pt h
theorem ft_not (ha : FT X W κ a ta) : FT X W κ (.UnaryOp .Not a pos) (tNotF ta) := (pt_not ha).imp fun σ H Q h => by
  obtain ⟨ρ, w, rfl, rel, post⟩ := h
  exact seqT (P := PostT (ctx X W) κ σ w Q) rel post (fun z => z) (fun n d ρ' z => z) fun k ρ1 w1 rel1 e1 post1 => post1 w1 rel1 e1
/-! ### and, or, not as values (bools but the last) -/
def fAnd (fa fb : M D) : M D := fun ρ => bdo (fa ρ) fun x ρ1 => match x with
  | .bool true => fb ρ1
  | .bool false => some (.ok (.bool false) ρ1)
  | _ => none
def fOr (fa fb : M D) : M D := fun ρ => bdo (fa ρ) fun x ρ1 => match x with
  | .bool true => some (.ok (.bool true) ρ1)
  | .bool false => fb ρ1
  | _ => none
def fNot (fa : M D) : M D := fun ρ => bdo (fa ρ) fun x ρ1 => match x with
  | .bool b => some (.ok (.bool !b) ρ1)
  | _ => none
theorem fe_one {op} {k : Kind} (ha : FV X W κ (.t k) a fa) : FV X W κ (.t k) (.BoolOp op [a] pos) fa := pe_one ha
theorem rd_bool {K : PySem.W.Frag} {b k : Bool} {w w1 : Wd} {v : V} (t : Temp K (.v b) w w1 (.bool k) v) : v = .bl k := dp_bl t.rd.dp
theorem fe_and {k : Bool} {rest : List Expr} (ha : FV X W κ (.t (.v k)) a fa) (hb : FV X W κ (.t (.v k)) (.BoolOp .And (b :: rest) pos) fb) : FV X W κ (.t (.v k)) (.BoolOp .And (a :: b :: rest) pos) (fAnd fa fb) := (pe_and ha hb).imp fun σ H Q h => by
  obtain ⟨ρ, w, rfl, rel, post⟩ := h
  refine seqV (P := PostV (ctx X W) κ σ (.t (.v k)) w Q) rel post (fun z => z) (fun n d ρ' z => z) fun d ρ1 v w1 rel1 e1 t1 post1 => ?_
  split at post1
  · exact ⟨true, rd_bool t1, ⟨ρ1, w1, rfl, rel1, PostV.since post1 e1⟩⟩
  · exact ⟨false, rd_bool t1, fin_imm post1 rel1 e1 (.bl false)⟩
  · exact post1.elim
theorem fe_or {k : Bool} {rest : List Expr} (ha : FV X W κ (.t (.v k)) a fa) (hb : FV X W κ (.t (.v k)) (.BoolOp .Or (b :: rest) pos) fb) : FV X W κ (.t (.v k)) (.BoolOp .Or (a :: b :: rest) pos) (fOr fa fb) := (pe_or ha hb).imp fun σ H Q h => by
  obtain ⟨ρ, w, rfl, rel, post⟩ := h
  refine seqV (P := PostV (ctx X W) κ σ (.t (.v k)) w Q) rel post (fun z => z) (fun n d ρ' z => z) fun d ρ1 v w1 rel1 e1 t1 post1 => ?_
  split at post1
  · exact ⟨true, rd_bool t1, fin_imm post1 rel1 e1 (.bl true)⟩
  · exact ⟨false, rd_bool t1, ⟨ρ1, w1, rfl, rel1, PostV.since post1 e1⟩⟩
  · exact post1.elim
theorem fe_not {k k' : Bool} (ha : FV X W κ (.t (.v k)) a fa) : FV X W κ (.t (.v k')) (.UnaryOp .Not a pos) (fNot fa) := (pe_not ha).imp fun σ H Q h => by
  obtain ⟨ρ, w, rfl, rel, post⟩ := h
  refine seqV (P := PostV (ctx X W) κ σ (.t (.v k')) w Q) rel post (fun z => z) (fun n d ρ' z => z) fun d ρ1 v w1 rel1 e1 t1 post1 => ?_
  split at post1
  · exact ⟨_, rd_bool t1, fin_imm post1 rel1 e1 (.bl _)⟩
  · exact post1.elim
/-! ### a if t else b -/
def fIf (t : M Bool) (fa fb : M D) : M D := fun ρ => bdo (t ρ) fun c ρ1 => if c = true then fa ρ1 else fb ρ1
theorem fe_if {c : Expr} {m : Md} (hc : FT X W κ c ta) (ha : FV X W κ m a fa) (hb : FV X W κ m b fb) : FV X W κ m (.IfExp c a b pos) (fIf ta fa fb) := (pe_ifExp hc ha hb).imp fun σ H Q h => by
  obtain ⟨ρ, w, rfl, rel, post⟩ := h
  refine seqT (P := PostV (ctx X W) κ σ m w Q) rel post (fun z => z) (fun n d ρ' z => z) fun k ρ1 w1 rel1 e1 post1 => ?_
  cases k with
  | true => exact ⟨ρ1, w1, rfl, rel1, PostV.since post1 e1⟩
  | false => exact ⟨ρ1, w1, rfl, rel1, PostV.since post1 e1⟩
/-! ### a < b < c -/
def fCh (ma mb mc : Md) (o o' : D → D → Option D) (fa fb fc : M D) : M D := fun ρ => bdo (fa ρ) fun x ρ1 => bdo (fb ρ1) fun y ρ2 => match rd ma x ρ2, rd mb y ρ2 with
  | some x', some y' => match o x' y' with
    | some (.bool true) => bdo (fc ρ2) fun z ρ3 => match rd mb y ρ3, rd mc z ρ3 with
      | some y', some z' => (o' y' z').map fun u => .ok u ρ3
      | _, _ => none
    | some (.bool false) => some (.ok (.bool false) ρ2)
    | _ => none
  | _, _ => none
theorem ev_ch {X : Cx} {W : WX} {bb : Bool} {fc : M D} {mc : Md} {r r' : R2} {o o' : D → D → Option D} {σ : L2.St} {H : Hp} {Q : VK} (hs : Sc X.K r o) (hs' : Sc X.K r' o') (h : tV (ctx X W) κ (.t (.v bb)) (fCh ma mb mc o o' fa fb fc) σ H Q) : tChain r r' (tV (ctx X W) κ ma fa) (tV (ctx X W) κ mb fb) (tV (ctx X W) κ mc fc) σ H Q := by
  obtain ⟨ρ, w, rfl, rel, post⟩ := h
  refine seqV (P := PostV (ctx X W) κ σ (.t (.v bb)) w Q) rel post (fun z => z) (fun n d ρ' z => z) fun dx ρ1 vx w1 rel1 e1 t1 post1 => ?_
  refine seqV (P := PostV (ctx X W) κ σ (.t (.v bb)) w Q) rel1 post1 (fun z => z) (fun n d ρ' z => z.since e1) fun dy ρ2 vy w2 rel2 e2 t2 post2 => ?_
  split at post2
  · rename_i x' y' ex ey
    have e12 := e1.trans e2
    split at post2
    · rename_i eo
      refine hs _ _ _ _ _ _ _ (rd_dp rel2 (t1.keep e2) ex) (rd_dp rel2 t2 ey) eo fun v q => ⟨true, dp_bl (q true (fun _ => none)).dp, ?_⟩
      rw [if_pos rfl]
      refine seqV (P := PostV (ctx X W) κ σ (.t (.v bb)) w Q) rel2 post2 (fun z => z) (fun n d ρ' z => z.since e12) fun dz ρ3 vz w3 rel3 e3 t3 post3 => ?_
      split at post3
      · rename_i y2 z2 ey2 ez2
        cases eu : o' y2 z2 with
        | none =>
          rw [eu] at post3
          exact post3.elim
        | some u =>
          rw [eu] at post3
          exact hs' _ _ _ _ _ _ _ (rd_dp rel3 (t2.keep e3) ey2) (rd_dp rel3 t3 ez2) eu fun v q => fin_imm post3 rel3 (e12.trans e3) (q _ _)
      · exact post3.elim
    · rename_i eo
      refine hs _ _ _ _ _ _ _ (rd_dp rel2 (t1.keep e2) ex) (rd_dp rel2 t2 ey) eo fun v q => ⟨false, dp_bl (q true (fun _ => none)).dp, ?_⟩
      rw [if_neg Bool.false_ne_true]
      exact fin_imm post2 rel2 e12 (.bl false)
    · exact post2.elim
  · exact post2.elim
theorem fe_ch {bb : Bool} {c : Expr} {fc : M D} {mc : Md} {op op' : CmpOp} {r r' : R2} {o o' : D → D → Option D} (ho : OpR X (compareOp op) r) (hs : Sc X.K r o) (ho' : OpR X (compareOp op') r') (hs' : Sc X.K r' o') (ha : FV X W κ ma a fa) (hb : FV X W κ mb b fb) (hc : FV X W κ mc c fc)
    (hm : lastMarks [op, op'] [b, c] = false := by with_unfolding_all rfl) : FV X W κ (.t (.v bb)) (.Compare a [op, op'] [b, c] pos) (fCh ma mb mc o o' fa fb fc) := (pe_chain ho ho' ha hb hc hm).imp fun _ _ _ h => ev_ch hs hs' h
/-! ### comparisons as tests -/
def fTst (fa : M D) : M Bool := fun ρ => bdo (fa ρ) fun d ρ1 => match d with
  | .bool b => some (.ok b ρ1)
  | _ => none
theorem tst_of {c : Ct} {f : M D} {σ : L2.St} {H : Hp} {Q : Bool → Hp → Prop} (h : tT c κ (fTst f) σ H Q) : tV c κ (.t (.v true)) f σ H (fun x H' => ∃ k, x = .bl k ∧ Q k H') := by
  obtain ⟨ρ, w, rfl, rel, post⟩ := h
  refine ⟨ρ, w, rfl, rel, ?_⟩
  unfold fTst at post
  cases e : f ρ with
  | none => rw [e] at post; exact post.elim
  | some o =>
    rw [e] at post
    cases o with
    | err n d ρ1 => exact post
    | ok d ρ1 =>
      intro v w1 rel1 e1 t1
      cases d with
      | bool b => exact ⟨b, rd_bool t1, (show PostT c κ σ w Q (some (.ok b ρ1)) from post) w1 rel1 e1⟩
      | _ => exact (show False from post).elim
theorem ft_cmp {op : CmpOp} {r : R2} {o : D → D → Option D} (ho : OpR X (compareOp op) r) (hs : Sc X.K r o) (ha : FV X W κ ma a fa) (hb : FV X W κ mb b fb) (hm : behindInMarks op b = false) : FT X W κ (.Compare a [op] [b] pos) (fTst (f2 ma mb o fa fb)) :=
  (pt_cmpR ho ha hb hm).imp fun _ _ _ h => ev_2 (fun _ _ _ _ _ _ _ _ _ _ rel e t1 t2 e1 e2 ez post => hs _ _ _ _ _ _ _ (rd_dp rel t1 e1) (rd_dp rel t2 e2) ez fun v q => fin_imm post rel e (q _ _)) (tst_of h)
theorem ft_ch {c : Expr} {fc : M D} {mc : Md} {op op' : CmpOp} {r r' : R2} {o o' : D → D → Option D} (ho : OpR X (compareOp op) r) (hs : Sc X.K r o) (ho' : OpR X (compareOp op') r') (hs' : Sc X.K r' o') (ha : FV X W κ ma a fa) (hb : FV X W κ mb b fb) (hc : FV X W κ mc c fc)
    (hm : lastMarks [op, op'] [b, c] = false := by with_unfolding_all rfl) : FT X W κ (.Compare a [op, op'] [b, c] pos) (fTst (fCh ma mb mc o o' fa fb fc)) := (pt_chain ho ho' ha hb hc hm).imp fun _ _ _ h => ev_ch hs hs' (tst_of h)
end
/-! ### arguments -/
inductive ArgsR (K : PySem.W.Frag) (σ : L2.St) (F H : Hp) : List Md → List D → List V → FpS → Prop
  | nil {fp : FpS} : ArgsR K σ F H [] [] [] fp
  | t {k : Kind} {d : D} {v : V} {ms : List Md} {ds : List D} {vs : List V} {f g fp : FpS} : OD K F H k v d f → ArgsR K σ F H ms ds vs g → (∀ a, f a → ¬ g a) → (∀ a, f a → fp a) → (∀ a, g a → fp a) → ArgsR K σ F H (.t k :: ms) (d :: ds) (v :: vs) fp
  | r {i : Nat} {d : D} {v : V} {ms : List Md} {ds : List D} {vs : List V} {fp : FpS} : σ[i]? = some (some v) → ArgsR K σ F H ms ds vs fp → ArgsR K σ F H (.r i :: ms) (d :: ds) (v :: vs) fp
def Args (K : PySem.W.Frag) (σ : L2.St) (w w' : Wd) (ms : List Md) (ds : List D) (vs : List V) : Prop :=
  ∃ g : FpS, ArgsR K σ w'.F w'.H ms ds vs g ∧ ∀ a, g a → ¬ w'.fp a ∧ w'.F a = none ∧ w'.H a ≠ none ∧ (w.fp a ∨ w.H a = none)
def PostA (c : Ct) (κ : List Kind) (σ : L2.St) (ms : List Md) (w : Wd) (Q : List V → Hp → Prop) : Option (Out (List D)) → Prop
  | some (.ok ds ρ) => ∀ vs w', Rel c.K κ ρ σ w' → Ext w w' → Args c.K σ w w' ms ds vs → Q vs w'.H
  | some (.err n d ρ) => ErrOk c κ σ w n d ρ
  | none => False
def tA (c : Ct) (κ : List Kind) (ms : List Md) (f : M (List D)) : TA := fun σ H Q => ∃ ρ w, w.H = H ∧ Rel c.K κ ρ σ w ∧ PostA c κ σ ms w Q (f ρ)
def FA (X : Cx) (W : WX) (κ : List Kind) (ms : List Md) (es : List Expr) (f : M (List D)) : Prop := PA X es (tA (ctx X W) κ ms f)
section
variable {c : Ct} {κ : List Kind} {σ : L2.St} {w w1 : Wd}
theorem seqA {β : Type} {ms : List Md} {fa : M (List D)} {ρ : Env} {P : Option β → Prop} {e : Str → D → Env → β} {g : List D → Env → Option β} {R : List V → Hp → Prop} (rel : Rel c.K κ ρ σ w1) (h : P (bnd (fa ρ) e g)) (hN : ¬ P none) (hE : ∀ n d ρ', P (some (e n d ρ')) → ErrOk c κ σ w1 n d ρ')
    (hR : ∀ ds ρ2 vs w2, Rel c.K κ ρ2 σ w2 → Ext w1 w2 → Args c.K σ w1 w2 ms ds vs → P (g ds ρ2) → R vs w2.H) : tA c κ ms fa σ w1.H R := by
  refine ⟨ρ, w1, rfl, rel, ?_⟩
  cases q : fa ρ with
  | none =>
    rw [q] at h
    exact hN h
  | some o =>
    rw [q] at h
    cases o with
    | ok d ρ2 => exact fun vs w2 r2 e2 t2 => hR d ρ2 vs w2 r2 e2 t2 h
    | err n d ρ2 => exact hE n d ρ2 h
def aNil : M (List D) := fun ρ => some (.ok [] ρ)
def aCons (fa : M D) (fr : M (List D)) : M (List D) := fun ρ => bdo (fa ρ) fun d ρ1 => bdo (fr ρ1) fun ds ρ2 => some (.ok (d :: ds) ρ2)
theorem args_cons {K : PySem.W.Frag} {w2 : Wd} {m : Md} {ms : List Md} {d : D} {v : V} {ds : List D} {vs : List V} (e1 : Ext w w1) (e2 : Ext w1 w2) (t : TempM K m σ w w1 d v) (a : Args K σ w1 w2 ms ds vs) : Args K σ w w2 (m :: ms) (d :: ds) (v :: vs) := by
  obtain ⟨g, h, c⟩ := a
  have cg : ∀ a, g a → ¬ w2.fp a ∧ w2.F a = none ∧ w2.H a ≠ none ∧ (w.fp a ∨ w.H a = none) := fun a z => by
    obtain ⟨c1, c2, c3, c4⟩ := c a z
    refine ⟨c1, c2, c3, ?_⟩
    rcases c4 with y | y
    · exact e1.fp a y
    · cases q : w.H a with
      | none => exact .inr rfl
      | some o =>
        by_cases n : w.fp a
        · exact .inl n
        · rw [e1.keep a o q n] at y; cases y
  cases m with
  | t k =>
    obtain ⟨f, o, cf⟩ := t
    obtain ⟨o', cf'⟩ := temp_keep e2 o fun a z => ⟨(cf a z).1, (cf a z).2.1, (cf a z).2.2.1⟩
    refine ⟨fun a => f a ∨ g a, .t o' h (fun a z y => ?_) (fun a z => .inl z) (fun a z => .inr z), fun a z => ?_⟩
    · rcases (c a y).2.2.2 with q | q
      · exact (cf a z).1 q
      · exact (cf a z).2.2.1 q
    · rcases z with z | z
      · exact ⟨(cf' a z).1, (cf' a z).2.1, (cf' a z).2.2, (cf a z).2.2.2⟩
      · exact cg a z
  | r i => exact ⟨g, .r t h, cg⟩
theorem Args.since {K : PySem.W.Frag} {w2 : Wd} {ms : List Md} {ds : List D} {vs : List V} (a : Args K σ w1 w2 ms ds vs) (e1 : Ext w w1) : Args K σ w w2 ms ds vs := by
  obtain ⟨g, h, c⟩ := a
  refine ⟨g, h, fun a z => ?_⟩
  obtain ⟨c1, c2, c3, c4⟩ := c a z
  refine ⟨c1, c2, c3, ?_⟩
  rcases c4 with y | y
  · exact e1.fp a y
  · cases q : w.H a with
    | none => exact .inr rfl
    | some o =>
      by_cases n : w.fp a
      · exact .inl n
      · rw [e1.keep a o q n] at y; cases y
end
section
variable {X : Cx} {W : WX} {κ : List Kind} {pos : Pos} {a b e : Expr} {es : List Expr} {fa fb : M D} {fr : M (List D)} {ma mb m : Md} {ms : List Md}
theorem fa_nil : FA X W κ [] [] aNil := pa_nil.imp fun σ H Q h => by
  obtain ⟨ρ, w, rfl, rel, post⟩ := h
  exact post [] w rel (Ext.refl _) ⟨fun _ => False, .nil, fun _ z => z.elim⟩
theorem fa_cons (ha : FV X W κ m a fa) (hr : FA X W κ ms es fr) (hs : starEach (a :: es) X.env = (false, eval a X.env) :: starEach es X.env := by rfl) : FA X W κ (m :: ms) (a :: es) (aCons fa fr) := (pa_cons ha hr hs).imp fun σ H Q h => by
  obtain ⟨ρ, w, rfl, rel, post⟩ := h
  refine seqV (P := PostA (ctx X W) κ σ (m :: ms) w Q) rel post (fun z => z) (fun n d ρ' z => z) fun d ρ1 v w1 rel1 e1 t1 post1 => ?_
  refine seqA (P := PostA (ctx X W) κ σ (m :: ms) w Q) rel1 post1 (fun z => z) (fun n d ρ' z => ErrOk.since z e1) fun ds ρ2 vs w2 rel2 e2 a2 post2 => ?_
  exact post2 (v :: vs) w2 rel2 (e1.trans e2) (args_cons e1 e2 t1 a2)
/-! ### displays -/
def allV (b : Bool) : List Md → Prop
  | [] => True
  | .t (.v c) :: ms => c = b ∧ allV b ms
  | _ => False
theorem args_rds {K : PySem.W.Frag} {σ : L2.St} {F H : Hp} {b : Bool} : ∀ {ms : List Md} {ds : List D} {vs : List V} {g : FpS}, allV b ms → ArgsR K σ F H ms ds vs g → RDs b K F vs ds
  | [], _, _, _, _, .nil => .nil
  | .t (.v c) :: ms, _, _, _, ⟨e, z⟩, .t o r _ _ _ => by
    subst e
    exact .cons o (args_rds z r)
  | .t (.lst _) :: _, _, _, _, z, _ => z.elim
  | .t .scr :: _, _, _, _, z, _ => z.elim
  | .t (.fix _ _) :: _, _, _, _, z, _ => z.elim
  | .r _ :: _, _, _, _, z, _ => z.elim
def fTup (fs : M (List D)) : M D := fun ρ => bdo (fs ρ) fun ds ρ1 => if ds.length ≤ sizeLine then some (.ok (.tuple ds) ρ1) else none
def fLst (fs : M (List D)) : M D := fun ρ => bdo (fs ρ) fun ds ρ1 => if ds.length ≤ sizeLine then some (.ok (.list ds) ρ1) else none
theorem fe_tup {k : Bool} {x1} (h : FA X W κ ms es fr) (hk : allV k ms := by repeat (first | exact True.intro | refine And.intro rfl ?_)) : FV X W κ (.t (.v k)) (.Tuple es x1 pos) (fTup fr) := (pe_tup h).imp fun σ H Q h => by
  obtain ⟨ρ, w, rfl, rel, post⟩ := h
  refine seqA (P := PostV (ctx X W) κ σ (.t (.v k)) w Q) rel post (fun z => z) (fun n d ρ' z => z) fun ds ρ1 vs w1 rel1 e1 a1 post1 => ?_
  obtain ⟨g, ar, _⟩ := a1
  have r := args_rds hk ar
  split at post1
  · rename_i hl
    exact ⟨by rw [r.length]; exact hl, fun p np => fin_tup post1 rel1 e1 r np⟩
  · exact post1.elim
theorem fe_lst {k : Bool} {kd : Kind} (h : FA X W κ ms es fr) (hd : newL k kd := by rfl) (hk : allV k ms := by repeat (first | exact True.intro | refine And.intro rfl ?_)) : FV X W κ (.t kd) (.List es pos) (fLst fr) := (pe_lst h).imp fun σ H Q h => by
  obtain ⟨ρ, w, rfl, rel, post⟩ := h
  refine seqA (P := PostV (ctx X W) κ σ (.t kd) w Q) rel post (fun z => z) (fun n d ρ' z => z) fun ds ρ1 vs w1 rel1 e1 a1 post1 => ?_
  obtain ⟨g, ar, _⟩ := a1
  have r := args_rds hk ar
  split at post1
  · rename_i hl
    exact ⟨by rw [r.length]; exact hl, fun p np => fin_lst hd post1 rel1 e1 r np⟩
  · exact post1.elim
end
/-! ### what an operand holds -/
/-- the slot's items are immediate data -/
def itK (b : Bool) : Option Kind → Prop
  | some (.v c) => c = b
  | some (.lst (.v c)) => c = b
  | some (.fix _ (.lst (.v c))) => c = b
  | _ => False
/-- the operand's items are immediate data -/
def itB (b : Bool) (κ : List Kind) : Md → Prop
  | .t (.v c) => c = b
  | .t (.lst (.v c)) => c = b
  | .r i => itK b κ[i]?
  | _ => False
theorem odl_rds {K : PySem.W.Frag} {F H : Hp} {b : Bool} : ∀ {xs : List V} {ds : List D} {fp : FpS}, ODl (fun v d f => dk (.v b) = true ∧ OD K F H (.v b) v d f) xs ds fp → RDs b K F xs ds
  | _, _, _, .nil => .nil
  | _, _, _, .cons r t _ _ _ => .cons r.2 (odl_rds t)
section
variable {c : Ct} {κ : List Kind} {σ : L2.St} {w w1 : Wd} {ρ : Env}
theorem od_list {K : PySem.W.Frag} {b : Bool} {k : Kind} {v : V} {ds : List D} {fp : FpS} {F H : Hp} (e : Same F H) (hk : k = .v b ∨ k = .lst (.v b) ∨ ∃ u, k = .fix u (.lst (.v b))) (o : OD K F H k v (.list ds) fp) : ∃ a xs, v = .ref a ∧ H a = some (.lst xs) ∧ RDs b K F xs ds := by
  rcases hk with rfl | rfl | ⟨u, rfl⟩
  · cases o with
    | lst h t => exact ⟨_, _, rfl, e _ _ h, t⟩
  · obtain ⟨a, vs, ds', g, e1, e2, e3, h1, h2, h3, t⟩ := o
    cases e2
    exact ⟨a, vs, e1, e3, odl_rds t⟩
  · obtain ⟨a, vs, ds', g, e1, e2, e3, h1, h2, h3, t⟩ := o
    cases e2
    exact ⟨a, vs, e1, e3, odl_rds t⟩
theorem it_cases {b : Bool} {i : Nat} (h : itB b κ (.r i)) : ∃ k, κ[i]? = some k ∧ (k = .v b ∨ k = .lst (.v b) ∨ ∃ u, k = .fix u (.lst (.v b))) := by
  have h' : itK b κ[i]? := h
  unfold itK at h'
  split at h'
  · rename_i c e
    exact ⟨_, e, .inl (by rw [h'])⟩
  · rename_i c e
    exact ⟨_, e, .inr (.inl (by rw [h']))⟩
  · rename_i u c e
    exact ⟨_, e, .inr (.inr ⟨u, by rw [h']⟩)⟩
  · exact h'.elim
theorem opd_od {m : Md} {b : Bool} {d d' : D} {v : V} (hm : itB b κ m) (rel : Rel c.K κ ρ σ w1) (t : TempM c.K m σ w w1 d v) (h : rd m d ρ = some d') : ∃ k fp, (k = .v b ∨ k = .lst (.v b) ∨ ∃ u, k = .fix u (.lst (.v b))) ∧ OD c.K w1.F w1.H k v d' fp := by
  cases m with
  | t k =>
    obtain ⟨rfl, _⟩ := rd_t h
    obtain ⟨g, o, _⟩ := t
    cases k with
    | v c => exact ⟨_, g, .inl (by rw [show c = b from hm]), o⟩
    | lst k =>
      cases k with
      | v c => exact ⟨_, g, .inr (.inl (by rw [show c = b from hm])), o⟩
      | _ => exact hm.elim
    | _ => exact hm.elim
  | r i =>
    obtain ⟨k, ek, hk⟩ := it_cases hm
    obtain ⟨v', f, e, o, _⟩ := rel.slots.get (rd_r h).1 ek
    rw [show σ[i]? = some (some v) from t] at e
    cases e
    exact ⟨k, f, hk, o⟩
theorem opd_list {m : Md} {b : Bool} {d : D} {ds : List D} {v : V} (hm : itB b κ m) (rel : Rel c.K κ ρ σ w1) (t : TempM c.K m σ w w1 d v) (h : rd m d ρ = some (.list ds)) : ∃ a xs, v = .ref a ∧ w1.H a = some (.lst xs) ∧ RDs b c.K w1.F xs ds := by
  obtain ⟨k, fp, hk, o⟩ := opd_od hm rel t h
  exact od_list rel.same hk o
theorem opd_tup {m : Md} {b : Bool} {d : D} {ds : List D} {v : V} (hm : itB b κ m) (rel : Rel c.K κ ρ σ w1) (t : TempM c.K m σ w w1 d v) (h : rd m d ρ = some (.tuple ds)) : ∃ a xs, v = .ref a ∧ SqT c.K w1.H a xs ∧ RD b c.K w1.F v (.tuple ds) ∧ RDs b c.K w1.F xs ds := by
  obtain ⟨k, fp, hk, o⟩ := opd_od hm rel t h
  rcases hk with rfl | rfl | ⟨u, rfl⟩
  · have o' : RD b c.K w1.F v (.tuple ds) := o
    cases o with
    | tup h1 t1 => exact ⟨_, _, rfl, SqT.of (rel.same _ _ h1), o', t1⟩
    | con z h1 t1 => exact ⟨_, _, rfl, sameT rel.same h1, o', t1⟩
  · obtain ⟨a, vs, ds', g, e1, e2, _⟩ := o
    cases e2
  · obtain ⟨a, vs, ds', g, e1, e2, _⟩ := o
    cases e2
end
end FN
set_option Elab.async false
set_option linter.all false
set_option maxRecDepth 100000
set_option maxHeartbeats 4000000
/-! FN4: +, *, subscripts, slices, built-in calls. -/
namespace FN
open PySem PySem.Spec PyProof.Rows L2
section
variable {X : Cx} {W : WX} {κ : List Kind} {pos : Pos} {a b e : Expr} {fa fb : M D} {ma mb m : Md}
/-! ### one operand -/
def f1 (m : Md) (op : D → Option D) (fa : M D) : M D := fun ρ => bdo (fa ρ) fun x ρ1 => match rd m x ρ1 with
  | some x => (op x).map fun z => .ok z ρ1
  | none => none
theorem ev_1 {c : Ct} {k : Kind} {op : D → Option D} {r : V → Hp → VK → Prop} {σ : L2.St} {H : Hp} {Q : VK}
    (hr : ∀ ρ w w1 x dx vx z, Rel c.K κ ρ σ w1 → Ext w w1 → TempM c.K m σ w w1 dx vx → rd m dx ρ = some x → op x = some z → PostV c κ σ (.t k) w Q (some (.ok z ρ)) → r vx w1.H Q)
    (h : tV c κ (.t k) (f1 m op fa) σ H Q) : tV c κ m fa σ H (fun x H1 => r x H1 Q) := by
  obtain ⟨ρ, w, rfl, rel, post⟩ := h
  refine seqV (P := PostV c κ σ (.t k) w Q) rel post (fun z => z) (fun n d ρ' z => z) fun dx ρ1 vx w1 rel1 e1 t1 post1 => ?_
  split at post1
  · rename_i x ex
    cases ez : op x with
    | none =>
      rw [ez] at post1
      exact post1.elim
    | some z =>
      rw [ez] at post1
      exact hr ρ1 w w1 x dx vx z rel1 e1 t1 ex ez post1
  · exact post1.elim
def dNeg : D → Option D
  | .int i => some (.int (-i))
  | _ => none
theorem fe_neg {k : Bool} (ha : FV X W κ m a fa) : FV X W κ (.t (.v k)) (.UnaryOp .USub a pos) (f1 m dNeg fa) := (pe_un un_neg ha).imp fun _ _ _ h => ev_1 (fun ρ w w1 x dx vx z rel e t ex ez post => by
  unfold dNeg at ez
  split at ez
  · cases ez
    exact ⟨_, dp_int (rd_dp rel t ex), fin_imm post rel e (.int _)⟩
  · cases ez) h
/-! ### a + b -/
def dAdd : D → D → Option D
  | .int i, .int j => some (.int (i + j))
  | .str x, .str y => if x.length + y.length ≤ sizeLine then some (.str (x ++ y)) else none
  | .tuple xs, .tuple ys => if xs.length + ys.length ≤ sizeLine then some (.tuple (xs ++ ys)) else none
  | .list xs, .list ys => if xs.length + ys.length ≤ sizeLine then some (.list (xs ++ ys)) else none
  | _, _ => none
theorem fe_add {k : Bool} {kd : Kind} (ha : FV X W κ ma a fa) (hb : FV X W κ mb b fb) (hd : kd = .v k := by rfl) (h1 : itB k κ ma := by rfl) (h2 : itB k κ mb := by rfl) : FV X W κ (.t kd) (.BinOp a .Add b pos) (f2 ma mb dAdd fa fb) := by
  subst hd
  refine (pe_op ((((op_add (X := X)).or op_add_str).or op_catA).or op_cat) ha hb).imp fun _ _ _ h => ev_2 (fun ρ w w2 x y dx dy vx vy z rel e t1 t2 e1 e2 ez post => ?_) h
  unfold dAdd at ez
  split at ez
  · cases ez
    exact .inl (.inl (.inl ⟨_, _, dp_int (rd_dp rel t1 e1), dp_int (rd_dp rel t2 e2), fin_imm post rel e (.int _)⟩))
  · split at ez
    · rename_i hl
      cases ez
      exact .inl (.inl (.inr ⟨_, _, dp_str (rd_dp rel t1 e1), dp_str (rd_dp rel t2 e2), hl, fin_imm post rel e (.str _)⟩))
    · cases ez
  · split at ez
    · rename_i xs ys hl
      cases ez
      obtain ⟨p, us, ep, sp, r1, rs1⟩ := opd_tup h1 rel t1 e1
      obtain ⟨q, vs, eq, sq, r2, rs2⟩ := opd_tup h2 rel t2 e2
      refine .inl (.inr ⟨p, q, us, vs, ep, eq, sp, sq, by rw [rs1.length, rs2.length]; exact hl, fun z => ?_, fun z1 z2 => ?_, fun z1 z2 p' np => ?_⟩)
      · subst z
        cases rs1
        rw [← eq]
        exact fin_imm post rel e r2
      · subst z2
        cases rs2
        rw [← ep]
        rw [List.append_nil] at post
        exact fin_imm post rel e r1
      · exact fin_tup post rel e (rs1.append rs2) np
    · cases ez
  · split at ez
    · rename_i xs ys hl
      cases ez
      obtain ⟨p, us, ep, sp, rs1⟩ := opd_list h1 rel t1 e1
      obtain ⟨q, vs, eq, sq, rs2⟩ := opd_list h2 rel t2 e2
      refine .inr ⟨p, q, us, vs, ep, eq, sp, sq, by rw [rs1.length, rs2.length]; exact hl, fun p' np => ?_⟩
      exact fin_lst (b := k) (k := .v k) rfl post rel e (rs1.append rs2) np
    · cases ez
  · cases ez
/-- list + list, owned -/
def dCat : D → D → Option D
  | .list xs, .list ys => if xs.length + ys.length ≤ sizeLine then some (.list (xs ++ ys)) else none
  | _, _ => none
theorem fe_cat {k : Bool} {kd : Kind} (ha : FV X W κ ma a fa) (hb : FV X W κ mb b fb) (hd : newL k kd := by rfl) (h1 : itB k κ ma := by rfl) (h2 : itB k κ mb := by rfl) : FV X W κ (.t kd) (.BinOp a .Add b pos) (f2 ma mb dCat fa fb) := by
  refine (pe_op (op_cat (X := X)) ha hb).imp fun _ _ _ h => ev_2 (fun ρ w w2 x y dx dy vx vy z rel e t1 t2 e1 e2 ez post => ?_) h
  unfold dCat at ez
  split at ez
  · split at ez
    · rename_i xs ys hl
      cases ez
      obtain ⟨p, us, ep, sp, rs1⟩ := opd_list h1 rel t1 e1
      obtain ⟨q, vs, eq, sq, rs2⟩ := opd_list h2 rel t2 e2
      exact ⟨p, q, us, vs, ep, eq, sp, sq, by rw [rs1.length, rs2.length]; exact hl, fun p' np => fin_lst (b := k) hd post rel e (rs1.append rs2) np⟩
    · cases ez
  · cases ez
/-! ### subscripts -/
def scrK : Option Kind → Prop
  | some .scr => True
  | some (.fix _ .scr) => True
  | _ => False
theorem scr_at {K : PySem.W.Frag} {F H : Hp} {κ : List Kind} {ρ : Env} {σ : L2.St} {fp : FpS} {i : Nat} {d : D} (h : Slots K F H κ ρ σ fp) (e : ρ[i]? = some (some d)) (hk : scrK κ[i]?) : ∃ v f, σ[i]? = some (some v) ∧ OD K F H .scr v d f := by
  unfold scrK at hk
  split at hk
  · rename_i q
    obtain ⟨v, f, e1, o, _⟩ := h.get e q
    exact ⟨v, f, e1, o⟩
  · rename_i u q
    obtain ⟨v, f, e1, o, _⟩ := h.get e q
    exact ⟨v, f, e1, o⟩
  · exact hk.elim
def dIx : D → D → Option D
  | .list ds, .int i => atI ds i
  | .tuple ds, .int i => atI ds i
  | .str z, .int i => if z.length ≤ sizeLine then (atI z.cps.toList i).map fun c => .str ⟨#[c]⟩ else none
  | _, _ => none
theorem rds_at {K : PySem.W.Frag} {k : Bool} {F : Hp} {xs : List V} {ds : List D} {i : Int} {d : D} (r : RDs k K F xs ds) (h : atI ds i = some d) : ∃ v, atI xs i = some v ∧ RD k K F v d := by
  unfold atI at h ⊢
  rw [r.length]
  cases q : ixN ds.length i with
  | none =>
    rw [q] at h
    cases h
  | some j =>
    rw [q] at h
    exact r.get h
theorem fe_ix {k : Bool} (ha : FV X W κ ma a fa) (hb : FV X W κ mb b fb) (hs : PlainIx b := by exact fun _ _ => rfl) (h1 : itB k κ ma := by rfl) : FV X W κ (.t (.v k)) (.Subscript a b pos) (f2 ma mb dIx fa fb) := by
  refine (pe_ix ix_seq ha hb hs).imp fun _ _ _ h => ev_2 (fun ρ w w2 x y dx dy vx vy z rel e t1 t2 e1 e2 ez post => ?_) h
  unfold dIx at ez
  split at ez
  · obtain ⟨p, us, ep, sp, rs1⟩ := opd_list h1 rel t1 e1
    obtain ⟨v, ev, rv⟩ := rds_at rs1 ez
    exact .inl ⟨p, us, _, v, ep, dp_int (rd_dp rel t2 e2), SqL.of sp, ev, fin_imm post rel e rv⟩
  · obtain ⟨p, us, ep, sp, r1, rs1⟩ := opd_tup h1 rel t1 e1
    obtain ⟨v, ev, rv⟩ := rds_at rs1 ez
    exact .inr (.inl ⟨p, us, _, v, ep, dp_int (rd_dp rel t2 e2), sp, ev, fin_imm post rel e rv⟩)
  · split at ez
    · rename_i hl
      cases q : atI (Array.toList _) _ with
      | none =>
        rw [q] at ez
        cases ez
      | some ch =>
        rw [q] at ez
        cases ez
        exact .inr (.inr ⟨_, _, ch, dp_str (rd_dp rel t1 e1), dp_int (rd_dp rel t2 e2), hl, q, fin_imm post rel e (.str _)⟩)
    · cases ez
  · cases ez
/-- the script's items -/
theorem fe_ixS {k : Bool} {i : Nat} (ha : FV X W κ (.r i) a fa) (hb : FV X W κ mb b fb) (hs : PlainIx b := by exact fun _ _ => rfl) (h1 : scrK κ[i]? := by exact True.intro) : FV X W κ (.t (.v k)) (.Subscript a b pos) (f2 (.r i) mb dIx fa fb) := by
  refine (pe_ix ix_list ha hb hs).imp fun _ _ _ h => ev_2 (fun ρ w w2 x y dx dy vx vy z rel e t1 t2 e1 e2 ez post => ?_) h
  obtain ⟨v', f, ev, o⟩ := scr_at rel.slots (rd_r e1).1 h1
  rw [show _ = some (some vx) from t1] at ev
  cases ev
  obtain ⟨p, ns, rfl, rfl, hl⟩ := o
  unfold dIx at ez
  split at ez
  · rename_i ds j ed
    cases ed
    obtain ⟨v, ev, rv⟩ := rds_at (RDs.ints (b := k) (K := (ctx X W).K) (F := w2.F) ns) ez
    exact ⟨p, _, _, v, rfl, dp_int (rd_dp rel t2 e2), rel.same.seq hl, ev, fin_imm post rel e rv⟩
  · rename_i ed
    cases ed
  · rename_i ed
    cases ed
  · cases ez
/-! ### slices -/
def cutD (ds : List D) (lo hi : Option Int) : List D := (ds.drop (HT.sIx ds.length 0 lo)).take (HT.sIx ds.length ds.length hi - HT.sIx ds.length 0 lo)
theorem rds_cut {K : PySem.W.Frag} {k : Bool} {F : Hp} {xs : List V} {ds : List D} (lo hi : Option Int) (r : RDs k K F xs ds) : RDs k K F (cutV xs lo hi) (cutD ds lo hi) := by
  unfold cutV cutD
  rw [r.length]
  exact (r.drop _).take _
theorem cut_whole {ds : List D} {lo hi : Option Int} (h1 : HT.sIx ds.length 0 lo = 0) (h2 : HT.sIx ds.length ds.length hi = ds.length) : cutD ds lo hi = ds := by
  unfold cutD
  rw [h1, h2, List.drop_zero, Nat.sub_zero, List.take_length]
def PostO (c : Ct) (κ : List Kind) (σ : L2.St) (w : Wd) (Q : Option Int → Hp → Prop) : Option (Out (Option Int)) → Prop
  | some (.ok o ρ) => ∀ w', Rel c.K κ ρ σ w' → Ext w w' → Q o w'.H
  | some (.err n d ρ) => ErrOk c κ σ w n d ρ
  | none => False
def tO (c : Ct) (κ : List Kind) (f : M (Option Int)) : TO := fun σ H Q => ∃ ρ w, w.H = H ∧ Rel c.K κ ρ σ w ∧ PostO c κ σ w Q (f ρ)
def FO (X : Cx) (W : WX) (κ : List Kind) (e : Option Expr) (f : M (Option Int)) : Prop := PO X e (tO (ctx X W) κ f)
theorem _root_.L2.PO.imp {X : Cx} {e : Option Expr} {t t' : TO} (h : PO X e t) (i : ∀ σ H Q, t' σ H Q → t σ H Q) : PO X e t' := ⟨fun pins s σ H Q I q => h.run pins s σ H Q I (i σ H Q q)⟩
theorem seqO {c : Ct} {σ : L2.St} {w1 : Wd} {β : Type} {fa : M (Option Int)} {ρ : Env} {P : Option β → Prop} {e : Str → D → Env → β} {g : Option Int → Env → Option β} {R : Option Int → Hp → Prop} (rel : Rel c.K κ ρ σ w1) (h : P (bnd (fa ρ) e g)) (hN : ¬ P none) (hE : ∀ n d ρ', P (some (e n d ρ')) → ErrOk c κ σ w1 n d ρ')
    (hR : ∀ b ρ2 w2, Rel c.K κ ρ2 σ w2 → Ext w1 w2 → P (g b ρ2) → R b w2.H) : tO c κ fa σ w1.H R := by
  refine ⟨ρ, w1, rfl, rel, ?_⟩
  cases q : fa ρ with
  | none =>
    rw [q] at h
    exact hN h
  | some o =>
    rw [q] at h
    cases o with
    | ok d ρ2 => exact fun w2 r2 e2 => hR d ρ2 w2 r2 e2 h
    | err n d ρ2 => exact hE n d ρ2 h
def oNone : M (Option Int) := fun ρ => some (.ok none ρ)
def oSome (fa : M D) : M (Option Int) := fun ρ => bdo (fa ρ) fun x ρ1 => match x with
  | .int i => some (.ok (some i) ρ1)
  | _ => none
theorem fo_none : FO X W κ none oNone := po_none.imp fun σ H Q h => by
  obtain ⟨ρ, w, rfl, rel, post⟩ := h
  exact post w rel (Ext.refl _)
theorem fo_some {k : Bool} (ha : FV X W κ (.t (.v k)) a fa) : FO X W κ (some a) (oSome fa) := (po_some ha).imp fun σ H Q h => by
  obtain ⟨ρ, w, rfl, rel, post⟩ := h
  refine seqV (P := PostO (ctx X W) κ σ w Q) rel post (fun z => z) (fun n d ρ' z => z) fun dx ρ1 vx w1 rel1 e1 t1 post1 => ?_
  split at post1
  · exact ⟨_, dp_int (Temp.rd t1).dp, post1 w1 rel1 e1⟩
  · exact post1.elim
/-- a[lo:hi] -/
def dCut : D → Option Int → Option Int → Option D
  | .tuple ds, lo, hi => some (.tuple (cutD ds lo hi))
  | .list ds, lo, hi => some (.list (cutD ds lo hi))
  | .str z, lo, hi => if z.length ≤ sizeLine then some (.str (cutS z lo hi)) else none
  | _, _, _ => none
def f3 (m : Md) (fa : M D) (fl fh : M (Option Int)) : M D := fun ρ => bdo (fa ρ) fun x ρ1 => bdo (fl ρ1) fun lo ρ2 => bdo (fh ρ2) fun hi ρ3 => match rd m x ρ3 with
  | some x => (dCut x lo hi).map fun z => .ok z ρ3
  | none => none
theorem ev_3 {c : Ct} {k : Kind} {r : V → Option Int → Option Int → Hp → VK → Prop} {fl fh : M (Option Int)} {σ : L2.St} {H : Hp} {Q : VK}
    (hr : ∀ ρ w w1 x dx vx lo hi z, Rel c.K κ ρ σ w1 → Ext w w1 → TempM c.K m σ w w1 dx vx → rd m dx ρ = some x → dCut x lo hi = some z → PostV c κ σ (.t k) w Q (some (.ok z ρ)) → r vx lo hi w1.H Q)
    (h : tV c κ (.t k) (f3 m fa fl fh) σ H Q) : tSl r (tV c κ m fa) (tO c κ fl) (tO c κ fh) σ H Q := by
  obtain ⟨ρ, w, rfl, rel, post⟩ := h
  refine seqV (P := PostV c κ σ (.t k) w Q) rel post (fun z => z) (fun n d ρ' z => z) fun dx ρ1 vx w1 rel1 e1 t1 post1 => ?_
  refine seqO (P := PostV c κ σ (.t k) w Q) rel1 post1 (fun z => z) (fun n d ρ' z => ErrOk.since z e1) fun lo ρ2 w2 rel2 e2 post2 => ?_
  refine seqO (P := PostV c κ σ (.t k) w Q) rel2 post2 (fun z => z) (fun n d ρ' z => ErrOk.since z (e1.trans e2)) fun hi ρ3 w3 rel3 e3 post3 => ?_
  split at post3
  · rename_i x ex
    cases ez : dCut x lo hi with
    | none =>
      rw [ez] at post3
      exact post3.elim
    | some z =>
      rw [ez] at post3
      exact hr ρ3 w w3 x dx vx lo hi z rel3 (e1.trans (e2.trans e3)) (t1.keep (e2.trans e3)) ex ez post3
  · exact post3.elim
theorem fe_sl {k : Bool} {fl fh : M (Option Int)} {lo hi : Option Expr} {p2 : Pos} (ha : FV X W κ m a fa) (hl : FO X W κ lo fl) (hh : FO X W κ hi fh) (h1 : itB k κ m := by rfl) : FV X W κ (.t (.v k)) (.Subscript a (.Slice lo hi none p2) pos) (f3 m fa fl fh) := by
  refine (pe_slice ((sl_tupA (X := X)).or (sl_list.or sl_str)) ha hl hh).imp fun _ _ _ h => ev_3 (fun ρ w w2 x dx vx lo hi z rel e t1 e1 ez post => ?_) h
  unfold dCut at ez
  split at ez
  · cases ez
    obtain ⟨p, us, ep, sp, r1, rs1⟩ := opd_tup h1 rel t1 e1
    refine .inl ⟨p, us, ep, sp, fun ⟨z1, z2⟩ => ?_, fun _ p' np => fin_tup post rel e (rds_cut lo hi rs1) np⟩
    rw [rs1.length] at z1 z2
    rw [cut_whole z1 z2] at post
    rw [← ep]
    exact fin_imm post rel e r1
  · cases ez
    obtain ⟨p, us, ep, sp, rs1⟩ := opd_list h1 rel t1 e1
    exact .inr (.inl ⟨p, us, ep, SqL.of sp, fun p' np => fin_lst (b := k) (k := .v k) rfl post rel e (rds_cut lo hi rs1) np⟩)
  · split at ez
    · rename_i hl
      cases ez
      exact .inr (.inr ⟨_, dp_str (rd_dp rel t1 e1), hl, fin_imm post rel e (.str _)⟩)
    · cases ez
  · cases ez
/-- a slice of the script -/
theorem fe_slS {k : Bool} {i : Nat} {fl fh : M (Option Int)} {lo hi : Option Expr} {p2 : Pos} (ha : FV X W κ (.r i) a fa) (hl : FO X W κ lo fl) (hh : FO X W κ hi fh) (h1 : scrK κ[i]? := by exact True.intro) : FV X W κ (.t (.v k)) (.Subscript a (.Slice lo hi none p2) pos) (f3 (.r i) fa fl fh) := by
  refine (pe_slice (sl_list (X := X)) ha hl hh).imp fun _ _ _ h => ev_3 (fun ρ w w2 x dx vx lo hi z rel e t1 e1 ez post => ?_) h
  obtain ⟨v', f, ev, o⟩ := scr_at rel.slots (rd_r e1).1 h1
  rw [show _ = some (some vx) from t1] at ev
  cases ev
  obtain ⟨p, ns, rfl, rfl, hl⟩ := o
  cases ez
  exact ⟨p, _, rfl, rel.same.seq hl, fun p' np => fin_lst (b := k) (k := .v k) rfl post rel e (rds_cut lo hi (RDs.ints ns)) np⟩
/-! ### calls of built-ins: one argument, two -/
theorem ev_c1 {c : Ct} {k : Kind} {op : D → Option D} {r : List V → Hp → VK → Prop} {σ : L2.St} {H : Hp} {Q : VK}
    (hr : ∀ ρ w w1 x dx vx z, Rel c.K κ ρ σ w1 → Ext w w1 → TempM c.K m σ w w1 dx vx → rd m dx ρ = some x → op x = some z → PostV c κ σ (.t k) w Q (some (.ok z ρ)) → r [vx] w1.H Q)
    (h : tV c κ (.t k) (f1 m op fa) σ H Q) : tCB r (tCons (tV c κ m fa) tNil) σ H Q := ev_1 (r := fun x H Q => r [x] H Q) hr h
theorem ev_c2 {c : Ct} {k : Kind} {op : D → D → Option D} {r : List V → Hp → VK → Prop} {σ : L2.St} {H : Hp} {Q : VK}
    (hr : ∀ ρ w w2 x y dx dy vx vy z, Rel c.K κ ρ σ w2 → Ext w w2 → TempM c.K ma σ w w2 dx vx → TempM c.K mb σ w w2 dy vy → rd ma dx ρ = some x → rd mb dy ρ = some y → op x y = some z → PostV c κ σ (.t k) w Q (some (.ok z ρ)) → r [vx, vy] w2.H Q)
    (h : tV c κ (.t k) (f2 ma mb op fa fb) σ H Q) : tCB r (tCons (tV c κ ma fa) (tCons (tV c κ mb fb) tNil)) σ H Q := ev_2 (r := fun x y H Q => r [x, y] H Q) hr h
/-- len -/
def dLen : D → Option D
  | .str x => if x.length ≤ sizeLine then some (.int x.length) else none
  | .list xs => some (.int xs.length)
  | .tuple xs => some (.int xs.length)
  | _ => none
theorem lenV_of {K : PySem.W.Frag} {H : Hp} {v : V} {d : D} {z : D} (h : Dp K H v d) (e : dLen d = some z) : ∃ n : Nat, z = .int n ∧ LenV K v H n := by
  cases h with
  | non => cases e
  | bl => cases e
  | int => cases e
  | str x =>
    have e' : (if x.length ≤ sizeLine then some (PyData.int x.length) else none) = some z := e
    split at e'
    · rename_i hl
      cases e'
      exact ⟨_, rfl, hl, rfl⟩
    · cases e'
  | lst h t =>
    cases e
    exact ⟨_, rfl, .inl ⟨_, h, (DpAll.length t).symm⟩⟩
  | tup h t =>
    cases e
    exact ⟨_, rfl, .inr ⟨_, h, (DpAll.length t).symm⟩⟩
theorem fe_len {k : Bool} {p : Pos} (hg : Gl X "len") (hm : X.mg "len" = none) (ha : FV X W κ m a fa) (hst : starEach (a :: []) X.env = (false, eval a X.env) :: starEach [] X.env := by rfl) : FV X W κ (.t (.v k)) (.Call (.Name "len" p) [a] [] pos) (f1 m dLen fa) :=
  (pe_callB call_len hg hm PySem.boot_len (pa_cons ha pa_nil hst) (by decide) (by decide) hst).imp fun _ _ _ h => ev_c1 (fun ρ w w1 x dx vx z rel e t ex ez post => by
    obtain ⟨n, rfl, hl⟩ := lenV_of (rd_dp rel t ex) ez
    exact ⟨vx, n, rfl, hl, fin_imm post rel e (.int _)⟩) h
end
end FN
set_option Elab.async false
set_option linter.all false
set_option maxRecDepth 100000
set_option maxHeartbeats 4000000
/-! FN5: defs by their mirrors; calls; statements. -/
namespace FN
open PySem PySem.Spec PyProof.Rows L2
/-! ### a def's promise by its mirror -/
/-- g: from the parameters' data (and what is left of the changed ones) to the answer -/
def spF (K : PySem.W.Frag) (mg : Str → Option Value) (ks : List Kind) (kr : Kind) (g : M D) : Sp := fun vs H Q E => ∃ ρ w, w.H = H ∧ Rel K ks ρ (vs.map some) w ∧ (match g ρ with
  | some (.ok d ρ') => ∀ v w', Rel K ks ρ' (vs.map some) w' → Ext w w' → Temp K kr w w' d v → Q v w'.H
  | some (.err n d _) => ∀ cls dx w', Same w'.F w'.H → Ext w w' → ErrAt ⟨K, mg, fun _ _ _ _ => False⟩ n d cls dx w' → E cls (some dx) w'.H
  | none => False)
/-- where g gives no error -/
def noErr (g : M D) : M D := fun ρ => match g ρ with
  | some (.ok d ρ') => some (.ok d ρ')
  | _ => none
theorem noErr_ne {g : M D} {ρ : Env} {n : Str} {d : D} {ρ' : Env} : noErr g ρ ≠ some (.err n d ρ') := by
  unfold noErr
  split
  · intro z; cases z
  · intro z; cases z
theorem spF_len {K : PySem.W.Frag} {mg : Str → Option Value} {ks : List Kind} {kr : Kind} {g : M D} {vs : List V} {H : Hp} {Q : VK} {E : XK} (h : spF K mg ks kr g vs H Q E) : vs.length = ks.length := by
  obtain ⟨ρ, w, _, rel, _⟩ := h
  have l := rel.slots.lengths
  rw [List.length_map] at l
  exact l.1.symm
/-! ### arguments into a def and back -/
/-- what goes into the def, what is left at the caller -/
def fill : List Md → List D → Env → Option (Env × Env)
  | [], [], ρ => some ([], ρ)
  | .t _ :: ms, d :: ds, ρ => (fill ms ds ρ).map fun p => (some d :: p.1, p.2)
  | .r i :: ms, _ :: ds, ρ => match ρ[i]? with
    | some (some d) => (fill ms ds (ρ.set i none)).map fun p => (some d :: p.1, p.2)
    | _ => none
  | _, _, _ => none
def back : List Md → Env → Env → Env
  | .r i :: ms, o :: os, ρ => back ms os (ρ.set i o)
  | .t _ :: ms, _ :: os, ρ => back ms os ρ
  | _, _, ρ => ρ
/-- the def's kinds fit what is handed in -/
inductive Fits (κ : List Kind) : List Md → List Kind → Prop
  | nil : Fits κ [] []
  | t {k : Kind} {ms : List Md} {ks : List Kind} : (∀ u k', k ≠ .fix u k') → Fits κ ms ks → Fits κ (.t k :: ms) (k :: ks)
  | r {i : Nat} {k : Kind} {ms : List Md} {ks : List Kind} : (κ[i]? = some k ∧ (∀ u k', k ≠ .fix u k')) ∨ (∃ u, κ[i]? = some (.fix u k) ∧ ∀ u' k', k ≠ .fix u' k') → Fits κ ms ks → Fits κ (.r i :: ms) (k :: ks)
theorem Fits.nofix {κ : List Kind} {ms : List Md} {ks : List Kind} (h : Fits κ ms ks) : ∀ (i : Nat) (u : V) (k : Kind), ks[i]? ≠ some (.fix u k) := by
  induction h with
  | nil => intro i u k z; simp at z
  | t n _ ih =>
    intro i u k z
    cases i with
    | zero =>
      simp only [List.getElem?_cons_zero, Option.some.injEq] at z
      exact n u k z
    | succ i => exact ih i u k (by simpa using z)
  | r hk _ ih =>
    intro i u k z
    cases i with
    | zero =>
      simp only [List.getElem?_cons_zero, Option.some.injEq] at z
      rcases hk with ⟨_, n⟩ | ⟨_, _, n⟩
      · exact n u k z
      · exact n u k z
    | succ i => exact ih i u k (by simpa using z)
section
variable {K : PySem.W.Frag} {σ : L2.St} {F H : Hp} {κ : List Kind}
theorem fill_ok : ∀ {ms : List Md} {ks : List Kind} {ds : List D} {vs : List V} {ρ ρc ρr : Env} {g fp : FpS}, Fits κ ms ks → ArgsR K σ F H ms ds vs g → Slots K F H κ ρ σ fp → (∀ a, g a → ¬ fp a) → fill ms ds ρ = some (ρc, ρr) →
    ∃ gc fr, Slots K F H ks ρc (vs.map some) gc ∧ Slots K F H κ ρr σ fr ∧ (∀ a, gc a → ¬ fr a) ∧ (∀ a, gc a → g a ∨ fp a) ∧ (∀ a, fr a → fp a) ∧ (∀ (p : Nat) (i : Nat), ms[p]? = some (.r i) → ∃ v, vs[p]? = some v ∧ σ[i]? = some (some v)) ∧ ρr.length = ρ.length
  | [], _, _, _, _, _, _, _, fp, .nil, .nil, s, dj, e => by
    cases e
    exact ⟨fun _ => False, fp, .nil, s, fun _ z => z.elim, fun _ z => z.elim, fun _ z => z, fun p i z => by simp at z, rfl⟩
  | .t k :: ms, _, _, _, ρ, ρc, ρr, g, fp, .t _ ft, .t (f := f) (g := g1) o ar d1 h1 h2, s, dj, e => by
    unfold fill at e
    cases q : fill ms _ ρ with
    | none =>
      rw [q] at e
      cases e
    | some p =>
      rw [q] at e
      cases e
      obtain ⟨gc, fr, s1, s2, x1, x2, x3, x4, x5⟩ := fill_ok ft ar s (fun a z => dj a (h2 a z)) q
      refine ⟨fun a => f a ∨ gc a, fr, .cons o s1 (fun a z y => ?_) (fun a z => .inl z) (fun a z => .inr z), s2, fun a z y => ?_, fun a z => ?_, x3, fun p i z => ?_, x5⟩
      · rcases x2 a y with y | y
        · exact d1 a z y
        · exact dj a (h1 a z) y
      · rcases z with z | z
        · exact dj a (h1 a z) (x3 a y)
        · exact x1 a z y
      · rcases z with z | z
        · exact .inl (h1 a z)
        · rcases x2 a z with y | y
          · exact .inl (h2 a y)
          · exact .inr y
      · cases p with
        | zero => simp at z
        | succ p => simpa using x4 p i (by simpa using z)
  | .r i :: ms, _, _, _, ρ, ρc, ρr, g, fp, .r (k := kk) hk ft, .r (v := v0) e1 ar, s, dj, e => by
    unfold fill at e
    split at e
    · rename_i dd ed
      cases q : fill ms _ (ρ.set i none) with
      | none =>
        rw [q] at e
        cases e
      | some p =>
        rw [q] at e
        cases e
        have hk' : ∃ k0, κ[i]? = some k0 := by
          rcases hk with ⟨z, _⟩ | ⟨u, z, _⟩
          · exact ⟨_, z⟩
          · exact ⟨_, z⟩
        obtain ⟨k0, ek⟩ := hk'
        obtain ⟨v, f, g0, ev, o, s0, y1, y2, y3⟩ := s.out ed ek
        have ev2 : v = v0 := by
          rw [e1] at ev
          exact (Option.some.inj (Option.some.inj ev)).symm
        subst ev2
        have o' : OD K F H kk v dd f := by
          rcases hk with ⟨z, _⟩ | ⟨u, z, _⟩
          · rw [ek] at z
            cases z
            exact o
          · rw [ek] at z
            cases z
            exact o
        obtain ⟨gc, fr, s1, s2, x1, x2, x3, x4, x5⟩ := fill_ok ft ar s0 (fun a z y => dj a z (y3 a y)) q
        refine ⟨fun a => f a ∨ gc a, fr, .cons o' s1 (fun a z y => ?_) (fun a z => .inl z) (fun a z => .inr z), s2, fun a z y => ?_, fun a z => ?_, fun a z => y3 a (x3 a z), fun p j z => ?_, by rw [x5, List.length_set]⟩
        · rcases x2 a y with y | y
          · exact dj a y (y2 a z)
          · exact y1 a z y
        · rcases z with z | z
          · exact y1 a z (x3 a y)
          · exact x1 a z y
        · rcases z with z | z
          · exact .inr (y2 a z)
          · rcases x2 a z with y | y
            · exact .inl y
            · exact .inr (y3 a y)
        · cases p with
          | zero =>
            simp only [List.getElem?_cons_zero, Option.some.injEq, Md.r.injEq] at z
            subst z
            exact ⟨v, rfl, e1⟩
          | succ p => simpa using x4 p j (by simpa using z)
    · cases e
theorem set_same {α : Type} : ∀ {l : List α} {i : Nat} {a : α}, l[i]? = some a → l.set i a = l
  | [], _, _, _ => rfl
  | _ :: _, 0, _, h => by
    rw [List.getElem?_cons_zero] at h
    cases h
    rfl
  | _ :: r, i + 1, _, h => by
    rw [List.getElem?_cons_succ] at h
    rw [List.set_cons_succ, set_same h]
theorem back_ok : ∀ {ms : List Md} {ks : List Kind} {vs : List V} {ρo ρr : Env} {g fp : FpS}, Fits κ ms ks → (∀ (p : Nat) (i : Nat), ms[p]? = some (.r i) → ∃ v, vs[p]? = some v ∧ σ[i]? = some (some v)) → Slots K F H ks ρo (vs.map some) g → Slots K F H κ ρr σ fp → (∀ a, g a → ¬ fp a) →
    ∃ fp', Slots K F H κ (back ms ρo ρr) σ fp' ∧ ∀ a, fp' a → g a ∨ fp a
  | [], _, _, ρo, ρr, g, fp, _, _, _, s, _ => ⟨fp, by unfold back; exact s, fun a z => .inr z⟩
  | .t k :: ms, _, [], _, _, _, _, .t _ ft, _, s1, _, _ => by cases s1
  | .r i :: ms, _, [], _, _, _, _, .r hk ft, _, s1, _, _ => by cases s1
  | .t k :: ms, _, v :: vs, _, ρr, g, fp, .t _ ft, hv, s1, s2, dj => by
    have hv' : ∀ (p : Nat) (i : Nat), ms[p]? = some (.r i) → ∃ v, vs[p]? = some v ∧ σ[i]? = some (some v) := fun p i z => by simpa using hv (p + 1) i (by simpa using z)
    cases s1 with
    | skip s =>
      obtain ⟨fp', a1, a2⟩ := back_ok ft hv' s s2 dj
      exact ⟨fp', by unfold back; exact a1, a2⟩
    | cons o s d1 h1 h2 =>
      obtain ⟨fp', a1, a2⟩ := back_ok ft hv' s s2 (fun a z => dj a (h2 a z))
      exact ⟨fp', by unfold back; exact a1, fun a z => (a2 a z).elim (fun y => .inl (h2 a y)) .inr⟩
  | .r i :: ms, _, v :: vs, _, ρr, g, fp, .r hk ft, hv, s1, s2, dj => by
    have hv' : ∀ (p : Nat) (i : Nat), ms[p]? = some (.r i) → ∃ v, vs[p]? = some v ∧ σ[i]? = some (some v) := fun p i z => by simpa using hv (p + 1) i (by simpa using z)
    obtain ⟨v', ev, es⟩ := hv 0 i rfl
    simp only [List.getElem?_cons_zero, Option.some.injEq] at ev
    subst ev
    have hi : i < σ.length := (List.getElem?_eq_some_iff.mp es).1
    cases s1 with
    | skip s =>
      obtain ⟨fp', a1, a2⟩ := back_ok (ρr := ρr.set i none) ft hv' s (s2.drop i) dj
      exact ⟨fp', by unfold back; exact a1, a2⟩
    | @cons _ _ d _ _ _ f g1 _ o s d1 h1 h2 =>
      have hk' : ∃ k0, κ[i]? = some k0 ∧ OD K F H k0 v d f := by
        rcases hk with ⟨z, _⟩ | ⟨u, z, _⟩
        · exact ⟨_, z, o⟩
        · exact ⟨_, z, o⟩
      obtain ⟨k0, ek, o'⟩ := hk'
      have p := s2.put hi o' (fun a z => dj a (h1 a z))
      rw [set_same ek, set_same es] at p
      obtain ⟨fp', a1, a2⟩ := back_ok ft hv' s p (fun a z y => y.elim (fun y => d1 a y z) (dj a (h2 a z)))
      exact ⟨fp', by unfold back; exact a1, fun a z => (a2 a z).elim (fun y => .inl (h2 a y)) fun y => y.elim (fun q => .inl (h1 a q)) .inr⟩
end
theorem frame_slots {K : PySem.W.Frag} {κ : List Kind} {ρ : Env} {σ : L2.St} {wc wc' : Wd} {fp : FpS} (e : Ext wc wc') (s : Slots K wc.F wc.H κ ρ σ fp) (n : ∀ a, fp a → ¬ wc.fp a) : Slots K wc'.F wc'.H κ ρ σ fp :=
  s.frame e.same fun a o z q => e.keep a o q (n a z)
/-! ### the call -/
def fCall (ms : List Md) (g : M D) (fs : M (List D)) : M D := fun ρ => bdo (fs ρ) fun ds ρ1 => match fill ms ds ρ1 with
  | some (ρc, ρr) => match g ρc with
    | some (.ok d ρo) => some (.ok d (back ms ρo ρr))
    | some (.err n d _) => some (.err n d ρr)
    | none => none
  | none => none
section
variable {X : Cx} {W : WX} {κ : List Kind} {pos p : Pos} {e : Expr} {es : List Expr} {fr : M (List D)} {ms : List Md} {ks : List Kind} {kr : Kind} {g : M D}
theorem ev_call {σ : L2.St} {H : Hp} {Q : VK} {E : XK} (hf : Fits κ ms ks) (hE : (∀ ρ n d ρ', g ρ ≠ some (.err n d ρ')) ∨ ∀ cls dx H, W cls dx σ H → E cls dx H) (h : tV (ctx X W) κ (.t kr) (fCall ms g fr) σ H Q) : tA (ctx X W) κ ms fr σ H (fun vs H1 => spF X.K X.mg ks kr g vs H1 Q E) := by
  obtain ⟨ρ, w, rfl, rel, post⟩ := h
  refine seqA (P := PostV (ctx X W) κ σ (.t kr) w Q) rel post (fun z => z) (fun n d ρ' z => z) fun ds ρ1 vs w1 rel1 e1 a1 post1 => ?_
  obtain ⟨ga, ar, ca⟩ := a1
  split at post1
  · rename_i ρc ρr ef
    obtain ⟨gc, fr', s1, s2, x1, x2, x3, x4, x5⟩ := fill_ok hf ar rel1.slots (fun a z => (ca a z).1) ef
    have gl : ∀ a, gc a → w1.F a = none ∧ w1.H a ≠ none := fun a z => (x2 a z).elim (fun y => ⟨(ca a y).2.1, (ca a y).2.2.1⟩) fun y => ⟨rel1.frz a y, rel1.live a y⟩
    have relc : Rel X.K ks ρc (vs.map some) ⟨w1.F, w1.H, gc⟩ := ⟨rel1.same, fun a z => (gl a z).1, fun a z => (gl a z).2, fun i u k z => absurd z (hf.nofix i u k), s1⟩
    · show spF X.K X.mg ks kr g vs w1.H Q E
      refine ⟨ρc, ⟨w1.F, w1.H, gc⟩, rfl, relc, ?_⟩
      have since : ∀ a, gc a → w.fp a ∨ w.H a = none := fun a z => (x2 a z).elim (fun y => (ca a y).2.2.2) fun y => e1.fp a y
      split at post1
      · rename_i d ρo eg
        intro v w' rel' ext' t'
        have ne' : ∀ a, w'.fp a → ¬ fr' a := fun a z y => by
          rcases ext'.fp a z with q | q
          · exact x1 a q y
          · exact rel1.live a (x3 a y) q
        have sr : Slots X.K w'.F w'.H κ ρr σ fr' := frame_slots ext' s2 fun a z y => x1 a y z
        obtain ⟨fp', s', hfp⟩ := back_ok hf x4 rel'.slots sr ne'
        obtain ⟨gt, ot, ct⟩ := t'
        have keepH : ∀ a, fr' a → w'.F a = none ∧ w'.H a ≠ none := fun a z => by
          have l := rel1.live a (x3 a z)
          cases q : w1.H a with
          | none => exact absurd q l
          | some o =>
            have nf : ¬ gc a := fun y => x1 a y z
            refine ⟨?_, by rw [ext'.keep a o q nf]; intro y; cases y⟩
            cases y : w'.F a with
            | none => rfl
            | some u =>
              rcases ext'.new a u y with r | r | r
              · rw [show w1.F a = none from rel1.frz a (x3 a z)] at r; cases r
              · exact absurd r nf
              · rw [show w1.H a = some o from q] at r; cases r
        have rel2 : Rel X.K κ (back ms ρo ρr) σ ⟨w'.F, w'.H, fp'⟩ := ⟨rel'.same, fun a z => (hfp a z).elim (rel'.frz a) fun y => (keepH a y).1, fun a z => (hfp a z).elim (rel'.live a) fun y => (keepH a y).2, rel1.fixed, s'⟩
        have toW : ∀ a, w1.fp a ∨ w1.H a = none → w.fp a ∨ w.H a = none := fun a z => by
          rcases z with z | z
          · exact e1.fp a z
          · cases q : w.H a with
            | none => exact .inr rfl
            | some o =>
              by_cases n : w.fp a
              · exact .inl n
              · rw [e1.keep a o q n] at z; cases z
        have ext2 : Ext w ⟨w'.F, w'.H, fp'⟩ := {
          same := e1.same.trans ext'.same
          new := fun a o q => by
            rcases ext'.new a o q with r | r | r
            · exact e1.new a o r
            · exact .inr (since a r)
            · exact .inr (toW a (.inr r))
          keep := fun a o q n => by
            have q1 := e1.keep a o q n
            refine ext'.keep a o q1 fun y => ?_
            rcases since a y with r | r
            · exact n r
            · rw [q] at r; cases r
          fp := fun a z => by
            rcases hfp a z with y | y
            · rcases ext'.fp a y with r | r
              · exact since a r
              · exact toW a (.inr r)
            · exact e1.fp a (x3 a y) }
        refine post1 v ⟨w'.F, w'.H, fp'⟩ rel2 ext2 ⟨gt, ot, fun a z => ?_⟩
        obtain ⟨c1, c2, c3, c4⟩ := ct a z
        refine ⟨fun y => ?_, c2, c3, ?_⟩
        · rcases hfp a y with q | q
          · exact c1 q
          · rcases c4 with r | r
            · exact x1 a r q
            · exact rel1.live a (x3 a q) r
        · rcases c4 with r | r
          · exact since a r
          · exact toW a (.inr r)
      · rename_i n d ρo eg
        intro cls dx w' sm' ext' ea
        have hE := hE.resolve_left fun z => z _ _ _ _ eg
        refine hE cls (some dx) w'.H ?_
        have sr : Slots X.K w'.F w'.H κ ρr σ fr' := frame_slots ext' s2 fun a z y => x1 a y z
        have keepH : ∀ a, fr' a → w'.F a = none ∧ w'.H a ≠ none := fun a z => by
          have l := rel1.live a (x3 a z)
          cases q : w1.H a with
          | none => exact absurd q l
          | some o =>
            have nf : ¬ gc a := fun y => x1 a y z
            refine ⟨?_, by rw [ext'.keep a o q nf]; intro y; cases y⟩
            cases y : w'.F a with
            | none => rfl
            | some u =>
              rcases ext'.new a u y with r | r | r
              · rw [show w1.F a = none from rel1.frz a (x3 a z)] at r; cases r
              · exact absurd r nf
              · rw [show w1.H a = some o from q] at r; cases r
        have toW : ∀ a, w1.fp a ∨ w1.H a = none → w.fp a ∨ w.H a = none := fun a z => by
          rcases z with z | z
          · exact e1.fp a z
          · cases q : w.H a with
            | none => exact .inr rfl
            | some o =>
              by_cases n : w.fp a
              · exact .inl n
              · rw [e1.keep a o q n] at z; cases z
        have ext2 : Ext w ⟨w'.F, w'.H, fr'⟩ := {
          same := e1.same.trans ext'.same
          new := fun a o q => by
            rcases ext'.new a o q with r | r | r
            · exact e1.new a o r
            · exact .inr (since a r)
            · exact .inr (toW a (.inr r))
          keep := fun a o q n => by
            have q1 := e1.keep a o q n
            refine ext'.keep a o q1 fun y => ?_
            rcases since a y with r | r
            · exact n r
            · rw [q] at r; cases r
          fp := fun a z => e1.fp a (x3 a z) }
        exact post1 cls dx ⟨w'.F, w'.H, fr'⟩ ⟨sm', fun a z => (keepH a z).1, fun a z => (keepH a z).2, rel1.fixed, sr⟩ ext2 ea
      · exact post1.elim
  · exact post1.elim
/-- f(e, ..), f raises nothing -/
theorem fe_call {k : Nat} {f : Addr} {fd : FuncData} {ps : List Str} {x : Str} (F : FnOk X.prog X.w X.K X.mg X.base CX0 k f fd ps (spF X.K X.mg ks kr (noErr g))) (hr : Room k X.A) (hg : Gl X x) (hm : X.mg x = some (.ref f)) (hk : PySem.W.keepIn X.K (.ref f) = true) (hb : Binds X.K fd ps [])
    (hf : Fits κ ms ks) (ha : FA X W κ ms (e :: es) fr) (hdb : (x == ("__debug__" : Str)) = false := by decide) (he : starEach (e :: es) X.env = (false, eval e X.env) :: starEach es X.env := by rfl) (hpl : (backTo pos (starEach es X.env)).any (·.1) = false := by rfl) :
    FV X W κ (.t kr) (.Call (.Name x p) (e :: es) [] pos) (fCall ms (noErr g) fr) := (pe_call F hr hg hm hk hb .nil pass0 ha hdb he hpl).imp fun σ H Q h => by
  have q := ev_call (E := E0) hf (.inl fun _ _ _ _ => noErr_ne) h
  unfold tCall
  simp only [List.append_nil]
  exact q
/-- f(e, ..), f may raise -/
theorem fe_callX {k : Nat} {f : Addr} {fd : FuncData} {ps : List Str} {x : Str} (F : FnOk X.prog X.w X.K X.mg X.base (L2.CX X.prog X.w) k f fd ps (spF X.K X.mg ks kr g)) (tk : Takes X W) (hr : Room k X.A) (hg : Gl X x) (hm : X.mg x = some (.ref f)) (hk : PySem.W.keepIn X.K (.ref f) = true) (hb : Binds X.K fd ps [])
    (hf : Fits κ ms ks) (ha : FA X W κ ms (e :: es) fr) (hdb : (x == ("__debug__" : Str)) = false := by decide) (he : starEach (e :: es) X.env = (false, eval e X.env) :: starEach es X.env := by rfl) (hpl : (backTo pos (starEach es X.env)).any (·.1) = false := by rfl) :
    FV X W κ (.t kr) (.Call (.Name x p) (e :: es) [] pos) (fCall ms g fr) := (pe_callS F hr hg hm hk hb (fun σ => passAt tk σ) ha hdb he hpl).imp fun σ H Q h => ev_call hf (.inr fun _ _ _ z => z) h
end
/-! ### statements -/
inductive Fl where
  | nx (ρ : Env)
  | ret (d : D) (ρ : Env)
  | bk (ρ : Env)
  | ct (ρ : Env)
  | err (c : Str) (d : D) (ρ : Env)
/-- the def around: its parameters' kinds, their values at the entry, the answer's kind; the kinds at a break or continue, at an error -/
structure FC where
  ks : List Kind
  vs : List V
  kr : Kind
  kl : List Kind
  ke : Option (List Kind)
/-- the changed parameters' ends -/
def keepK : Kind → Bool
  | .v _ => false
  | .fix _ _ => false
  | _ => true
def outs : List Kind → Env → Env
  | k :: ks, o :: ρ => (match keepK k with | true => o | false => none) :: outs ks ρ
  | _, _ => []
inductive RetK : List Kind → List V → List Kind → Prop
  | nil {κ : List Kind} : RetK [] [] κ
  | own {k : Kind} {v : V} {ks : List Kind} {vs : List V} {κ : List Kind} : keepK k = true → RetK ks vs κ → RetK (k :: ks) (v :: vs) (.fix v k :: κ)
  | oth {k k' : Kind} {v : V} {ks : List Kind} {vs : List V} {κ : List Kind} : keepK k = false → RetK ks vs κ → RetK (k :: ks) (v :: vs) (k' :: κ)
theorem ret_slots {K : PySem.W.Frag} {F H : Hp} : ∀ {ks : List Kind} {vs : List V} {κ : List Kind} {ρ : Env} {σ : L2.St} {fp : FpS}, RetK ks vs κ → Slots K F H κ ρ σ fp → (∀ (i : Nat) (u : V) (k : Kind), κ[i]? = some (Kind.fix u k) → σ[i]? = some (some u)) → Slots K F H ks (outs ks ρ) (vs.map some) fp
  | [], [], _, _, _, _, .nil, _, _ => by
    unfold outs
    exact .nil
  | k :: ks, v :: vs, _ :: κ, _, _, fp, .own n r, s, hf => by
    have hf' : ∀ (i : Nat) (u : V) (k : Kind), κ[i]? = some (Kind.fix u k) → _ := fun i u k z => hf (i + 1) u k (by simpa using z)
    have e : ∀ (o : Option D) (ρ : Env), outs (k :: ks) (o :: ρ) = o :: outs ks ρ := fun o ρ => by
      show (match keepK k with | true => o | false => none) :: outs ks ρ = _
      rw [n]
    cases s with
    | skip s =>
      rw [e]
      exact .skip (ret_slots r s fun i u k z => by simpa using hf' i u k z)
    | cons o s d h1 h2 =>
      rw [e]
      have e := hf 0 v _ rfl
      simp only [List.getElem?_cons_zero, Option.some.injEq] at e
      subst e
      exact .cons o (ret_slots r s fun i u k z => by simpa using hf' i u k z) d h1 h2
  | k :: ks, v :: vs, k' :: κ, _, _, fp, .oth n r, s, hf => by
    have hf' : ∀ (i : Nat) (u : V) (k : Kind), κ[i]? = some (Kind.fix u k) → _ := fun i u k z => hf (i + 1) u k (by simpa using z)
    have e : ∀ (o : Option D) (ρ : Env), outs (k :: ks) (o :: ρ) = none :: outs ks ρ := fun o ρ => by
      show (match keepK k with | true => o | false => none) :: outs ks ρ = _
      rw [n]
    cases s with
    | skip s =>
      rw [e]
      exact .skip (ret_slots r s fun i u k z => by simpa using hf' i u k z)
    | cons o s d h1 h2 =>
      rw [e]
      exact .skip ((ret_slots r s fun i u k z => by simpa using hf' i u k z).mono h2)
def PostS (c : Ct) (C : FC) (κn : List Kind) (D' : Ends) (w : Wd) : Option Fl → Prop
  | some (.nx ρ) => ∀ σ' w', Rel c.K κn ρ σ' w' → Ext w w' → D'.nx σ' w'.H
  | some (.bk ρ) => ∀ σ' w', Rel c.K C.kl ρ σ' w' → Ext w w' → D'.bk σ' w'.H
  | some (.ct ρ) => ∀ σ' w', Rel c.K C.kl ρ σ' w' → Ext w w' → D'.ct σ' w'.H
  | some (.ret d ρ) => ∀ v w', Rel c.K C.ks (outs C.ks ρ) (C.vs.map some) w' → Ext w w' → Temp c.K C.kr w w' d v → D'.rt v w'.H
  | some (.err n d ρ) => ∀ cls dx σ' w', Same w'.F w'.H → (∀ κ, C.ke = some κ → Rel c.K κ ρ σ' w') → Ext w w' → ErrAt c n d cls dx w' → c.W cls (some dx) σ' w'.H
  | none => False
def tS (c : Ct) (C : FC) (κ κn : List Kind) (f : Env → Option Fl) : TS := fun D' σ H => ∃ ρ w, w.H = H ∧ Rel c.K κ ρ σ w ∧ PostS c C κn D' w (f ρ)
def FS (X : Cx) (W : WX) (C : FC) (κ κn : List Kind) (st : Stmt) (f : Env → Option Fl) : Prop := PS X st (tS (ctx X W) C κ κn f)
def FSs (X : Cx) (W : WX) (C : FC) (κ κn : List Kind) (st : List Stmt) (f : Env → Option Fl) : Prop := PSs X st (tS (ctx X W) C κ κn f)
/-- errors at the kinds κ are let -/
def EK (C : FC) (κ : List Kind) : Prop := C.ke = none ∨ C.ke = some κ
section
variable {c : Ct} {C : FC} {κ κn : List Kind} {D' : Ends} {w w1 : Wd}
theorem PostS.since {r : Option Fl} (h : PostS c C κn D' w r) (e : Ext w w1) : PostS c C κn D' w1 r := by
  cases r with
  | none => exact h
  | some o =>
    cases o with
    | nx ρ => exact fun σ' w' r x => h σ' w' r (e.trans x)
    | bk ρ => exact fun σ' w' r x => h σ' w' r (e.trans x)
    | ct ρ => exact fun σ' w' r x => h σ' w' r (e.trans x)
    | ret d ρ => exact fun v w' r x t => h v w' r (e.trans x) (t.since e)
    | err n d ρ => exact fun cls dx σ' w' s r x a => h cls dx σ' w' s r (e.trans x) a
theorem errS {σ : L2.St} {n : Str} {d : D} {ρ : Env} (he : EK C κ) (h : PostS c C κn D' w (some (.err n d ρ))) : ErrOk c κ σ w n d ρ := fun cls dx w' r x a => h cls dx σ w' r.same (fun κ' z => by
  rcases he with y | y
  · rw [y] at z; cases z
  · rw [y] at z; cases z; exact r) x a
end
def sSeq (f g : Env → Option Fl) : Env → Option Fl := fun ρ => match f ρ with
  | some (.nx ρ') => g ρ'
  | o => o
def sNx : Env → Option Fl := fun ρ => some (.nx ρ)
section
variable {X : Cx} {W : WX} {C : FC} {κ κ1 κn : List Kind} {st : Stmt} {rest : List Stmt} {f g : Env → Option Fl} {pos : Pos} {e : Expr} {fa : M D}
theorem fss_nil : FSs X W C κ κ [] sNx := pss_nil.imp fun D' σ H h => by
  obtain ⟨ρ, w, rfl, rel, post⟩ := h
  exact post σ w rel (Ext.refl _)
theorem fss_cons (h1 : FS X W C κ κ1 st f) (h2 : FSs X W C κ1 κn rest g) : FSs X W C κ κn (st :: rest) (sSeq f g) := (pss_cons h1 h2).imp fun D' σ H h => by
  obtain ⟨ρ, w, rfl, rel, post⟩ := h
  refine ⟨ρ, w, rfl, rel, ?_⟩
  unfold sSeq at post
  cases q : f ρ with
  | none =>
    rw [q] at post
    exact post
  | some o =>
    rw [q] at post
    cases o with
    | nx ρ1 => exact fun σ1 w1 r1 e1 => ⟨ρ1, w1, rfl, r1, PostS.since post e1⟩
    | bk ρ => exact post
    | ct ρ => exact post
    | ret d ρ => exact post
    | err n d ρ => exact post
theorem fss_one (h1 : FS X W C κ κn st f) : FSs X W C κ κn [st] f := pss_one h1
def sDrop (fa : M D) : Env → Option Fl := fun ρ => bnd (fa ρ) Fl.err fun _ ρ1 => some (.nx ρ1)
theorem fs_expr {m : Md} (ha : FV X W κ m e fa) (he : EK C κ := by first | exact .inl rfl | exact .inr rfl) (hs : swapsWith e none pos.line X.env = pure false := by rfl) : FS X W C κ κ (.Expr e pos) (sDrop fa) := (ps_expr ha hs).imp fun D' σ H h => by
  obtain ⟨ρ, w, rfl, rel, post⟩ := h
  exact seqV (P := PostS (ctx X W) C κ D' w) rel post (fun z => z) (fun n d ρ' z => errS he z) fun d ρ1 v w1 rel1 e1 t1 post1 => post1 σ w1 rel1 e1
/-- what comes into slot i -/
theorem rel_set {K : PySem.W.Frag} {k : Kind} {i : Nat} {d : D} {v : V} {ρ : Env} {σ : L2.St} {w w1 : Wd} (rel : Rel K κ ρ σ w1) (t : Temp K k w w1 d v) (hi : i < σ.length) (hk : ∀ u k', k ≠ .fix u k') :
    ∃ w2, w2.H = w1.H ∧ w2.F = w1.F ∧ Rel K (κ.set i k) (ρ.set i (some d)) (σ.set i (some v)) w2 ∧ (Ext w w1 → Ext w w2) := by
  obtain ⟨g, o, cg⟩ := t
  have s := (rel.slots.drop i).put (k := k) (d := d) (v := v) hi o (fun a z => (cg a z).1)
  rw [List.set_set] at s
  refine ⟨⟨w1.F, w1.H, fun a => g a ∨ w1.fp a⟩, rfl, rfl, ⟨rel.same, fun a z => z.elim (fun y => (cg a y).2.1) (rel.frz a), fun a z => z.elim (fun y => (cg a y).2.2.1) (rel.live a), fun j u k' z => ?_, s⟩, fun e => ⟨e.same, e.new, e.keep, fun a z => z.elim (fun y => (cg a y).2.2.2) (e.fp a)⟩⟩
  by_cases hj : j = i
  · subst hj
    have hl : j < κ.length := by rw [rel.slots.lengths.1]; exact hi
    rw [List.getElem?_set_self hl] at z
    cases z
    exact absurd rfl (hk _ _)
  · rw [List.getElem?_set_ne (Ne.symm hj)] at z
    rw [List.getElem?_set_ne (Ne.symm hj)]
    exact rel.fixed j u k' z
def sSet (i : Nat) (fa : M D) : Env → Option Fl := fun ρ => bnd (fa ρ) Fl.err fun d ρ1 => some (.nx (ρ1.set i (some d)))
def nofix : Kind → Prop
  | .fix _ _ => False
  | _ => True
theorem nofix_ne {k : Kind} (h : nofix k) : ∀ u k', k ≠ .fix u k' := fun u k' z => by
  subst z
  exact h
theorem fs_set {k : Kind} {i : Nat} {x : Str} {pos' : Pos} (ha : FV X W κ (.t k) e fa) (hN : X.N.Nodup) (hi : X.N[i]? = some x := by rfl) (hx : Loc X.env.scope x := by first | exact .inl rfl | exact .inr rfl) (hl : i < κ.length := by decide) (hk : nofix k := by trivial) (he : EK C κ := by first | exact .inl rfl | exact .inr rfl)
    (hs : swapsWith e (some (.Name x pos')) pos.line X.env = pure false := by rfl) (hf : X.fn x = true ∨ X.env.scope.names.lookup x = some .local := by first | exact .inl rfl | exact .inr rfl) : FS X W C κ (κ.set i k) (.Assign [.Name x pos'] e pos) (sSet i fa) := (ps_set hN hi hx ha hs hf).imp fun D' σ H h => by
  obtain ⟨ρ, w, rfl, rel, post⟩ := h
  refine seqV (P := PostS (ctx X W) C (κ.set i k) D' w) rel post (fun z => z) (fun n d ρ' z => errS he z) fun d ρ1 v w1 rel1 e1 t1 post1 => ?_
  obtain ⟨w2, eH, _, rel2, ex⟩ := rel_set rel1 t1 (by rw [← rel1.slots.lengths.1]; exact hl) (nofix_ne hk)
  show D'.nx (σ.set i (some v)) w1.H
  rw [← eH]
  exact post1 _ w2 rel2 (ex e1)
/-! ### return -/
theorem rel_ret {K : PySem.W.Frag} {ρ : Env} {σ : L2.St} {w : Wd} (hk : RetK C.ks C.vs κ) (rel : Rel K κ ρ σ w) (hn : ∀ (i : Nat) (u : V) (k : Kind), C.ks[i]? ≠ some (Kind.fix u k)) : Rel K C.ks (outs C.ks ρ) (C.vs.map some) w :=
  ⟨rel.same, rel.frz, rel.live, fun i u k z => absurd z (hn i u k), ret_slots hk rel.slots rel.fixed⟩
/-- the def's parameters' kinds have none that is fixed -/
def noFixs : List Kind → Prop
  | [] => True
  | k :: ks => nofix k ∧ noFixs ks
theorem noFixs_ne : ∀ {ks : List Kind}, noFixs ks → ∀ (i : Nat) (u : V) (k : Kind), ks[i]? ≠ some (Kind.fix u k)
  | [], _, i, u, k, z => by simp at z
  | k0 :: ks, ⟨h, r⟩, 0, u, k, z => by
    simp only [List.getElem?_cons_zero, Option.some.injEq] at z
    exact nofix_ne h u k z
  | k0 :: ks, ⟨h, r⟩, i + 1, u, k, z => noFixs_ne r i u k (by simpa using z)
def sRet (fa : M D) : Env → Option Fl := fun ρ => bnd (fa ρ) Fl.err fun d ρ1 => some (.ret d ρ1)
theorem fs_ret {k : Kind} {κn : List Kind} (ha : FV X W κ (.t k) e fa) (hr : RetK C.ks C.vs κ) (hn : noFixs C.ks := by repeat (first | exact True.intro | refine And.intro True.intro ?_)) (hk : C.kr = k := by rfl) (he : EK C κ := by first | exact .inl rfl | exact .inr rfl) : FS X W C κ κn (.Return (some e) pos) (sRet fa) := (ps_ret ha).imp fun D' σ H h => by
  subst hk
  obtain ⟨ρ, w, rfl, rel, post⟩ := h
  exact seqV (P := PostS (ctx X W) C κn D' w) rel post (fun z => z) (fun n d ρ' z => errS he z) fun d ρ1 v w1 rel1 e1 t1 post1 => post1 v w1 (rel_ret hr rel1 (noFixs_ne hn)) e1 t1
def sRetN : Env → Option Fl := fun ρ => some (.ret .none ρ)
theorem fs_retN {b : Bool} {κn : List Kind} (hr : RetK C.ks C.vs κ) (hn : noFixs C.ks := by repeat (first | exact True.intro | refine And.intro True.intro ?_)) (hk : C.kr = .v b := by rfl) : FS X W C κ κn (.Return none pos) sRetN := ps_retN.imp fun D' σ H h => by
  obtain ⟨ρ, w, rfl, rel, post⟩ := h
  refine post .non w (rel_ret hr rel (noFixs_ne hn)) (Ext.refl _) ?_
  rw [hk]
  exact Temp.imm .non
/-- return of the object in slot i, which goes out of the slot -/
def sRetR (i : Nat) : Env → Option Fl := fun ρ => match ρ[i]? with
  | some (some d) => some (.ret d (ρ.set i none))
  | _ => none
theorem fs_retR {i : Nat} {κn : List Kind} (ha : FV X W κ (.r i) e (fRef i)) (hki : κ[i]? = some C.kr := by rfl) (hr : RetK C.ks C.vs κ) (hn : noFixs C.ks := by repeat (first | exact True.intro | refine And.intro True.intro ?_)) : FS X W C κ κn (.Return (some e) pos) (sRetR i) := (ps_ret ha).imp fun D' σ H h => by
  obtain ⟨ρ, w, rfl, rel, post⟩ := h
  unfold sRetR at post
  split at post
  · rename_i d ed
    refine ⟨ρ, w, rfl, rel, ?_⟩
    unfold fRef
    rw [ed]
    intro v w1 rel1 e1 t1
    obtain ⟨v', f, g, ev, o, s, y1, y2, y3⟩ := rel1.slots.out ed hki
    rw [show σ[i]? = some (some v) from t1] at ev
    cases ev
    have rel2 : Rel X.K κ (ρ.set i none) σ ⟨w1.F, w1.H, g⟩ := ⟨rel1.same, fun a z => rel1.frz a (y3 a z), fun a z => rel1.live a (y3 a z), rel1.fixed, s⟩
    exact post v ⟨w1.F, w1.H, g⟩ (rel_ret hr rel2 (noFixs_ne hn)) ⟨e1.same, e1.new, e1.keep, fun a z => e1.fp a (y3 a z)⟩ ⟨f, o, fun a z => ⟨y1 a z, rel1.frz a (y2 a z), rel1.live a (y2 a z), e1.fp a (y2 a z)⟩⟩
  · exact post.elim
/-! ### if, pass, break, continue -/
def sIf (t : M Bool) (f g : Env → Option Fl) : Env → Option Fl := fun ρ => bnd (t ρ) Fl.err fun b ρ1 => if b = true then f ρ1 else g ρ1
theorem fs_if {c : Expr} {t : M Bool} {a b : List Stmt} (hc : FT X W κ c t) (ha : FSs X W C κ κn a f) (hb : FSs X W C κ κn b g) (he : EK C κ := by first | exact .inl rfl | exact .inr rfl) : FS X W C κ κn (.If c a b pos) (sIf t f g) := (ps_if hc ha hb).imp fun D' σ H h => by
  obtain ⟨ρ, w, rfl, rel, post⟩ := h
  refine seqT (P := PostS (ctx X W) C κn D' w) rel post (fun z => z) (fun n d ρ' z => errS he z) fun k ρ1 w1 rel1 e1 post1 => ?_
  cases k with
  | true => exact ⟨ρ1, w1, rfl, rel1, PostS.since post1 e1⟩
  | false => exact ⟨ρ1, w1, rfl, rel1, PostS.since post1 e1⟩
theorem fs_pass : FS X W C κ κ (.Pass pos) sNx := ps_pass.imp fun D' σ H h => by
  obtain ⟨ρ, w, rfl, rel, post⟩ := h
  exact post σ w rel (Ext.refl _)
def sBk : Env → Option Fl := fun ρ => some (.bk ρ)
def sCt : Env → Option Fl := fun ρ => some (.ct ρ)
theorem fs_break (hk : C.kl = κ := by rfl) : FS X W C κ κn (.Break pos) sBk := ps_break.imp fun D' σ H h => by
  subst hk
  obtain ⟨ρ, w, rfl, rel, post⟩ := h
  exact post σ w rel (Ext.refl _)
theorem fs_continue (hk : C.kl = κ := by rfl) : FS X W C κ κn (.Continue pos) sCt := ps_continue.imp fun D' σ H h => by
  subst hk
  obtain ⟨ρ, w, rfl, rel, post⟩ := h
  exact post σ w rel (Ext.refl _)
end
end FN
set_option Elab.async false
set_option linter.all false
set_option maxRecDepth 100000
set_option maxHeartbeats 4000000
/-! FN6: targets, loops, the def's rule. -/
namespace FN
open PySem PySem.Spec PyProof.Rows L2
/-! ### a def by its body -/
def kin : List Kind → List V → List Kind
  | k :: ks, v :: vs => (match keepK k with | true => .fix v k | false => k) :: kin ks vs
  | _, _ => []
def runF (ks : List Kind) (kr : Kind) (n : Nat) (fb : Env → Option Fl) : M D := fun ρ => match fb (ρ ++ List.replicate n none) with
  | some (.ret d ρ') => some (.ok d (outs ks ρ'))
  | some (.nx ρ') => match kr with
    | .v _ => some (.ok .none (outs ks ρ'))
    | _ => none
  | some (.err c d ρ') => some (.err c d (outs ks ρ'))
  | _ => none
section
variable {K : PySem.W.Frag}
theorem slots_none {F H : Hp} {fp : FpS} : ∀ κl : List Kind, Slots K F H κl (List.replicate κl.length none) (List.replicate κl.length none) fp
  | [] => .nil
  | k :: κl => by
    rw [List.length_cons, List.replicate_succ, List.replicate_succ]
    exact .skip (slots_none κl)
theorem kin_cons {k : Kind} {v : V} {ks : List Kind} {vs : List V} : ∃ k', kin (k :: ks) (v :: vs) = k' :: kin ks vs ∧ (∀ (K : PySem.W.Frag) F H d fp, OD K F H k v d fp → OD K F H k' v d fp) ∧ (∀ u j, k' = .fix u j → (∀ u j, k ≠ .fix u j) → u = v) := by
  cases q : keepK k with
  | true => exact ⟨.fix v k, by show (match keepK k with | true => Kind.fix v k | false => k) :: kin ks vs = _; rw [q], fun _ _ _ _ _ h => h, fun u j e _ => by cases e; rfl⟩
  | false => exact ⟨k, by show (match keepK k with | true => Kind.fix v k | false => k) :: kin ks vs = _; rw [q], fun _ _ _ _ _ h => h, fun u j e n => absurd e (n u j)⟩
theorem slots_start {F H : Hp} (κl : List Kind) : ∀ {ks : List Kind} {vs : List V} {ρ : Env} {fp : FpS}, Slots K F H ks ρ (vs.map some) fp → Slots K F H (kin ks vs ++ κl) (ρ ++ List.replicate κl.length none) (vs.map some ++ List.replicate κl.length none) fp
  | [], [], _, _, .nil => slots_none κl
  | [], _ :: _, _, _, h => by cases h
  | _ :: _, [], _, _, h => by cases h
  | k :: ks, v :: vs, _, _, h => by
    obtain ⟨k', e, ho, _⟩ := kin_cons (k := k) (v := v) (ks := ks) (vs := vs)
    rw [e]
    cases h with
    | skip h => exact .skip (slots_start κl h)
    | cons o h d h1 h2 => exact .cons (ho _ _ _ _ _ o) (slots_start κl h) d h1 h2
theorem kin_fixed (κl : List Kind) (hl : noFixs κl) : ∀ {ks : List Kind} {vs : List V}, noFixs ks → ∀ (i : Nat) (u : V) (k : Kind), (kin ks vs ++ κl)[i]? = some (Kind.fix u k) → (vs.map some ++ List.replicate κl.length none)[i]? = some (some u)
  | [], vs, _, i, u, k, z => by
    rw [show kin [] vs = [] by cases vs <;> rfl, List.nil_append] at z
    exact absurd z (noFixs_ne hl i u k)
  | k0 :: ks, [], _, i, u, k, z => by
    rw [show kin (k0 :: ks) [] = [] by cases k0 <;> rfl, List.nil_append] at z
    exact absurd z (noFixs_ne hl i u k)
  | k0 :: ks, v :: vs, ⟨hn, r⟩, i, u, k, z => by
    obtain ⟨k', e, _, hu⟩ := kin_cons (k := k0) (v := v) (ks := ks) (vs := vs)
    rw [e] at z
    cases i with
    | zero =>
      simp only [List.cons_append, List.getElem?_cons_zero, Option.some.injEq] at z
      rw [hu u k z (nofix_ne hn)]
      rfl
    | succ i => simpa using kin_fixed κl hl (ks := ks) (vs := vs) r i u k (by simpa using z)
end
section
variable {P : Program} {w : World} {K : PySem.W.Frag} {mg : Str → Option Value} {base : Heap}
theorem run_body {X : Cx} {W : WX} {ks κl : List Kind} {kr : Kind} {fb : Env → Option Fl} {vs : List V} {H : Hp} {Q : VK} {E : XK} {σ : L2.St} {κn : List Kind} {x : Bool} (hn : noFixs ks) (hln : noFixs κl) (hσ : σ = vs.map some ++ List.replicate κl.length none) (hr : RetK ks vs κn)
    (hW : x = true → ∀ cls dx σ H, E cls dx H → W cls dx σ H) (h : spF X.K X.mg ks kr (if x = true then runF ks kr κl.length fb else noErr (runF ks kr κl.length fb)) vs H Q E) :
    tS (ctx X W) ⟨ks, vs, kr, [], none⟩ (kin ks vs ++ κl) κn fb { nx := fun _ H' => Q .non H', rt := Q } σ H := by
  obtain ⟨ρ, wd, rfl, rel, post⟩ := h
  subst hσ
  refine ⟨ρ ++ List.replicate κl.length none, wd, rfl, ⟨rel.same, rel.frz, rel.live, kin_fixed κl hln hn, slots_start κl rel.slots⟩, ?_⟩
  cases q : fb (ρ ++ List.replicate κl.length none) with
  | none =>
    cases x with
    | true =>
      rw [if_pos rfl] at post
      unfold runF at post
      rw [q] at post
      exact post
    | false =>
      rw [if_neg Bool.false_ne_true] at post
      unfold noErr runF at post
      rw [q] at post
      exact post
  | some o =>
    have key : ∀ d ρ', runF ks kr κl.length fb ρ = some (.ok d ρ') → ∀ v w', Rel X.K ks ρ' (vs.map some) w' → Ext wd w' → Temp X.K kr wd w' d v → Q v w'.H := fun d ρ' e => by
      cases x with
      | true =>
        rw [if_pos rfl, e] at post
        exact post
      | false =>
        rw [if_neg Bool.false_ne_true] at post
        unfold noErr at post
        rw [e] at post
        exact post
    cases o with
    | ret d ρ' => exact key d (outs ks ρ') (by unfold runF; rw [q])
    | nx ρ' =>
      cases kr with
      | v b =>
        have k2 := key .none (outs ks ρ') (by unfold runF; rw [q])
        exact fun σ' w' rel' e' => k2 .non w' (rel_ret (C := ⟨ks, vs, .v b, [], none⟩) hr rel' (noFixs_ne hn)) e' (Temp.imm .non)
      | lst k =>
        exfalso
        have e : runF ks (.lst k) κl.length fb ρ = none := by unfold runF; rw [q]
        cases x with
        | true => rw [if_pos rfl, e] at post; exact post
        | false => rw [if_neg Bool.false_ne_true] at post; unfold noErr at post; rw [e] at post; exact post
      | scr =>
        exfalso
        have e : runF ks .scr κl.length fb ρ = none := by unfold runF; rw [q]
        cases x with
        | true => rw [if_pos rfl, e] at post; exact post
        | false => rw [if_neg Bool.false_ne_true] at post; unfold noErr at post; rw [e] at post; exact post
      | fix u k =>
        exfalso
        have e : runF ks (.fix u k) κl.length fb ρ = none := by unfold runF; rw [q]
        cases x with
        | true => rw [if_pos rfl, e] at post; exact post
        | false => rw [if_neg Bool.false_ne_true] at post; unfold noErr at post; rw [e] at post; exact post
      | tok u =>
        exfalso
        have e : runF ks (.tok u) κl.length fb ρ = none := by unfold runF; rw [q]
        cases x with
        | true => rw [if_pos rfl, e] at post; exact post
        | false => rw [if_neg Bool.false_ne_true] at post; unfold noErr at post; rw [e] at post; exact post
      | exc a dx cls R =>
        exfalso
        have e : runF ks (.exc a dx cls R) κl.length fb ρ = none := by unfold runF; rw [q]
        cases x with
        | true => rw [if_pos rfl, e] at post; exact post
        | false => rw [if_neg Bool.false_ne_true] at post; unfold noErr at post; rw [e] at post; exact post
      | dT b =>
        exfalso
        have e : runF ks (.dT b) κl.length fb ρ = none := by unfold runF; rw [q]
        cases x with
        | true => rw [if_pos rfl, e] at post; exact post
        | false => rw [if_neg Bool.false_ne_true] at post; unfold noErr at post; rw [e] at post; exact post
      | dK b =>
        exfalso
        have e : runF ks (.dK b) κl.length fb ρ = none := by unfold runF; rw [q]
        cases x with
        | true => rw [if_pos rfl, e] at post; exact post
        | false => rw [if_neg Bool.false_ne_true] at post; unfold noErr at post; rw [e] at post; exact post
    | bk ρ' =>
      exfalso
      have e : runF ks kr κl.length fb ρ = none := by unfold runF; rw [q]
      cases x with
      | true => rw [if_pos rfl, e] at post; exact post
      | false => rw [if_neg Bool.false_ne_true] at post; unfold noErr at post; rw [e] at post; exact post
    | ct ρ' =>
      exfalso
      have e : runF ks kr κl.length fb ρ = none := by unfold runF; rw [q]
      cases x with
      | true => rw [if_pos rfl, e] at post; exact post
      | false => rw [if_neg Bool.false_ne_true] at post; unfold noErr at post; rw [e] at post; exact post
    | err nm d ρ' =>
      have e : runF ks kr κl.length fb ρ = some (.err nm d (outs ks ρ')) := by unfold runF; rw [q]
      cases x with
      | true =>
        rw [if_pos rfl, e] at post
        exact fun cls dx σ' w' sm _ ex ea => hW rfl _ _ _ _ (post cls dx w' sm ex ea)
      | false =>
        rw [if_neg Bool.false_ne_true] at post
        unfold noErr at post
        rw [e] at post
        exact post.elim
/-- a def of the text that is known by its mirror -/
structure Kn (P : Program) (w : World) (K : PySem.W.Frag) (mg : Str → Option Value) (base : Heap) (CX : CXT) (k : Nat) (x : Str) (ps : List Str) (sp : Sp) : Prop where
  ex : ∃ (f : Addr) (fd : FuncData), FnOk P w K mg base CX k f fd ps sp ∧ mg x = some (.ref f) ∧ PySem.W.keepIn K (.ref f) = true ∧ Binds K fd ps [] ∧ ∃ (oc : Value) (od : Option Addr) (osl : Array (Option Value)), K.lookup f = some ⟨oc, od, .func fd, osl⟩
/-- where a def stands -/
structure At (K : PySem.W.Frag) (mg : Str → Option Value) (x : Str) (st : Stmt) (ps : List Str) : Prop where
  ex : ∃ (f : Addr) (fd : FuncData), Fun K x x st f fd ∧ mg x = some (.ref f) ∧ Binds K fd ps []
theorem fun_lk {x qual : Str} {st : Stmt} {f : Addr} {fd : FuncData} (F : Fun K x qual st f fd) : ∃ (oc : Value) (od : Option Addr) (osl : Array (Option Value)), K.lookup f = some ⟨oc, od, .func fd, osl⟩ := by
  obtain ⟨oc, od, kV, doc, pm, an, cdv, ct, osl, rfl, lk, hcd⟩ := F.ex
  exact ⟨oc, od, osl, lk⟩
/-- a def that raises nothing, by its mirror -/
theorem fn_ok0 {x : Str} {st : Stmt} {N ps : List Str} {k : Nat} {ks κl : List Kind} {kr : Kind} {fb : Env → Option Fl} (a : At K mg x st ps) (S : FnScope N ps (defScope st)) (hl : ks.length = ps.length) (hn : noFixs ks) (hln : noFixs κl) (hN : N.length = ps.length + κl.length)
    (hb : ∀ (f : Addr) (cdv : Value) (A : Around) (outer : List PySem.Env) (s : Shared) (H : Hp) (vs : List V) (E : XK), vs.length = ks.length → Room k (A.deeper (envOfC x (defScope st) s.heap.objs.size f cdv)) →
      ∃ κn, RetK ks vs κn ∧ FSs (cxOf CX0 P w K mg base N x (defScope st) f cdv A outer s H E).nox (fun _ _ _ _ => False) ⟨ks, vs, kr, [], none⟩ (kin ks vs ++ κl) κn (defBody st) fb) :
    Kn P w K mg base CX0 (k + 1) x ps (spF K mg ks kr (noErr (runF ks kr κl.length fb))) := by
  obtain ⟨f, fd, F, hm, bd⟩ := a.ex
  refine ⟨f, fd, F.ok S (fun vs H Q E h => (spF_len h).trans hl) (fun cdv A outer s H vs Q E hr h => ?_), hm, F.kp, bd, fun_lk F⟩
  obtain ⟨κn, hk, hbb⟩ := hb f cdv A outer s H vs E (spF_len h) hr
  refine ⟨_, hbb, run_body (X := (cxOf CX0 P w K mg base N x (defScope st) f cdv A outer s H E).nox) (x := false) (fb := fb) (E := E) hn hln ?_ hk (fun z => nomatch z) h⟩
  unfold L2.start
  rw [hN, spF_len h, hl, Nat.add_sub_cancel_left]
/-- a def that may raise -/
theorem fn_okX {x : Str} {st : Stmt} {N ps : List Str} {k : Nat} {ks κl : List Kind} {kr : Kind} {fb : Env → Option Fl} (a : At K mg x st ps) (S : FnScope N ps (defScope st)) (hl : ks.length = ps.length) (hn : noFixs ks) (hln : noFixs κl) (hN : N.length = ps.length + κl.length)
    (hb : ∀ (f : Addr) (cdv : Value) (A : Around) (outer : List PySem.Env) (s : Shared) (H : Hp) (vs : List V) (E : XK), vs.length = ks.length → Room k (A.deeper (envOfC x (defScope st) s.heap.objs.size f cdv)) →
      ∃ κn, RetK ks vs κn ∧ FSs (cxOf (L2.CX P w) P w K mg base N x (defScope st) f cdv A outer s H E) (fun cls d _ H => E cls d H) ⟨ks, vs, kr, [], none⟩ (kin ks vs ++ κl) κn (defBody st) fb) :
    Kn P w K mg base (L2.CX P w) (k + 1) x ps (spF K mg ks kr (runF ks kr κl.length fb)) := by
  obtain ⟨f, fd, F, hm, bd⟩ := a.ex
  refine ⟨f, fd, F.okX S (fun vs H Q E h => (spF_len h).trans hl) (fun cdv A outer s H vs Q E hr h => ?_), hm, F.kp, bd, fun_lk F⟩
  obtain ⟨κn, hk, hbb⟩ := hb f cdv A outer s H vs E (spF_len h) hr
  refine ⟨_, hbb, run_body (X := cxOf (L2.CX P w) P w K mg base N x (defScope st) f cdv A outer s H E) (x := true) (fb := fb) (E := E) hn hln ?_ hk (fun _ _ _ _ _ z => z) h⟩
  unfold L2.start
  rw [hN, spF_len h, hl, Nat.add_sub_cancel_left]
theorem Kn.mono {CX : CXT} {j k : Nat} {x : Str} {ps : List Str} {sp : Sp} (g : Kn P w K mg base CX j x ps sp) (h : j ≤ k) : Kn P w K mg base CX k x ps sp := by
  obtain ⟨f, fd, F, r⟩ := g.ex
  exact ⟨f, fd, F.mono h, r⟩
end
section
variable {X : Cx} {W : WX} {κ : List Kind} {pos p : Pos} {e : Expr} {es : List Expr} {fr : M (List D)} {ms : List Md} {ks : List Kind} {kr : Kind} {g : M D}
/-- f(e, ..) of a known def that raises nothing -/
theorem fe_fn {k : Nat} {ps : List Str} {x : Str} (G : Kn X.prog X.w X.K X.mg X.base CX0 k x ps (spF X.K X.mg ks kr (noErr g))) (hr : Room k X.A) (hf : Fits κ ms ks) (ha : FA X W κ ms (e :: es) fr) (hg : Gl X x := by rfl) (hdb : (x == ("__debug__" : Str)) = false := by decide)
    (he : starEach (e :: es) X.env = (false, eval e X.env) :: starEach es X.env := by rfl) (hpl : (backTo pos (starEach es X.env)).any (·.1) = false := by rfl) : FV X W κ (.t kr) (.Call (.Name x p) (e :: es) [] pos) (fCall ms (noErr g) fr) := by
  obtain ⟨f, fd, F, hm, hk, hb, _⟩ := G.ex
  exact fe_call F hr hg hm hk hb hf ha hdb he hpl
/-- .. that may raise -/
theorem fe_fnX {k : Nat} {ps : List Str} {x : Str} (G : Kn X.prog X.w X.K X.mg X.base (L2.CX X.prog X.w) k x ps (spF X.K X.mg ks kr g)) (tk : Takes X W) (hr : Room k X.A) (hf : Fits κ ms ks) (ha : FA X W κ ms (e :: es) fr) (hg : Gl X x := by rfl) (hdb : (x == ("__debug__" : Str)) = false := by decide)
    (he : starEach (e :: es) X.env = (false, eval e X.env) :: starEach es X.env := by rfl) (hpl : (backTo pos (starEach es X.env)).any (·.1) = false := by rfl) : FV X W κ (.t kr) (.Call (.Name x p) (e :: es) [] pos) (fCall ms g fr) := by
  obtain ⟨f, fd, F, hm, hk, hb, _⟩ := G.ex
  exact fe_callX F tk hr hg hm hk hb hf ha hdb he hpl
variable {C : FC} {κn : List Kind}
/-- x = e where the slot keeps its kind -/
theorem fs_setK {k : Kind} {i : Nat} {x : Str} {pos' : Pos} {fa : M D} (ha : FV X W κ (.t k) e fa) (hN : X.N.Nodup) (hk : κ[i]? = some k := by rfl) (hn : nofix k := by exact True.intro) (hi : X.N[i]? = some x := by rfl) (hx : Loc X.env.scope x := by first | exact .inl rfl | exact .inr rfl) (he : EK C κ := by first | exact .inl rfl | exact .inr rfl)
    (hs : swapsWith e (some (.Name x pos')) pos.line X.env = pure false := by rfl) (hf : X.fn x = true ∨ X.env.scope.names.lookup x = some .local := by first | exact .inl rfl | exact .inr rfl) : FS X W C κ κ (.Assign [.Name x pos'] e pos) (sSet i fa) := by
  have z := fs_set (κ := κ) (C := C) ha hN hi hx (List.getElem?_eq_some_iff.mp hk).1 hn he hs hf
  rw [set_same hk] at z
  exact z
end
/-! ### while -/
/-- one turn after the other, at most so many -/
def whN (t : M Bool) (b : Env → Option Fl) : Nat → Env → Option Fl
  | 0, _ => none
  | n + 1, ρ => bnd (t ρ) Fl.err fun c ρ1 => if c = true then match b ρ1 with
    | some (.nx ρ2) => whN t b n ρ2
    | some (.ct ρ2) => whN t b n ρ2
    | some (.bk ρ2) => some (.nx ρ2)
    | o => o
    else some (.nx ρ1)
theorem whN_more {t : M Bool} {b : Env → Option Fl} : ∀ {n : Nat} {ρ : Env} {r : Fl}, whN t b n ρ = some r → whN t b (n + 1) ρ = some r
  | 0, _, _, h => by
    unfold whN at h
    cases h
  | n + 1, ρ, r, h => by
    unfold whN at h ⊢
    unfold bnd at h ⊢
    split
    · rename_i c ρ1 e
      rw [e] at h
      dsimp only at h ⊢
      by_cases hc : c = true
      · rw [if_pos hc] at h ⊢
        split
        · rename_i ρ2 e2
          rw [e2] at h
          exact whN_more h
        · rename_i ρ2 e2
          rw [e2] at h
          exact whN_more h
        · rename_i ρ2 e2
          rw [e2] at h
          exact h
        · rename_i h1 h2 h3
          split at h
          · rename_i ρ2 e2
            exact absurd e2 (h1 ρ2)
          · rename_i ρ2 e2
            exact absurd e2 (h2 ρ2)
          · rename_i ρ2 e2
            exact absurd e2 (h3 ρ2)
          · exact h
      · rw [if_neg hc] at h ⊢
        exact h
    · rename_i e
      rw [e] at h
      exact h
    · rename_i e
      rw [e] at h
      exact h
theorem whN_le {t : M Bool} {b : Env → Option Fl} {n m : Nat} {ρ : Env} {r : Fl} (h : whN t b n ρ = some r) (l : n ≤ m) : whN t b m ρ = some r := by
  induction l with
  | refl => exact h
  | step _ ih => exact whN_more ih
open Classical in
noncomputable def sWh (t : M Bool) (b : Env → Option Fl) : Env → Option Fl := fun ρ => if h : ∃ n r, whN t b n ρ = some r then whN t b (choose h) ρ else none
theorem sWh_of {t : M Bool} {b : Env → Option Fl} {n : Nat} {ρ : Env} {r : Fl} (h : whN t b n ρ = some r) : sWh t b ρ = some r := by
  have ex : ∃ n r, whN t b n ρ = some r := ⟨n, r, h⟩
  unfold sWh
  rw [dif_pos ex]
  obtain ⟨r', h'⟩ := Classical.choose_spec ex
  have a := whN_le h' (Nat.le_max_left (Classical.choose ex) n)
  have b := whN_le h (Nat.le_max_right (Classical.choose ex) n)
  rw [a] at b
  rw [h', b]
theorem sWh_ex {t : M Bool} {b : Env → Option Fl} {ρ : Env} {r : Fl} (h : sWh t b ρ = some r) : ∃ n, whN t b n ρ = some r := by
  unfold sWh at h
  split at h
  · exact ⟨_, h⟩
  · cases h
theorem sWh_none {t : M Bool} {b : Env → Option Fl} {ρ : Env} (h : sWh t b ρ = none) : True := trivial
section
variable {X : Cx} {W : WX} {C : FC} {κ κ1 κn : List Kind} {st : Stmt} {rest : List Stmt} {f g : Env → Option Fl} {pos : Pos} {e : Expr} {fa : M D}
theorem fs_while {c : Expr} {t : M Bool} {body : List Stmt} (hp : PassesOwn (model X.prog X.w) X.A X.env X.xe) (hc : FT X W κ c t) (hb : FSs X W { C with kl := κ } κ κ body f) (he : EK C κ := by first | exact .inl rfl | exact .inr rfl) : FS X W C κ κ (.While c body [] pos) (sWh t f) := (ps_while hp hc hb).imp fun D' σ H h => by
  obtain ⟨ρ, w, rfl, rel, post⟩ := h
  cases q : sWh t f ρ with
  | none =>
    rw [q] at post
    exact post.elim
  | some r =>
    rw [q] at post
    obtain ⟨n, hn⟩ := sWh_ex q
    refine ⟨fun m σ H => ∃ ρ w1, w1.H = H ∧ Rel X.K κ ρ σ w1 ∧ Ext w w1 ∧ whN t f m ρ = some r, ⟨n, ρ, w, rfl, rel, Ext.refl _, hn⟩, ?_⟩
    rintro m σ _ ⟨ρ, w1, rfl, rel1, e1, hm⟩
    cases m with
    | zero =>
      unfold whN at hm
      cases hm
    | succ m =>
      unfold whN at hm
      refine seqT (P := fun o => o = some r) rel1 hm (fun z => nomatch z) (fun nm d ρ' z => ?_) fun b ρ2 w2 rel2 e2 h2 => ?_
      · cases z
        exact errS he (PostS.since post e1)
      · cases b with
        | false =>
          rw [if_neg Bool.false_ne_true] at h2 ⊢
          cases h2
          exact post σ w2 rel2 (e1.trans e2)
        | true =>
          rw [if_pos rfl] at h2 ⊢
          refine ⟨fun σ' H' => ∃ ρ3 w3, w3.H = H' ∧ Rel X.K κ ρ3 σ' w3 ∧ Ext w w3 ∧ whN t f m ρ3 = some r, fun σ' H' z => ⟨m, Nat.lt_succ_self _, z⟩, ρ2, w2, rfl, rel2, ?_⟩
          have e12 := e1.trans e2
          cases qb : f ρ2 with
          | none =>
            rw [qb] at h2
            cases h2
          | some o =>
            rw [qb] at h2
            cases o with
            | nx ρ3 => exact fun σ' w3 rel3 e3 => ⟨ρ3, w3, rfl, rel3, e12.trans e3, h2⟩
            | ct ρ3 => exact fun σ' w3 rel3 e3 => ⟨ρ3, w3, rfl, rel3, e12.trans e3, h2⟩
            | bk ρ3 =>
              cases h2
              exact fun σ' w3 rel3 e3 => post σ' w3 rel3 (e12.trans e3)
            | ret d ρ3 =>
              cases h2
              exact fun v w3 rel3 e3 t3 => post v w3 rel3 (e12.trans e3) (t3.since e12)
            | err nm d ρ3 =>
              cases h2
              exact fun cls dx σ' w3 sm r3 e3 ea => post cls dx σ' w3 sm r3 (e12.trans e3) ea
end
/-! ### targets -/
/-- the slots beside sl are as they were -/
def Upto (sl : List Nat) (σ σ' : L2.St) : Prop := σ'.length = σ.length ∧ ∀ j, j ∉ sl → σ'[j]? = σ[j]?
theorem Upto.refl (sl : List Nat) (σ : L2.St) : Upto sl σ σ := ⟨rfl, fun _ _ => rfl⟩
theorem Upto.trans {s1 s2 : List Nat} {σ σ1 σ2 : L2.St} (a : Upto s1 σ σ1) (b : Upto s2 σ1 σ2) : Upto (s1 ++ s2) σ σ2 := ⟨b.1.trans a.1, fun j h => (b.2 j fun z => h (List.mem_append_right _ z)).trans (a.2 j fun z => h (List.mem_append_left _ z))⟩
def tG (c : Ct) (b : Bool) (sl : List Nat) (κ κn : List Kind) (ft : D → Env → Option Env) : TG := fun v σ H Q => ∃ ρ w d, w.H = H ∧ Rel c.K κ ρ σ w ∧ RD b c.K w.F v d ∧ match ft d ρ with
  | some ρ' => ∀ σ' w', w'.H = w.H → Upto sl σ σ' → Rel c.K κn ρ' σ' w' → Ext w w' → Q σ' w'.H
  | none => False
def tGs (c : Ct) (b : Bool) (sl : List Nat) (κ κn : List Kind) (ft : List D → Env → Option Env) : TGs := fun vs σ H Q => ∃ ρ w ds, w.H = H ∧ Rel c.K κ ρ σ w ∧ RDs b c.K w.F vs ds ∧ match ft ds ρ with
  | some ρ' => ∀ σ' w', w'.H = w.H → Upto sl σ σ' → Rel c.K κn ρ' σ' w' → Ext w w' → Q σ' w'.H
  | none => False
def FG (X : Cx) (W : WX) (b : Bool) (sl : List Nat) (κ κn : List Kind) (e : Expr) (ft : D → Env → Option Env) : Prop := PG X e (tG (ctx X W) b sl κ κn ft)
def FGs (X : Cx) (W : WX) (b : Bool) (sl : List Nat) (κ κn : List Kind) (es : List Expr) (ft : List D → Env → Option Env) : Prop := PGs X es (tGs (ctx X W) b sl κ κn ft)
theorem _root_.L2.PG.imp {X : Cx} {e : Expr} {t t' : TG} (h : PG X e t) (i : ∀ v σ H Q, t' v σ H Q → t v σ H Q) : PG X e t' := ⟨fun pins s σ H v u Q I r q => h.run pins s σ H v u Q I r (i v σ H Q q)⟩
theorem _root_.L2.PGs.imp {X : Cx} {e : List Expr} {t t' : TGs} (h : PGs X e t) (i : ∀ v σ H Q, t' v σ H Q → t v σ H Q) : PGs X e t' := ⟨fun pins s σ H v u Q I r q => h.run pins s σ H v u Q I r (i v σ H Q q)⟩
section
variable {X : Cx} {W : WX} {C : FC} {b : Bool} {sl sl2 : List Nat} {κ κ1 κn : List Kind} {pos : Pos} {e : Expr} {es : List Expr}
def gNm (i : Nat) : D → Env → Option Env := fun d ρ => some (ρ.set i (some d))
theorem fg_name {i : Nat} {x : Str} (hN : X.N.Nodup) (hi : X.N[i]? = some x := by rfl) (hx : Loc X.env.scope x := by first | exact .inl rfl | exact .inr rfl) (hl : i < κ.length := by decide) (hf : X.fn x = true ∨ X.env.scope.names.lookup x = some .local := by first | exact .inl rfl | exact .inr rfl) : FG X W b [i] κ (κ.set i (.v b)) (.Name x pos) (gNm i) := (pg_name hN hi hx hf).imp fun v σ H Q h => by
  obtain ⟨ρ, w, d, rfl, rel, r, post⟩ := h
  obtain ⟨w2, eH, _, rel2, ex⟩ := rel_set (κ := κ) (k := .v b) (i := i) (w := w) rel (Temp.imm r) (by rw [← rel.slots.lengths.1]; exact hl) (fun _ _ z => nomatch z)
  show Q (σ.set i (some v)) w.H
  rw [← eH]
  exact post _ w2 eH ⟨List.length_set .., fun j h => List.getElem?_set_ne (fun z => h (by rw [z]; exact List.mem_singleton.mpr rfl))⟩ rel2 (ex (Ext.refl _))
theorem fg_nameK {i : Nat} {x : Str} (hN : X.N.Nodup) (hk : κ[i]? = some (.v b) := by rfl) (hi : X.N[i]? = some x := by rfl) (hx : Loc X.env.scope x := by first | exact .inl rfl | exact .inr rfl) (hf : X.fn x = true ∨ X.env.scope.names.lookup x = some .local := by first | exact .inl rfl | exact .inr rfl) : FG X W b [i] κ κ (.Name x pos) (gNm i) := by
  have z := fg_name (κ := κ) (b := b) (W := W) (pos := pos) hN hi hx (List.getElem?_eq_some_iff.mp hk).1 hf
  rw [set_same hk] at z
  exact z
def gsNil : List D → Env → Option Env := fun ds ρ => match ds with
  | [] => some ρ
  | _ => none
def gsCons (f : D → Env → Option Env) (g : List D → Env → Option Env) : List D → Env → Option Env := fun ds ρ => match ds with
  | d :: ds => (f d ρ).bind (g ds)
  | [] => none
theorem fgs_nil : FGs X W b [] κ κ [] gsNil := pgs_nil.imp fun vs σ H Q h => by
  obtain ⟨ρ, w, ds, rfl, rel, r, post⟩ := h
  cases r with
  | nil => exact ⟨rfl, post σ w rfl (Upto.refl _ _) rel (Ext.refl _)⟩
  | cons _ _ => exact post.elim
theorem fgs_cons {f : D → Env → Option Env} {g : List D → Env → Option Env} (h1 : FG X W b sl κ κ1 e f) (h2 : FGs X W b sl2 κ1 κn es g) (hs : (assignEach (e :: es) X.env).map (·.2) = assign e X.env :: (assignEach es X.env).map (·.2) := by rfl) : FGs X W b (sl ++ sl2) κ κn (e :: es) (gsCons f g) := (pgs_cons h1 h2 hs).imp fun vs σ H Q h => by
  obtain ⟨ρ, w, ds, rfl, rel, r, post⟩ := h
  cases r with
  | nil => exact post.elim
  | @cons v vs d ds r rs =>
    refine ⟨v, vs, rfl, ρ, w, d, rfl, rel, r, ?_⟩
    have post' : (match (f d ρ).bind (g ds) with
      | some ρ' => ∀ σ' w', w'.H = w.H → Upto (sl ++ sl2) σ σ' → Rel X.K κn ρ' σ' w' → Ext w w' → Q σ' w'.H
      | none => False) := post
    cases q : f d ρ with
    | none =>
      rw [q] at post'
      exact post'.elim
    | some ρ1 =>
      rw [q] at post'
      intro σ1 w1 eH u1 rel1 e1
      refine ⟨ρ1, w1, ds, rfl, rel1, rs.mono e1.same, ?_⟩
      have post2 : (match g ds ρ1 with
        | some ρ' => ∀ σ' w', w'.H = w.H → Upto (sl ++ sl2) σ σ' → Rel X.K κn ρ' σ' w' → Ext w w' → Q σ' w'.H
        | none => False) := post'
      cases q2 : g ds ρ1 with
      | none =>
        rw [q2] at post2
        exact post2.elim
      | some ρ2 =>
        rw [q2] at post2
        exact fun σ2 w2 eH2 u2 rel2 e2 => post2 σ2 w2 (eH2.trans eH) (u1.trans u2) rel2 (e1.trans e2)
def gTp (g : List D → Env → Option Env) : D → Env → Option Env := fun d ρ => match d with
  | .tuple ds => g ds ρ
  | _ => none
theorem fg_tup {g : List D → Env → Option Env} {k : Nat} {n : Nat} (hc : X.calm = true) (hl : ∀ ds ρ ρ', g ds ρ = some ρ' → ds.length = n) (h : FGs X W b sl κ κn es g) (hn : (assignEach es X.env).length = n := by rfl) (hst : (assignEach es X.env).findIdx? (·.1) = none := by rfl) : FG X W b sl κ κn (.Tuple es k pos) (gTp g) := (pg_tup hc h hn hst).imp fun v σ H Q h => by
  obtain ⟨ρ, w, d, rfl, rel, r, post⟩ := h
  have key : ∀ ds, d = .tuple ds → gTup X.K n (tGs (ctx X W) b sl κ κn g) v σ w.H Q := fun ds ed => by
    subst ed
    have post' : (match g ds ρ with
      | some ρ' => ∀ σ' w', w'.H = w.H → Upto sl σ σ' → Rel X.K κn ρ' σ' w' → Ext w w' → Q σ' w'.H
      | none => False) := post
    have q : ∃ ρ', g ds ρ = some ρ' := by
      cases y : g ds ρ with
      | none =>
        rw [y] at post'
        exact post'.elim
      | some ρ' => exact ⟨ρ', rfl⟩
    obtain ⟨ρ', q⟩ := q
    cases r with
    | tup h1 t1 => exact ⟨_, _, rfl, SqT.of (rel.same _ _ h1), by rw [t1.length]; exact hl _ _ _ q, ρ, w, ds, rfl, rel, t1, post⟩
    | con z h1 t1 => exact ⟨_, _, rfl, sameT rel.same h1, by rw [t1.length]; exact hl _ _ _ q, ρ, w, ds, rfl, rel, t1, post⟩
  cases d with
  | tuple ds => exact key ds rfl
  | none => exact post.elim
  | bool _ => exact post.elim
  | int _ => exact post.elim
  | str _ => exact post.elim
  | list _ => exact post.elim
  | dict _ => exact post.elim
theorem gs_len0 : ∀ ds ρ ρ', gsNil ds ρ = some ρ' → ds.length = 0 := fun ds ρ ρ' h => by
  cases ds with
  | nil => rfl
  | cons _ _ => cases h
theorem gs_lenS {f : D → Env → Option Env} {g : List D → Env → Option Env} {n : Nat} (h : ∀ ds ρ ρ', g ds ρ = some ρ' → ds.length = n) : ∀ ds ρ ρ', gsCons f g ds ρ = some ρ' → ds.length = n + 1 := fun ds ρ ρ' z => by
  cases ds with
  | nil => cases z
  | cons d ds =>
    have z' : (f d ρ).bind (g ds) = some ρ' := z
    cases q : f d ρ with
    | none => rw [q] at z'; cases z'
    | some ρ1 =>
      rw [q] at z'
      rw [List.length_cons, h ds ρ1 ρ' z']
/-- target = value -/
def sAsg (ft : D → Env → Option Env) (fa : M D) : Env → Option Fl := fun ρ => bnd (fa ρ) Fl.err fun d ρ1 => (ft d ρ1).map Fl.nx
theorem fs_asg {tg : Expr} {fa : M D} {ft : D → Env → Option Env} (ha : FV X W κ (.t (.v b)) e fa) (hg : FG X W b sl κ κn tg ft) (he : EK C κ := by first | exact .inl rfl | exact .inr rfl) (hs : swapsWithSole [tg] e pos.line X.env = pure false := by rfl) (hw : swappedStores [tg] e X.env = pure none := by rfl)
    (h1 : (assignEach [tg] X.env).map (·.2) = [assign tg X.env] := by rfl) : FS X W C κ κn (.Assign [tg] e pos) (sAsg ft fa) := (ps_asg ha hg hs hw h1).imp fun D' σ H h => by
  obtain ⟨ρ, w, rfl, rel, post⟩ := h
  refine seqV (P := PostS (ctx X W) C κn D' w) rel post (fun z => z) (fun n d ρ' z => errS he z) fun d ρ1 v w1 rel1 e1 t1 post1 => ?_
  refine ⟨ρ1, w1, d, rfl, rel1, Temp.rd t1, ?_⟩
  cases q : ft d ρ1 with
  | none =>
    rw [q] at post1
    exact post1.elim
  | some ρ2 =>
    rw [q] at post1
    exact fun σ' w' _ _ rel' e' => post1 σ' w' rel' (e1.trans e')
/-- a, b = x, y: two locals, no tuple is made -/
def sPar (i j : Nat) (fr : M (List D)) : Env → Option Fl := fun ρ => bnd (fr ρ) Fl.err fun ds ρ1 => match ds with
  | [d, e] => some (.nx ((ρ1.set i (some d)).set j (some e)))
  | _ => none
end
end FN
set_option Elab.async false
set_option linter.all false
set_option maxRecDepth 100000
set_option maxHeartbeats 4000000
/-! FN7: what is walked; for; comprehensions. -/
namespace FN
open PySem PySem.Spec PyProof.Rows L2
/-! ### walks -/
/-- J gives the data ds, one after the other, as long as what is frozen stands -/
def WalkD (b : Bool) (K : PySem.W.Frag) (J : It) (ds : List D) (F : Hp) : Prop := ∀ (i : Nat) (H : Hp), Same F H → (ds.length ≤ i → J.stop i H) ∧ ∀ d, ds[i]? = some d → J.go i H ∧ ∀ x H', J.yld i H x H' →
  (H' = H ∧ RD b K F x d) ∨ ∃ (T : Addr) (xs : List V) (es : List D), H T = none ∧ H' = upd H T (.tup xs) ∧ x = .ref T ∧ d = .tuple es ∧ RDs b K F xs es
def PostI (c : Ct) (b : Bool) (κ : List Kind) (σ : L2.St) (w : Wd) (R : It → Hp → Prop) : Option (Out (List D)) → Prop
  | some (.ok ds ρ) => ∀ w' J, Rel c.K κ ρ σ w' → Ext w w' → WalkD b c.K J ds w'.F → R J w'.H
  | some (.err n d ρ) => ErrOk c κ σ w n d ρ
  | none => False
def tI (c : Ct) (b : Bool) (κ : List Kind) (f : M (List D)) : TI := fun σ H R => ∃ ρ w, w.H = H ∧ Rel c.K κ ρ σ w ∧ PostI c b κ σ w R (f ρ)
def FI (X : Cx) (W : WX) (b : Bool) (κ : List Kind) (tg e : Expr) (f : M (List D)) : Prop := PI X tg e (tI (ctx X W) b κ f)
theorem _root_.L2.PI.imp {X : Cx} {tg e : Expr} {t t' : TI} (h : PI X tg e t) (i : ∀ σ H R, t' σ H R → t σ H R) : PI X tg e t' := ⟨fun pins s σ H R I q => h.run pins s σ H R I (i σ H R q)⟩
theorem seqI {c : Ct} {b : Bool} {κ : List Kind} {σ : L2.St} {w1 : Wd} {β : Type} {fa : M (List D)} {ρ : Env} {P : Option β → Prop} {e : Str → D → Env → β} {g : List D → Env → Option β} {R : It → Hp → Prop} (rel : Rel c.K κ ρ σ w1) (h : P (bnd (fa ρ) e g)) (hN : ¬ P none) (hE : ∀ n d ρ', P (some (e n d ρ')) → ErrOk c κ σ w1 n d ρ')
    (hR : ∀ ds ρ2 w2 J, Rel c.K κ ρ2 σ w2 → Ext w1 w2 → WalkD b c.K J ds w2.F → P (g ds ρ2) → R J w2.H) : tI c b κ fa σ w1.H R := by
  refine ⟨ρ, w1, rfl, rel, ?_⟩
  cases q : fa ρ with
  | none =>
    rw [q] at h
    exact hN h
  | some o =>
    rw [q] at h
    cases o with
    | ok d ρ2 => exact fun w2 J r2 e2 t2 => hR d ρ2 w2 J r2 e2 t2 h
    | err n d ρ2 => exact hE n d ρ2 h
theorem walk_list {b : Bool} {K : PySem.W.Frag} {F : Hp} {a : Addr} {xs : List V} {ds : List D} (h : SqL K F a xs) (r : RDs b K F xs ds) : WalkD b K (Itl K a) ds F := fun i H e => by
  have hq : SqL K H a xs := e.seq h
  refine ⟨fun l => ⟨xs, hq, by rw [r.length]; exact l⟩, fun d ed => ?_⟩
  obtain ⟨v, ev, rv⟩ := r.get ed
  refine ⟨⟨xs, v, hq, ev⟩, fun x H' y => ?_⟩
  obtain ⟨e1, y⟩ := y
  have := y xs hq
  rw [ev] at this
  cases this
  exact .inl ⟨e1, rv⟩
theorem walk_tup {b : Bool} {K : PySem.W.Frag} {F : Hp} {a : Addr} {xs : List V} {ds : List D} (h : SqT K F a xs) (r : RDs b K F xs ds) : WalkD b K (Itt K a) ds F := fun i H e => by
  have hq : SqT K H a xs := sameT e h
  refine ⟨fun l => ⟨xs, hq, by rw [r.length]; exact l⟩, fun d ed => ?_⟩
  obtain ⟨v, ev, rv⟩ := r.get ed
  refine ⟨⟨xs, v, hq, ev⟩, fun x H' y => ?_⟩
  obtain ⟨e1, y⟩ := y
  have := y xs hq
  rw [ev] at this
  cases this
  exact .inl ⟨e1, rv⟩
def chD (z : Str) : List D := z.cps.toList.map fun c => .str ⟨#[c]⟩
theorem walk_str {b : Bool} {K : PySem.W.Frag} {F : Hp} {z : Str} : WalkD b K (Its z) (chD z) F := fun i H _ => by
  refine ⟨fun l => (show z.cps.size ≤ i by simpa [chD] using l), fun d ed => ?_⟩
  unfold chD at ed
  rw [List.getElem?_map] at ed
  cases q : z.cps.toList[i]? with
  | none =>
    rw [q] at ed
    cases ed
  | some ch =>
    rw [q] at ed
    cases ed
    have q' : z.cps[i]? = some ch := by simpa using q
    refine ⟨(Array.getElem?_eq_some_iff.mp q').1, fun x H' y => ?_⟩
    obtain ⟨e1, c2, e2, e3⟩ := y
    rw [q'] at e2
    cases e2
    subst e3
    exact .inl ⟨e1, .str _⟩
theorem walk_range {b : Bool} {K : PySem.W.Frag} {F : Hp} {lo : Int} {n : Nat} : WalkD b K (Itr lo n) ((List.range n).map fun k => .int (lo + (k : Nat))) F := fun i H _ => by
  refine ⟨fun l => (show n ≤ i by simpa using l), fun d ed => ?_⟩
  rw [List.getElem?_map] at ed
  cases q : (List.range n)[i]? with
  | none =>
    rw [q] at ed
    cases ed
  | some j =>
    rw [q] at ed
    cases ed
    obtain ⟨hj, ej⟩ := List.getElem?_eq_some_iff.mp q
    rw [List.getElem_range] at ej
    subst ej
    refine ⟨(show i < n by simpa using hj), fun x H' y => ?_⟩
    obtain ⟨e1, e2⟩ := y
    subst e2
    exact .inl ⟨e1, .int _⟩
/-! ### a list, a tuple or a text, walked -/
def iAny (K : PySem.W.Frag) (tl : TE) : TI := fun σ H R => tl σ H fun x H1 => (∃ a xs, x = .ref a ∧ SqL K H1 a xs ∧ R (Itl K a) H1) ∨ (∃ a xs, x = .ref a ∧ SqT K H1 a xs ∧ R (Itt K a) H1) ∨ (∃ y, x = .str y ∧ R (Its y) H1)
theorem pi_any {X : Cx} {tg l : Expr} {tl : TE} (hl : PE X l tl) : PI X tg l (iAny X.K tl) := by
  constructor
  intro pins s σ H R I h
  refine thn (hl.run pins s σ H _ I h) (fun v s1 hh => ?_)
  obtain ⟨x, H1, I1, r1, q1⟩ := hh
  have new : ∀ (J : It) (tn : Nat → Heap → Prop) (o : Obj), Turn X.prog X.w X.K tg J [s1.heap.objs.size] s1.heap.objs.size tn → tn 0 (s1.heap.push o) → R J H1 → PIE X pins σ tg R (.ref s1.heap.objs.size) { s1 with heap := s1.heap.push o } := fun J tn o T st q => by
    refine ⟨_, [s1.heap.objs.size], tn, J, H1, rfl, I1.kept (t' := s1.toks) fun b ob e => (Heap.get?_push_of_some _ e), T, st, fun b hb => ?_, q⟩
    rw [List.mem_singleton.mp hb]
    exact I1.fpOk (Nat.le_refl _) (I1.hok.fresh (Nat.le_refl _))
  rcases q1 with ⟨a, xs, rfl, hq, q⟩ | ⟨a, xs, rfl, hq, q⟩ | ⟨y, rfl, q⟩
  · cases r1
    obtain ⟨its, _, p, _⟩ := I1.list hq
    exact wpAny_pyIter_list p.isList (new _ _ _ (turn_list a _) ⟨_, Heap.get?_push_size _ rfl, rfl, rfl⟩ q)
  · cases r1
    obtain ⟨its, _, p, _⟩ := I1.tuple hq
    exact wpAny_pyIter_tuple (show s1.heap.IsTuple a its.toArray from p) (new _ _ _ (turn_tuple a _) ⟨_, Heap.get?_push_size _ rfl, rfl, rfl⟩ q)
  · obtain ⟨t, rfl⟩ := r1
    cases ha : y.cps.all (· < 128)
    · exact wpAny_pyIter_wide ha (pi_one (tk := s1.toks) I1 _ (turn_str _ y t "str_iterator" (.inr rfl)) ⟨_, Heap.get?_push_size _ rfl, rfl, rfl⟩ q)
    · exact wpAny_pyIter_ascii ha (pi_one (tk := s1.toks) I1 _ (turn_str _ y t "str_ascii_iterator" (.inl rfl)) ⟨_, Heap.get?_push_size _ rfl, rfl, rfl⟩ q)
def iSeq (fa : M D) : M (List D) := fun ρ => bdo (fa ρ) fun x ρ1 => match x with
  | .list ds => some (.ok ds ρ1)
  | .tuple ds => some (.ok ds ρ1)
  | .str z => some (.ok (chD z) ρ1)
  | _ => none
section
variable {X : Cx} {W : WX} {C : FC} {b : Bool} {κ κ1 κn : List Kind} {pos p : Pos} {tg e a : Expr} {fa fb : M D} {m ma mb : Md}
theorem fi_seq (ha : FV X W κ (.t (.v b)) e fa) : FI X W b κ tg e (iSeq fa) := (pi_any ha).imp fun σ H R h => by
  obtain ⟨ρ, w, rfl, rel, post⟩ := h
  refine seqV (P := PostI (ctx X W) b κ σ w R) rel post (fun z => z) (fun n d ρ' z => z) fun d ρ1 v w1 rel1 e1 t1 post1 => ?_
  have r := Temp.rd t1
  split at post1
  · cases r with
    | lst h1 rs => exact .inl ⟨_, _, rfl, SqL.of (rel1.same _ _ h1), post1 w1 _ rel1 e1 (walk_list (SqL.of h1) rs)⟩
  · cases r with
    | tup h1 rs => exact .inr (.inl ⟨_, _, rfl, SqT.of (rel1.same _ _ h1), post1 w1 _ rel1 e1 (walk_tup (SqT.of h1) rs)⟩)
    | con z h1 rs => exact .inr (.inl ⟨_, _, rfl, sameT rel1.same h1, post1 w1 _ rel1 e1 (walk_tup h1 rs)⟩)
  · exact .inr (.inr ⟨_, dp_str r.dp, post1 w1 _ rel1 e1 walk_str⟩)
  · exact post1.elim
/-- the script, walked -/
def iScr (i : Nat) : M (List D) := fun ρ => match ρ[i]? with
  | some (some (.list ds)) => some (.ok ds ρ)
  | _ => none
theorem fi_str (ha : FV X W κ (.t (.v b)) e fa) : FI X W b κ tg e (fun ρ => bdo (fa ρ) fun x ρ1 => match x with
  | .str z => some (.ok (chD z) ρ1)
  | _ => none) := (pi_str ha).imp fun σ H R h => by
  obtain ⟨ρ, w, rfl, rel, post⟩ := h
  refine seqV (P := PostI (ctx X W) b κ σ w R) rel post (fun z => z) (fun n d ρ' z => z) fun d ρ1 v w1 rel1 e1 t1 post1 => ?_
  have r := Temp.rd t1
  split at post1
  · exact ⟨_, dp_str r.dp, post1 w1 _ rel1 e1 walk_str⟩
  · exact post1.elim
/-! ### range -/
def rgD (i j : Int) : List D := (List.range (j - i).toNat).map fun k => .int (i + (k : Nat))
def okR (i : Int) : Bool := decide (-(2 ^ 62) ≤ i ∧ i < 2 ^ 62)
def iRg1 (m : Md) (fa : M D) : M (List D) := fun ρ => bdo (fa ρ) fun x ρ1 => match rd m x ρ1 with
  | some (.int j) => if okR j = true then some (.ok (rgD 0 j) ρ1) else none
  | _ => none
theorem fi_range1 (hg : Gl X "range") (hm : X.mg "range" = none) (ha : FV X W κ m a fa) (hp : starEach (a :: []) X.env = (false, eval a X.env) :: starEach [] X.env := by rfl) (hs : starEach [a] X.env = [(false, eval a X.env)] := by rfl) : FI X W b κ tg (.Call (.Name "range" p) [a] [] pos) (iRg1 m fa) := (pi_range1 hg hm (pa_cons ha pa_nil hp) hs).imp fun σ H R h => by
  obtain ⟨ρ, w, rfl, rel, post⟩ := h
  refine seqV (P := PostI (ctx X W) b κ σ w R) rel post (fun z => z) (fun n d ρ' z => z) fun d ρ1 v w1 rel1 e1 t1 post1 => ?_
  split at post1
  · rename_i j ej
    split at post1
    · rename_i hok
      obtain ⟨h1, h2⟩ : -(2 ^ 62) ≤ j ∧ j < 2 ^ 62 := of_decide_eq_true hok
      have ev := dp_int (rd_dp rel1 t1 ej)
      subst ev
      refine ⟨j, rfl, h1, h2, post1 w1 _ rel1 e1 ?_⟩
      have := walk_range (b := b) (K := X.K) (F := w1.F) (lo := 0) (n := j.toNat)
      unfold rgD
      rw [Int.sub_zero]
      exact this
    · exact post1.elim
  · exact post1.elim
def iRg2 (ma mb : Md) (fa fb : M D) : M (List D) := fun ρ => bdo (fa ρ) fun x ρ1 => bdo (fb ρ1) fun y ρ2 => match rd ma x ρ2, rd mb y ρ2 with
  | some (.int i), some (.int j) => if okR i && okR j then some (.ok (rgD i j) ρ2) else none
  | _, _ => none
theorem fi_range2 {a' : Expr} (hg : Gl X "range") (hm : X.mg "range" = none) (ha : FV X W κ ma a fa) (hb : FV X W κ mb a' fb) (hp : starEach (a :: [a']) X.env = (false, eval a X.env) :: starEach [a'] X.env := by rfl) (hp2 : starEach (a' :: []) X.env = (false, eval a' X.env) :: starEach [] X.env := by rfl)
    (hs : starEach [a, a'] X.env = [(false, eval a X.env), (false, eval a' X.env)] := by rfl) (hs2 : starEach [a'] X.env = [(false, eval a' X.env)] := by rfl) : FI X W b κ tg (.Call (.Name "range" p) [a, a'] [] pos) (iRg2 ma mb fa fb) := (pi_range2 hg hm (pa_cons ha (pa_cons hb pa_nil hp2) hp) hs hs2).imp fun σ H R h => by
  obtain ⟨ρ, w, rfl, rel, post⟩ := h
  refine seqV (P := PostI (ctx X W) b κ σ w R) rel post (fun z => z) (fun n d ρ' z => z) fun dx ρ1 vx w1 rel1 e1 t1 post1 => ?_
  refine seqV (P := PostI (ctx X W) b κ σ w R) rel1 post1 (fun z => z) (fun n d ρ' z => ErrOk.since z e1) fun dy ρ2 vy w2 rel2 e2 t2 post2 => ?_
  split at post2
  · rename_i i j ei ej
    split at post2
    · rename_i hok
      rw [Bool.and_eq_true] at hok
      obtain ⟨h1, h2⟩ : -(2 ^ 62) ≤ i ∧ i < 2 ^ 62 := of_decide_eq_true hok.1
      obtain ⟨h3, h4⟩ : -(2 ^ 62) ≤ j ∧ j < 2 ^ 62 := of_decide_eq_true hok.2
      have ex := dp_int (rd_dp rel2 (t1.keep e2) ei)
      have ey := dp_int (rd_dp rel2 t2 ej)
      subst ex ey
      exact ⟨i, j, rfl, ⟨h1, h2, h3, h4⟩, post2 w2 _ rel2 (e1.trans e2) walk_range⟩
    · exact post2.elim
  · exact post2.elim
/-! ### for -/
/-- what a turn yields, in the world behind -/
theorem world_yield {K : PySem.W.Frag} {J : It} {ds : List D} {i : Nat} {d : D} {x : V} {H' : Hp} {ρ : Env} {σ : L2.St} {w : Wd} {F0 : Hp} (wk : WalkD b K J ds F0) (s0 : Same F0 w.F) (rel : Rel K κ ρ σ w) (ed : ds[i]? = some d) (y : J.yld i w.H x H') :
    ∃ w', w'.H = H' ∧ Rel K κ ρ σ w' ∧ Ext w w' ∧ RD b K w'.F x d := by
  obtain ⟨_, h⟩ := wk i w.H (s0.trans rel.same)
  rcases (h d ed).2 x H' y with ⟨rfl, r⟩ | ⟨T, xs, es, nT, rfl, rfl, rfl, rs⟩
  · exact ⟨w, rfl, rel, Ext.refl _, r.mono s0⟩
  · obtain ⟨w2, eH, eF, rel2, e2⟩ := world_new (o := .tup xs) rel nT
    exact ⟨w2, eH, rel2, e2, .tup (by rw [eF, upd_same]) ((rs.mono s0).mono e2.same)⟩
def forL (ft : D → Env → Option Env) (f : Env → Option Fl) : List D → Env → Option Fl
  | [], ρ => some (.nx ρ)
  | d :: ds, ρ => match ft d ρ with
    | some ρ1 => (match f ρ1 with
      | some (.nx ρ2) => forL ft f ds ρ2
      | some (.ct ρ2) => forL ft f ds ρ2
      | some (.bk ρ2) => some (.nx ρ2)
      | o => o)
    | none => none
def sFor (fi : M (List D)) (ft : D → Env → Option Env) (f : Env → Option Fl) : Env → Option Fl := fun ρ => bnd (fi ρ) Fl.err fun ds ρ1 => forL ft f ds ρ1
theorem fs_for {body : List Stmt} {fi : M (List D)} {ft : D → Env → Option Env} {f : Env → Option Fl} (hp : PassesOwn (model X.prog X.w) X.A X.env X.xe) (hc : X.calm = true) (hi : FI X W b κ tg e fi) {sl : List Nat} (hg : FG X W b sl κ κ tg ft) (hb : FSs X W { C with kl := κ } κ κ body f) (he : EK C κ := by first | exact .inl rfl | exact .inr rfl)
    (hs : ∀ x, foldedSetIterable e X.env x = pure x := by intro _; rfl) : FS X W C κ κ (.For tg e body [] pos) (sFor fi ft f) := (ps_for hp hc hi hg hb hs).imp fun D' σ H h => by
  obtain ⟨ρ, w, rfl, rel, post⟩ := h
  refine seqI (P := PostS (ctx X W) C κ D' w) rel post (fun z => z) (fun n d ρ' z => errS he z) fun ds ρ1 w1 J rel1 e1 wk post1 => ?_
  refine ⟨fun i m σ H => ∃ ρ w2, w2.H = H ∧ Rel X.K κ ρ σ w2 ∧ Ext w w2 ∧ Same w1.F w2.F ∧ m = ds.length - i ∧ PostS (ctx X W) C κ D' w (forL ft f (ds.drop i) ρ), ⟨ds.length, ρ1, w1, rfl, rel1, e1, Same.refl _, rfl, post1⟩, ?_⟩
  rintro i m σ _ ⟨ρ, w2, rfl, rel2, e2, s2, rfl, post2⟩
  have wk2 := wk i w2.H (s2.trans rel2.same)
  by_cases hi : i < ds.length
  · have ed : ds[i]? = some ds[i] := List.getElem?_eq_getElem hi
    rw [List.drop_eq_getElem_cons hi] at post2
    unfold forL at post2
    cases q : ft ds[i] ρ with
    | none =>
      rw [q] at post2
      exact post2.elim
    | some ρ3 =>
      rw [q] at post2
      refine .inr ⟨(wk2.2 _ ed).1, fun σ' H' => ∃ ρ w3, w3.H = H' ∧ Rel X.K κ ρ σ' w3 ∧ Ext w w3 ∧ Same w1.F w3.F ∧ PostS (ctx X W) C κ D' w (forL ft f (ds.drop (i + 1)) ρ), fun σ' H' z => ?_, fun x H' y => ?_⟩
      · obtain ⟨ρ, w3, z1, z2, z3, z4, z5⟩ := z
        exact ⟨ds.length - (i + 1), by omega, ρ, w3, z1, z2, z3, z4, rfl, z5⟩
      · obtain ⟨w3, eH, rel3, e3, r3⟩ := world_yield wk s2 rel2 ed y
        subst eH
        refine ⟨ρ, w3, ds[i], rfl, rel3, r3, ?_⟩
        rw [q]
        intro σ4 w4 eH4 _ rel4 e4
        have e24 := (e2.trans e3).trans e4
        have s24 := (s2.trans e3.same).trans e4.same
        refine ⟨ρ3, w4, rfl, rel4, ?_⟩
        dsimp only at post2
        cases qb : f ρ3 with
        | none =>
          rw [qb] at post2
          exact post2
        | some o =>
          rw [qb] at post2
          cases o with
          | nx ρ5 => exact fun σ' w5 rel5 e5 => ⟨ρ5, w5, rfl, rel5, e24.trans e5, s24.trans e5.same, post2⟩
          | ct ρ5 => exact fun σ' w5 rel5 e5 => ⟨ρ5, w5, rfl, rel5, e24.trans e5, s24.trans e5.same, post2⟩
          | bk ρ5 => exact fun σ' w5 rel5 e5 => post2 σ' w5 rel5 (e24.trans e5)
          | ret d ρ5 => exact fun v w5 rel5 e5 t5 => post2 v w5 rel5 (e24.trans e5) (t5.since e24)
          | err nm d ρ5 => exact fun cls dx σ' w5 sm r5 e5 ea => post2 cls dx σ' w5 sm r5 (e24.trans e5) ea
  · rw [List.drop_eq_nil_of_le (by omega)] at post2
    exact .inl ⟨wk2.1 (by omega), post2 σ w2 rel2 e2⟩
end
/-! ### comprehensions -/
section
variable {K : PySem.W.Frag} {F H : Hp}
def wipeE (ρ : Env) : List Nat → Env
  | [] => ρ
  | v :: vs => (wipeE ρ vs).set v none
theorem slots_wipe {κ : List Kind} {ρ : Env} {σ : L2.St} {fp : FpS} (h : Slots K F H κ ρ σ fp) : ∀ i : Nat, Slots K F H κ (ρ.set i none) (σ.set i none) fp := by
  induction h with
  | nil => exact fun i => .nil
  | skip t ih =>
    intro i
    cases i with
    | zero => exact .skip t
    | succ i => exact .skip (ih i)
  | cons r t dj h1 h2 ih =>
    intro i
    cases i with
    | zero => exact .skip (t.mono h2)
    | succ i => exact .cons r (ih i) dj h1 h2
theorem slots_wipes {κ : List Kind} {ρ : Env} {σ : L2.St} {fp : FpS} (h : Slots K F H κ ρ σ fp) : ∀ vs : List Nat, Slots K F H κ (wipeE ρ vs) (wipe σ vs) fp
  | [] => h
  | v :: vs => slots_wipe (slots_wipes h vs) v
theorem slots_unwipe {κ : List Kind} {ρ : Env} {σ' : L2.St} {fp : FpS} (h : Slots K F H κ ρ σ' fp) : ∀ {i : Nat} {σ : L2.St}, σ'.length = σ.length → (∀ j, j ≠ i → σ'[j]? = σ[j]?) → Slots K F H κ (ρ.set i none) σ fp := by
  induction h with
  | nil =>
    intro i σ hl _
    cases σ with
    | nil => exact .nil
    | cons _ _ => simp at hl
  | @skip k κ ρ o σ0 fp t ih =>
    intro i σ hl hj
    cases σ with
    | nil => simp at hl
    | cons o' σ =>
      cases i with
      | zero =>
        have : σ0 = σ := List.ext_getElem? fun j => by simpa using hj (j + 1) (by omega)
        subst this
        exact .skip t
      | succ i => exact .skip (ih (by simpa using hl) fun j hne => by simpa using hj (j + 1) (by omega))
  | @cons k κ d ρ v σ0 f g fp r t dj h1 h2 ih =>
    intro i σ hl hj
    cases σ with
    | nil => simp at hl
    | cons o' σ =>
      cases i with
      | zero =>
        have : σ0 = σ := List.ext_getElem? fun j => by simpa using hj (j + 1) (by omega)
        subst this
        exact .skip (t.mono h2)
      | succ i =>
        have e0 := hj 0 (by omega)
        simp only [List.getElem?_cons_zero, Option.some.injEq] at e0
        subst e0
        exact .cons r (ih (by simpa using hl) fun j hne => by simpa using hj (j + 1) (by omega)) dj h1 h2
theorem slots_unwipes {κ : List Kind} : ∀ {vs : List Nat} {ρ : Env} {σ : L2.St} {fp : FpS}, Slots K F H κ ρ (wipe σ vs) fp → Slots K F H κ (wipeE ρ vs) σ fp
  | [], _, _, _, h => h
  | v :: vs, ρ, σ, fp, h => by
    -- the last one first
    have h' : Slots K F H κ (ρ.set v none) (wipe σ vs) fp := slots_unwipe (i := v) h (by show ((wipe σ vs).set v none).length = _; rw [List.length_set]) fun j hj => by
      show ((wipe σ vs).set v none)[j]? = _
      rw [List.getElem?_set_ne (Ne.symm hj)]
    have q := slots_unwipes h'
    have e : ∀ (vs : List Nat) (ρ : Env), wipeE (ρ.set v none) vs = (wipeE ρ vs).set v none := by
      intro vs
      induction vs with
      | nil => intro ρ; rfl
      | cons u us ih =>
        intro ρ
        show (wipeE (ρ.set v none) us).set u none = ((wipeE ρ us).set u none).set v none
        rw [ih]
        by_cases huv : u = v
        · rw [huv]
        · rw [List.set_comm _ _ (Ne.symm huv)]
    rw [e] at q
    exact q
theorem wipe_get (σ : L2.St) : ∀ (vs : List Nat) (i : Nat), (wipe σ vs)[i]? = if i ∈ vs then (if i < σ.length then some none else none) else σ[i]?
  | [], i => by simp [wipe]
  | v :: vs, i => by
    show ((wipe σ vs).set v none)[i]? = _
    by_cases h : v = i
    · subst h
      rw [if_pos (List.mem_cons_self ..)]
      by_cases hl : v < σ.length
      · rw [if_pos hl, List.getElem?_set_self (by rw [wipe_length]; exact hl)]
      · rw [if_neg hl, List.getElem?_eq_none (by rw [List.length_set, wipe_length]; omega)]
    · rw [List.getElem?_set_ne h, wipe_get σ vs i]
      by_cases hm : i ∈ vs
      · rw [if_pos hm, if_pos (List.mem_cons_of_mem _ hm)]
      · rw [if_neg hm, if_neg (fun z => (List.mem_cons.mp z).elim (fun y => h y.symm) hm)]
theorem wipe_upto {σ σ' : L2.St} {sl vs : List Nat} (u : Upto sl (wipe σ vs) σ') (h : ∀ i ∈ sl, i ∈ vs) : wipe σ' vs = wipe σ vs := List.ext_getElem? fun i => by
  have hl : σ'.length = σ.length := by rw [u.1, wipe_length]
  rw [wipe_get, wipe_get, hl]
  by_cases hm : i ∈ vs
  · rw [if_pos hm, if_pos hm]
  · rw [if_neg hm, if_neg hm, u.2 i fun z => hm (h i z), wipe_get, if_neg hm]
end
/-- none of the slots is a changed parameter -/
def nfAt (κ : List Kind) : List Nat → Prop
  | [] => True
  | i :: vs => (match κ[i]? with | some (.fix _ _) => False | _ => True) ∧ nfAt κ vs
theorem nfAt_ne {κ : List Kind} : ∀ {vs : List Nat}, nfAt κ vs → ∀ i ∈ vs, ∀ (u : V) (k : Kind), κ[i]? ≠ some (Kind.fix u k)
  | [], _, i, hi, _, _, _ => by simp at hi
  | v :: vs, ⟨h, r⟩, i, hi, u, k, e => by
    rcases List.mem_cons.mp hi with z | z
    · subst z
      rw [e] at h
      exact h
    · exact nfAt_ne r i z u k e
theorem rel_wipe {K : PySem.W.Frag} {κ : List Kind} {ρ : Env} {σ : L2.St} {w : Wd} {vs : List Nat} (hv : nfAt κ vs) (rel : Rel K κ ρ σ w) : Rel K κ (wipeE ρ vs) (wipe σ vs) w :=
  ⟨rel.same, rel.frz, rel.live, fun i u k e => by
    rw [wipe_get, if_neg fun z => nfAt_ne hv i z u k e]
    exact rel.fixed i u k e, slots_wipes rel.slots vs⟩
theorem rel_unwipe {K : PySem.W.Frag} {κ : List Kind} {ρ : Env} {σ : L2.St} {w : Wd} {vs : List Nat} (hf : ∀ (i : Nat) (u : V) (k : Kind), κ[i]? = some (Kind.fix u k) → σ[i]? = some (some u)) (rel : Rel K κ ρ (wipe σ vs) w) : Rel K κ (wipeE ρ vs) σ w :=
  ⟨rel.same, rel.frz, rel.live, hf, slots_unwipes rel.slots⟩
/-- an owned list is frozen -/
theorem temp_freeze {K : PySem.W.Frag} {b : Bool} {κ : List Kind} {ρ : Env} {σ : L2.St} {w w1 : Wd} {d : D} {v : V} (rel : Rel K κ ρ σ w1) (e : Ext w w1) (t : Temp K (.lst (.v b)) w w1 d v) : ∃ w2, w2.H = w1.H ∧ Rel K κ ρ σ w2 ∧ Ext w w2 ∧ Temp K (.v b) w w2 d v := by
  obtain ⟨g, ⟨a, vs, ds, g', rfl, rfl, eH, ga, _, _, od⟩, cg⟩ := t
  obtain ⟨c1, c2, c3, c4⟩ := cg a ga
  have sF : Same w1.F (upd w1.F a (.lst vs)) := fun x o q => by rw [upd_ne (ne_of_none q c2)]; exact q
  have ne : ∀ x, w1.fp x → x ≠ a := fun x h z => c1 (by rw [← z]; exact h)
  refine ⟨⟨upd w1.F a (.lst vs), w1.H, w1.fp⟩, rfl, ⟨fun x o q => ?_, fun x h => ?_, rel.live, rel.fixed, rel.slots.frame sF fun _ _ _ h => h⟩, ⟨e.same.trans sF, fun x o q => ?_, e.keep, e.fp⟩, Temp.imm (.lst upd_same ((odl_rds od).mono sF))⟩
  · have q' : upd w1.F a (.lst vs) x = some o := q
    by_cases hx : x = a
    · rw [hx, upd_same] at q'
      cases q'
      show w1.H x = _
      rw [hx]
      exact eH
    · rw [upd_ne hx] at q'
      exact rel.same x o q'
  · show upd w1.F a (.lst vs) x = none
    rw [upd_ne (ne x h)]
    exact rel.frz x h
  · have q' : upd w1.F a (.lst vs) x = some o := q
    by_cases hx : x = a
    · rw [hx]
      exact .inr c4
    · rw [upd_ne hx] at q'
      exact e.new x o q'
theorem fin_temp {c : Ct} {b : Bool} {k : Kind} {κ : List Kind} {ρ : Env} {σ : L2.St} {w w1 : Wd} {d : D} {v : V} {Q : VK} (hk : newL b k) (h : PostV c κ σ (.t k) w Q (some (.ok d ρ))) (rel : Rel c.K κ ρ σ w1) (e : Ext w w1) (t : Temp c.K (.lst (.v b)) w w1 d v) : Q v w1.H := by
  cases k with
  | v c' =>
    cases hk
    obtain ⟨w2, eH, rel2, e2, t2⟩ := temp_freeze rel e t
    rw [← eH]
    exact h v w2 rel2 e2 t2
  | lst k =>
    cases k with
    | v c' =>
      cases hk
      exact h v w1 rel e t
    | lst _ => exact hk.elim
    | _ => exact hk.elim
  | _ => exact hk.elim
abbrev W0 : WX := fun _ _ _ _ => False
structure FTs (X : Cx) (κ : List Kind) (ifs : List Expr) (f : M Bool) : Prop where
  h : PTs X ifs (tT (ctx X W0) κ f)
theorem _root_.L2.PTs.imp {X : Cx} {e : List Expr} {t t' : TT} (h : PTs X e t) (i : ∀ σ H Q, t' σ H Q → t σ H Q) : PTs X e t' := ⟨fun pins s σ H Q I q => h.run pins s σ H Q I (i σ H Q q)⟩
def tYesF : M Bool := fun ρ => some (.ok true ρ)
section
variable {X : Cx} {W : WX} {C : FC} {b : Bool} {κ κ1 κn : List Kind} {pos p : Pos} {tg e a : Expr} {fa fb : M D} {m ma mb : Md}
theorem fts_nil : FTs X κ [] tYesF := ⟨pts_nil.imp fun σ H Q h => by
  obtain ⟨ρ, w, rfl, rel, post⟩ := h
  exact post w rel (Ext.refl _)⟩
theorem fts_one {t : M Bool} (h : FT X W0 κ a t) : FTs X κ [a] t := ⟨pts_one h⟩
def compL (vs : List Nat) (ft : D → Env → Option Env) (tt : M Bool) (fe : M D) : List D → List D → Env → Option (Out (List D))
  | [], acc, ρ => some (.ok acc (wipeE ρ vs))
  | d :: ds, acc, ρ => match ft d (wipeE ρ vs) with
    | some ρ1 => (match tt ρ1 with
      | some (.ok true ρ2) => (match fe ρ2 with
        | some (.ok y ρ3) => if acc.length < sizeLine then compL vs ft tt fe ds (acc ++ [y]) (wipeE ρ3 vs) else none
        | _ => none)
      | some (.ok false ρ2) => compL vs ft tt fe ds acc (wipeE ρ2 vs)
      | _ => none)
    | none => none
def fLc (vs : List Nat) (fi : M (List D)) (ft : D → Env → Option Env) (tt : M Bool) (fe : M D) : M D := fun ρ => bdo (fi ρ) fun ds ρ1 => bdo (compL vs ft tt fe ds [] ρ1) fun r ρ2 => some (.ok (.list r) ρ2)
theorem temp_app {K : PySem.W.Frag} {κ : List Kind} {ρ : Env} {σ : L2.St} {w1 w2 : Wd} {L : Addr} {acc : List V} {ds : List D} {y : V} {d : D} (rel : Rel K κ ρ σ w2) (e : Ext w1 w2) (nL : w1.H L = none) (t : Temp K (.lst (.v b)) w1 w2 (.list ds) (.ref L)) (ha : w2.H L = some (.lst acc)) (ry : RD b K w2.F y d) :
    ∃ w3, w3.H = upd w2.H L (.lst (acc ++ [y])) ∧ w3.F = w2.F ∧ Rel K κ ρ σ w3 ∧ Ext w1 w3 ∧ Temp K (.lst (.v b)) w1 w3 (.list (ds ++ [d])) (.ref L) := by
  obtain ⟨g, ⟨a, vs, ds', g', ea, ed, eH, ga, _, _, od⟩, cg⟩ := t
  cases ea
  cases ed
  rw [ha] at eH
  cases eH
  obtain ⟨c1, c2, c3, c4⟩ := cg L ga
  have ne : ∀ x, w2.fp x → x ≠ L := fun x h z => c1 (by rw [← z]; exact h)
  refine ⟨⟨w2.F, upd w2.H L (.lst (acc ++ [y])), w2.fp⟩, rfl, rfl, ⟨fun x o q => ?_, rel.frz, fun x h => ?_, rel.fixed, rel.slots.frame (Same.refl _) fun x o h q => ?_⟩, ⟨e.same, e.new, fun x o q n => ?_, e.fp⟩, ⟨fun x => x = L, ⟨L, _, _, fun _ => False, rfl, rfl, upd_same, rfl, fun z => z, fun _ z => z.elim, odl_imm ((odl_rds od).append (.cons ry .nil))⟩, fun x hx => ?_⟩⟩
  · show upd w2.H L _ x = some o
    rw [upd_ne (ne_of_none q c2)]
    exact rel.same x o q
  · show upd w2.H L _ x ≠ none
    rw [upd_ne (ne x h)]
    exact rel.live x h
  · show upd w2.H L _ x = some o
    rw [upd_ne (ne x h)]
    exact q
  · show upd w2.H L _ x = some o
    rw [upd_ne (ne_of_none q nL)]
    exact e.keep x o q n
  · have hx' : x = L := hx
    rw [hx']
    exact ⟨c1, c2, (by show upd w2.H L _ L ≠ none; rw [upd_same]; intro z; cases z), .inr nL⟩
theorem ev_lc {kd : Kind} {vs sl : List Nat} {fi : M (List D)} {ft : D → Env → Option Env} {tt : M Bool} {fe : M D} {σ : L2.St} {H : Hp} {Q : VK} (hd : newL b kd) (hv : nfAt κ vs) (hs : ∀ i ∈ sl, i ∈ vs)
    (h : tV (ctx X W) κ (.t kd) (fLc vs fi ft tt fe) σ H Q) : tLc (tI (ctx X W) b κ fi) (tG (ctx X W0) b sl κ κ ft) (tT (ctx X W0) κ tt) (tV (ctx X W0) κ (.t (.v b)) fe) vs σ H Q := by
  obtain ⟨ρ, w, rfl, rel, post⟩ := h
  refine seqI (P := PostV (ctx X W) κ σ (.t kd) w Q) rel post (fun z => z) (fun n d ρ' z => z) fun ds ρ1 w1 J rel1 e1 wk post1 => ?_
  intro L nL
  obtain ⟨w2, eH2, eF2, ef2, rel2, e2⟩ := world_own (o := .lst []) rel1 nL
  have t2 : Temp X.K (.lst (.v b)) w1 w2 (.list []) (.ref L) := ⟨fun x => x = L, ⟨L, [], [], fun _ => False, rfl, rfl, by rw [eH2, upd_same], rfl, fun z => z, fun _ z => z.elim, .nil⟩, fun x hx => by
    have hx' : x = L := hx
    rw [hx', ef2, eF2, eH2, upd_same]
    exact ⟨fun z => rel1.live L z nL, rel1.same.free nL, fun z => (nomatch z), .inr nL⟩⟩
  refine ⟨fun i m H => ∃ ρ wi acc, wi.H = H ∧ Rel X.K κ ρ (wipe σ vs) wi ∧ Ext w1 wi ∧ Temp X.K (.lst (.v b)) w1 wi (.list acc) (.ref L) ∧ m = ds.length - i ∧ PostV (ctx X W) κ σ (.t kd) w Q (bdo (compL vs ft tt fe (ds.drop i) acc ρ) fun r ρ2 => some (.ok (.list r) ρ2)), ⟨ds.length, wipeE ρ1 vs, w2, [], eH2, rel_wipe hv rel2, e2, t2, rfl, ?_⟩, ?_⟩
  · rw [List.drop_zero]
    have ww : ∀ (us : List Nat) (ρ : Env), wipeE (wipeE ρ us) us = wipeE ρ us := by
      intro us ρ
      have key : ∀ (us : List Nat) (v : Nat) (ρ : Env), wipeE (ρ.set v none) us = (wipeE ρ us).set v none := by
        intro us v
        induction us with
        | nil => intro ρ; rfl
        | cons u us ih =>
          intro ρ
          show (wipeE (ρ.set v none) us).set u none = ((wipeE ρ us).set u none).set v none
          rw [ih]
          by_cases huv : u = v
          · rw [huv]
          · rw [List.set_comm _ _ (Ne.symm huv)]
      induction us with
      | nil => rfl
      | cons u us ih =>
        show (wipeE ((wipeE ρ us).set u none) us).set u none = (wipeE ρ us).set u none
        rw [key, ih, List.set_set]
    have cw : ∀ ds acc, compL vs ft tt fe ds acc (wipeE ρ1 vs) = compL vs ft tt fe ds acc ρ1 := by
      intro ds acc
      cases ds with
      | nil => unfold compL; rw [ww]
      | cons d ds => unfold compL; rw [ww]
    rw [cw]
    exact post1
  rintro i m _ ⟨ρi, wi, acc, rfl, reli, ei, ti, rfl, posti⟩
  have wki := wk i wi.H (ei.same.trans reli.same)
  by_cases hi : i < ds.length
  · have ed : ds[i]? = some ds[i] := List.getElem?_eq_getElem hi
    rw [List.drop_eq_getElem_cons hi] at posti
    unfold compL at posti
    cases q : ft ds[i] (wipeE ρi vs) with
    | none =>
      rw [q] at posti
      exact posti.elim
    | some ρ3 =>
      rw [q] at posti
      dsimp only at posti
      refine .inr ⟨(wki.2 _ ed).1, fun H' => ∃ ρ wj acc, wj.H = H' ∧ Rel X.K κ ρ (wipe σ vs) wj ∧ Ext w1 wj ∧ Temp X.K (.lst (.v b)) w1 wj (.list acc) (.ref L) ∧ PostV (ctx X W) κ σ (.t kd) w Q (bdo (compL vs ft tt fe (ds.drop (i + 1)) acc ρ) fun r ρ2 => some (.ok (.list r) ρ2)), fun H' z => ?_, fun x H' y => ?_⟩
      · obtain ⟨ρ, wj, acc, z1, z2, z3, z4, z5⟩ := z
        exact ⟨ds.length - (i + 1), by omega, ρ, wj, acc, z1, z2, z3, z4, rfl, z5⟩
      · obtain ⟨w4, eH4, rel4, e4, r4⟩ := world_yield wk ei.same reli ed y
        subst eH4
        have relw : Rel X.K κ (wipeE ρi vs) (wipe σ vs) w4 := by
          have z := rel_wipe hv rel4
          have : wipe (wipe σ vs) vs = wipe σ vs := wipe_upto (sl := []) (Upto.refl _ _) (fun _ z => by simp at z)
          rw [this] at z
          exact z
        refine ⟨wipeE ρi vs, w4, ds[i], rfl, relw, r4, ?_⟩
        rw [q]
        intro σ5 w5 eH5 u5 rel5 e5
        have ew : wipe σ5 vs = wipe σ vs := wipe_upto u5 hs
        refine ⟨ew, ?_⟩
        have e15 := (ei.trans e4).trans e5
        have t5 := (ti.keep e4).keep e5
        refine ⟨ρ3, w5, rfl, rel5, ?_⟩
        cases qt : tt ρ3 with
        | none =>
          rw [qt] at posti
          exact posti.elim
        | some o =>
          rw [qt] at posti
          cases o with
          | err n d ρ' => exact posti.elim
          | ok bb ρ6 =>
            intro w6 rel6 e6
            have back : ∀ {ρ : Env} {w : Wd}, Rel X.K κ ρ σ5 w → Rel X.K κ (wipeE ρ vs) (wipe σ vs) w := fun r => by
              have z := rel_wipe hv r
              rw [ew] at z
              exact z
            cases bb with
            | false =>
              rw [if_neg Bool.false_ne_true]
              exact ⟨wipeE ρ6 vs, w6, acc, rfl, back rel6, e15.trans e6, t5.keep e6, posti⟩
            | true =>
              rw [if_pos rfl]
              dsimp only at posti
              refine ⟨ρ6, w6, rfl, rel6, ?_⟩
              cases qe : fe ρ6 with
              | none =>
                rw [qe] at posti
                exact posti.elim
              | some o =>
                rw [qe] at posti
                cases o with
                | err n d ρ' => exact posti.elim
                | ok yd ρ7 =>
                  dsimp only at posti
                  intro yv w7 rel7 e7 t7
                  split at posti
                  · rename_i hl
                    have t7L := (t5.keep e6).keep e7
                    obtain ⟨g, ⟨a, vs', ds', g', ea, ed', eHa, _, _, _, od⟩, _⟩ := id t7L
                    cases ea
                    cases ed'
                    refine ⟨vs', eHa, by rw [(odl_rds od).length]; exact hl, ?_⟩
                    obtain ⟨w8, eH8, _, rel8, e8, t8⟩ := temp_app (back rel7) ((e15.trans e6).trans e7) nL t7L eHa (Temp.rd t7)
                    exact ⟨wipeE ρ7 vs, w8, _, eH8, rel8, e8, t8, posti⟩
                  · exact posti.elim
  · rw [List.drop_eq_nil_of_le (by omega)] at posti
    exact .inl ⟨wki.1 (by omega), fin_temp hd posti (rel_unwipe rel1.fixed reli) (e1.trans ei) (ti.since e1)⟩
theorem fe_lc {kd : Kind} {elt iter : Expr} {ifs : List Expr} {scope : Scope} {own : List (Str × Nat)} {sl : List Nat} {fi : M (List D)} {ft : D → Env → Option Env} {tt : M Bool} {fe : M D} (hd : newL b kd) (hc : X.calm = true) (hN : X.N.Nodup) (hi : FI X W b κ tg iter fi) (ok : BlkOk X.N X.env.scope scope own) (hv : nfAt κ (own.map (·.2))) (hs : ∀ i ∈ sl, i ∈ own.map (·.2))
    (hg : ∀ (s : Shared) (H : Hp) (A : Addr) (cl : List (Str × Addr)) (fp : List Addr), FG (X.blk s H scope (compEnvC scope cl A X.env) fp) W0 b sl κ κ tg ft) (ht : ∀ (s : Shared) (H : Hp) (A : Addr) (cl : List (Str × Addr)) (fp : List Addr), FTs (X.blk s H scope (compEnvC scope cl A X.env) fp) κ ifs tt)
    (he : ∀ (s : Shared) (H : Hp) (A : Addr) (cl : List (Str × Addr)) (fp : List Addr), FV (X.blk s H scope (compEnvC scope cl A X.env) fp) W0 κ (.t (.v b)) elt fe) (hf : ∀ x, foldedSetIterable iter X.env x = pure x := by intro _; rfl) :
    FV X W κ (.t kd) (.ListComp elt [⟨tg, iter, ifs, 0⟩] scope pos) (fLc (own.map (·.2)) fi ft tt fe) :=
  (pe_lc (own := own) (g := tG (ctx X W0) b sl κ κ ft) (tt := tT (ctx X W0) κ tt) (te := tV (ctx X W0) κ (.t (.v b)) fe) hc hN hi ok hg (fun s H A cl fp => (ht s H A cl fp).h) he hf).imp fun σ H Q h => ev_lc hd hv hs h
end
end FN
set_option Elab.async false
set_option linter.all false
set_option maxRecDepth 100000
set_option maxHeartbeats 4000000
/-! FN8: lists that are changed, several targets, built-ins. -/
namespace FN
open PySem PySem.Spec PyProof.Rows L2
/-- the slot's list is owned -/
def ownK (b : Bool) : Option Kind → Prop
  | some (.lst (.v c)) => c = b
  | some (.fix _ (.lst (.v c))) => c = b
  | _ => False
theorem own_cases {b : Bool} {o : Option Kind} (h : ownK b o) : ∃ k, o = some k ∧ (k = .lst (.v b) ∨ ∃ u, k = .fix u (.lst (.v b))) := by
  unfold ownK at h
  split at h
  · exact ⟨_, rfl, .inl (by rw [h])⟩
  · exact ⟨_, rfl, .inr ⟨_, by rw [h]⟩⟩
  · exact h.elim
theorem own_list {K : PySem.W.Frag} {b : Bool} {κ : List Kind} {ρ : Env} {σ : L2.St} {w : Wd} {i : Nat} {ds : List D} (rel : Rel K κ ρ σ w) (hk : ownK b κ[i]?) (ed : ρ[i]? = some (some (.list ds))) :
    ∃ a xs, σ[i]? = some (some (.ref a)) ∧ w.H a = some (.lst xs) ∧ RDs b K w.F xs ds ∧ ∀ xs' ds', RDs b K w.F xs' ds' → ∃ w', w'.H = upd w.H a (.lst xs') ∧ w'.F = w.F ∧ Rel K κ (ρ.set i (some (.list ds'))) σ w' ∧ Ext w w' := by
  obtain ⟨k, ek, hk⟩ := own_cases hk
  obtain ⟨v, f, g, ev, o, s, y1, y2, y3⟩ := rel.slots.out ed ek
  have hi : i < σ.length := (List.getElem?_eq_some_iff.mp ev).1
  have o1 : OD K w.F w.H (.lst (.v b)) v (.list ds) f := by
    rcases hk with rfl | ⟨u, rfl⟩
    · exact o
    · exact o
  obtain ⟨a, xs, ds0, g', rfl, e2, eH, ga, _, _, od⟩ := o1
  cases e2
  refine ⟨a, xs, ev, eH, odl_rds od, fun xs' ds' r' => ?_⟩
  have nF : w.F a = none := rel.frz a (y2 a ga)
  have ne : ∀ x, g x → x ≠ a := fun x h z => y1 a ga (by rw [← z]; exact h)
  have s' : Slots K w.F (upd w.H a (.lst xs')) κ (ρ.set i none) σ g := s.frame (Same.refl _) fun x o h q => by rw [upd_ne (ne x h)]; exact q
  have o' : OD K w.F (upd w.H a (.lst xs')) k (.ref a) (.list ds') (fun x => x = a) := by
    have z : OD K w.F (upd w.H a (.lst xs')) (.lst (.v b)) (.ref a) (.list ds') (fun x => x = a) := ⟨a, xs', ds', fun _ => False, rfl, rfl, upd_same, rfl, fun z => z, fun _ z => z.elim, odl_imm r'⟩
    rcases hk with rfl | ⟨u, rfl⟩
    · exact z
    · exact z
  have p := s'.put hi o' (fun x hx hg => ne x hg hx)
  rw [List.set_set, set_same ek, set_same ev] at p
  refine ⟨⟨w.F, upd w.H a (.lst xs'), fun x => x = a ∨ g x⟩, rfl, rfl, ⟨fun x o q => ?_, fun x h => ?_, fun x h => ?_, rel.fixed, p⟩, ⟨Same.refl _, fun x o q => .inl q, fun x o q n => ?_, fun x h => .inl ?_⟩⟩
  · show upd w.H a _ x = some o
    rw [upd_ne (ne_of_none q nF)]
    exact rel.same x o q
  · rcases h with rfl | h
    · exact nF
    · exact rel.frz x (y3 x h)
  · show upd w.H a _ x ≠ none
    by_cases hx : x = a
    · rw [hx, upd_same]
      intro z
      cases z
    · rw [upd_ne hx]
      exact rel.live x (h.elim (fun z => absurd z hx) (y3 x))
  · show upd w.H a _ x = some o
    rw [upd_ne (fun z => n (by rw [z]; exact y2 a ga))]
    exact q
  · rcases h with rfl | h
    · exact y2 _ ga
    · exact y3 x h
theorem tyV_list {K : PySem.W.Frag} {H : Hp} {a : Addr} {xs : List V} (h : H a = some (.lst xs)) : tyV K "list" (.ref a) H := .inl ⟨rfl, xs, SqL.of h⟩
section
variable {X : Cx} {W : WX} {C : FC} {b : Bool} {κ κ1 κn : List Kind} {pos p apos cpos : Pos} {tg e a o : Expr} {fa fb : M D} {m ma mb : Md} {i : Nat}
/-- a method of the owned list in slot i, one argument: op gives the answer and the new list -/
def fMt (i : Nat) (op : List D → D → Option (D × List D)) (fa : M D) : M D := fun ρ => match ρ[i]? with
  | some (some (.list _)) => bdo (fa ρ) fun d ρ1 => match ρ1[i]? with
    | some (some (.list ds)) => (op ds d).map fun r => .ok r.1 (ρ1.set i (some (.list r.2)))
    | _ => none
  | _ => none
def fMt0 (i : Nat) (op : List D → Option (D × List D)) : M D := fun ρ => match ρ[i]? with
  | some (some (.list ds)) => (op ds).map fun r => .ok r.1 (ρ.set i (some (.list r.2)))
  | _ => none
theorem ev_mt {r : V → List V → Hp → VK → Prop} {op : List D → D → Option (D × List D)} {σ : L2.St} {H : Hp} {Q : VK} (hk : ownK b κ[i]?) (hl : ∀ ρ, fa ρ = fa ρ)
    (hr : ∀ (ρ : Env) (w w2 : Wd) (a : Addr) (xs : List V) (ds : List D) (d : D) (v : V) (r0 : D) (ds' : List D), Rel X.K κ ρ σ w2 → Ext w w2 → w2.H a = some (.lst xs) → RDs b X.K w2.F xs ds → RD b X.K w2.F v d → op ds d = some (r0, ds') →
      (∀ v' xs', RD b X.K w2.F v' r0 → RDs b X.K w2.F xs' ds' → Q v' (upd w2.H a (.lst xs'))) → r (.ref a) [v] w2.H Q)
    (h : tV (ctx X W) κ (.t (.v b)) (fMt i op fa) σ H Q) : tBM X.K "list" r (tV (ctx X W) κ (.r i) (fRef i)) (tCons (tV (ctx X W) κ (.t (.v b)) fa) tNil) σ H Q := by
  obtain ⟨ρ, w, rfl, rel, post⟩ := h
  unfold fMt at post
  split at post
  · rename_i ds0 ed0
    refine ⟨ρ, w, rfl, rel, ?_⟩
    unfold fRef
    rw [ed0]
    intro v0 w1 rel1 e1 t1
    obtain ⟨a, xs0, ev, eH0, _, _⟩ := own_list rel1 hk ed0
    rw [show σ[i]? = some (some v0) from t1] at ev
    cases ev
    refine ⟨tyV_list eH0, ?_⟩
    refine seqV (P := PostV (ctx X W) κ σ (.t (.v b)) w Q) rel1 post (fun z => z) (fun n d ρ' z => ErrOk.since z e1) fun d ρ2 v w2 rel2 e2 t2 post2 => ?_
    split at post2
    · rename_i ds ed
      obtain ⟨a', xs, ev, eH, rs, wr⟩ := own_list rel2 hk ed
      rw [show σ[i]? = some (some (V.ref a)) from t1] at ev
      cases ev
      cases q : op ds d with
      | none =>
        rw [q] at post2
        exact post2.elim
      | some r0 =>
        rw [q] at post2
        refine hr ρ2 w w2 a xs ds d v r0.1 r0.2 rel2 (e1.trans e2) eH rs (Temp.rd t2) (by rw [q]) fun v' xs' rv rxs => ?_
        obtain ⟨w3, eH3, eF3, rel3, e3⟩ := wr xs' r0.2 rxs
        rw [← eH3]
        exact post2 v' w3 rel3 ((e1.trans e2).trans e3) (Temp.imm (by rw [eF3]; exact rv))
    · exact post2.elim
  · exact post.elim
def oApp : List D → D → Option (D × List D) := fun ds d => if ds.length < sizeLine then some (.none, ds ++ [d]) else none
theorem fe_append {x : Str} {xp : Pos} (hk : ownK b κ[i]? := by rfl) (ho : FV X W κ (.r i) (.Name x xp) (fRef i)) (ha : FV X W κ (.t (.v b)) e fa)
    (hfew : ((backTo cpos (starEach (e :: []) X.env)).all (fun x => !x.1) && (backToKw cpos (keywordEach [] X.env)).all (fun x => x.1.isSome)
      && decide ((e :: []).length + ([] : List Keyword).length + (if ([] : List Keyword).isEmpty then 0 else 1) < 30)) = true := by rfl)
    (hline : (apos.endLine == cpos.line) = true := by rfl) (hs : starEach (e :: []) X.env = (false, eval e X.env) :: starEach [] X.env := by rfl) (hplain : (backTo cpos (starEach [] X.env)).any (·.1) = false := by rfl) :
    FV X W κ (.t (.v b)) (.Call (.Attribute (.Name x xp) "append" apos) [e] [] cpos) (fMt i oApp fa) :=
  (pe_bm PySem.F.plainAttrs_list PySem.F.slot_list_append PySem.F.type_list_append mt_append ho (pa_cons ha pa_nil hs) (by rfl) hfew hline hs hplain).imp fun σ H Q h => ev_mt hk (fun _ => rfl) (fun ρ w w2 a xs ds d v r0 ds' rel ext eH rs rv eo fin => by
    unfold oApp at eo
    split at eo
    · rename_i hl
      cases eo
      exact ⟨a, xs, v, rfl, rfl, eH, by rw [rs.length]; exact hl, fin _ _ .non (rs.append (.cons rv .nil))⟩
    · cases eo) h
def oPopAt : List D → D → Option (D × List D) := fun ds d => match d with
  | .int i => if okR i = true then (match ixN ds.length i with
    | some j => (match ds[j]? with
      | some y => some (y, ds.eraseIdx j)
      | none => none)
    | none => none) else none
  | _ => none
theorem fe_popAt {x : Str} {xp : Pos} (hk : ownK b κ[i]? := by rfl) (ho : FV X W κ (.r i) (.Name x xp) (fRef i)) (ha : FV X W κ (.t (.v b)) e fa)
    (hfew : ((backTo cpos (starEach (e :: []) X.env)).all (fun x => !x.1) && (backToKw cpos (keywordEach [] X.env)).all (fun x => x.1.isSome)
      && decide ((e :: []).length + ([] : List Keyword).length + (if ([] : List Keyword).isEmpty then 0 else 1) < 30)) = true := by rfl)
    (hline : (apos.endLine == cpos.line) = true := by rfl) (hs : starEach (e :: []) X.env = (false, eval e X.env) :: starEach [] X.env := by rfl) (hplain : (backTo cpos (starEach [] X.env)).any (·.1) = false := by rfl) :
    FV X W κ (.t (.v b)) (.Call (.Attribute (.Name x xp) "pop" apos) [e] [] cpos) (fMt i oPopAt fa) :=
  (pe_bm PySem.F.plainAttrs_list PySem.F.slot_list_pop PySem.F.type_list_pop mt_popAt ho (pa_cons ha pa_nil hs) (by rfl) hfew hline hs hplain).imp fun σ H Q h => ev_mt hk (fun _ => rfl) (fun ρ w w2 a xs ds d v r0 ds' rel ext eH rs rv eo fin => by
    unfold oPopAt at eo
    split at eo
    · rename_i i
      split at eo
      · rename_i hok
        obtain ⟨h1, h2⟩ : -(2 ^ 62) ≤ i ∧ i < 2 ^ 62 := of_decide_eq_true hok
        split at eo
        · rename_i j q
          split at eo
          · rename_i y q2
            cases eo
            obtain ⟨yv, ey, ry⟩ := rs.get q2
            obtain ⟨z1, z2, z3, z4⟩ := ixN_seq q
            exact ⟨a, xs, i, j, yv, rfl, by rw [dp_int rv.dp], eH, by omega, by omega, by rw [rs.length]; exact z1, ey, fin _ _ ry (rs.eraseIdx j)⟩
          · cases eo
        · cases eo
      · cases eo
    · cases eo) h
theorem ev_mt0 {r : V → List V → Hp → VK → Prop} {op : List D → Option (D × List D)} {σ : L2.St} {H : Hp} {Q : VK} (hk : ownK b κ[i]?)
    (hr : ∀ (ρ : Env) (w : Wd) (a : Addr) (xs : List V) (ds : List D) (r0 : D) (ds' : List D), Rel X.K κ ρ σ w → w.H a = some (.lst xs) → RDs b X.K w.F xs ds → op ds = some (r0, ds') →
      (∀ v' xs', RD b X.K w.F v' r0 → RDs b X.K w.F xs' ds' → Q v' (upd w.H a (.lst xs'))) → r (.ref a) [] w.H Q)
    (h : tV (ctx X W) κ (.t (.v b)) (fMt0 i op) σ H Q) : tBM0 X.K "list" r (tV (ctx X W) κ (.r i) (fRef i)) σ H Q := by
  obtain ⟨ρ, w, rfl, rel, post⟩ := h
  unfold fMt0 at post
  split at post
  · rename_i ds ed
    refine ⟨ρ, w, rfl, rel, ?_⟩
    unfold fRef
    rw [ed]
    intro v0 w1 rel1 e1 t1
    obtain ⟨a, xs, ev, eH, rs, wr⟩ := own_list rel1 hk ed
    rw [show σ[i]? = some (some v0) from t1] at ev
    cases ev
    refine ⟨tyV_list eH, ?_⟩
    cases q : op ds with
    | none =>
      rw [q] at post
      exact post.elim
    | some r0 =>
      rw [q] at post
      refine hr ρ w1 a xs ds r0.1 r0.2 rel1 eH rs (by rw [q]) fun v' xs' rv rxs => ?_
      obtain ⟨w3, eH3, eF3, rel3, e3⟩ := wr xs' r0.2 rxs
      rw [← eH3]
      exact post v' w3 rel3 (e1.trans e3) (Temp.imm (by rw [eF3]; exact rv))
  · exact post.elim
def oPop : List D → Option (D × List D) := fun ds => match ds[ds.length - 1]? with
  | some y => some (y, ds.dropLast)
  | none => none
theorem fe_pop {x : Str} {xp : Pos} (hk : ownK b κ[i]? := by rfl) (ho : FV X W κ (.r i) (.Name x xp) (fRef i)) (hline : (apos.endLine == cpos.line) = true := by rfl) :
    FV X W κ (.t (.v b)) (.Call (.Attribute (.Name x xp) "pop" apos) [] [] cpos) (fMt0 i oPop) :=
  (pe_bm0 PySem.F.plainAttrs_list PySem.F.slot_list_pop PySem.F.type_list_pop mt_pop ho (by rfl) hline).imp fun σ H Q h => ev_mt0 hk (fun ρ w a xs ds r0 ds' rel eH rs eo fin => by
    unfold oPop at eo
    split at eo
    · rename_i y q
      cases eo
      obtain ⟨yv, ey, ry⟩ := rs.get q
      exact ⟨a, xs, yv, rfl, rfl, eH, by rw [rs.length]; exact ey, fin _ _ ry rs.dropLast⟩
    · cases eo) h
/-- x.extend(ys), ys another list that stands by itself -/
def fExt (i : Nat) (fa : M D) : M D := fun ρ => match ρ[i]? with
  | some (some (.list _)) => bdo (fa ρ) fun d ρ1 => match ρ1[i]?, d with
    | some (some (.list ds)), .list es => if ds.length + es.length ≤ sizeLine then some (.ok .none (ρ1.set i (some (.list (ds ++ es))))) else none
    | _, _ => none
  | _ => none
theorem fe_extend {x : Str} {xp : Pos} (hk : ownK b κ[i]? := by rfl) (ho : FV X W κ (.r i) (.Name x xp) (fRef i)) (ha : FV X W κ (.t (.v b)) e fa)
    (hfew : ((backTo cpos (starEach (e :: []) X.env)).all (fun x => !x.1) && (backToKw cpos (keywordEach [] X.env)).all (fun x => x.1.isSome)
      && decide ((e :: []).length + ([] : List Keyword).length + (if ([] : List Keyword).isEmpty then 0 else 1) < 30)) = true := by rfl)
    (hline : (apos.endLine == cpos.line) = true := by rfl) (hs : starEach (e :: []) X.env = (false, eval e X.env) :: starEach [] X.env := by rfl) (hplain : (backTo cpos (starEach [] X.env)).any (·.1) = false := by rfl) :
    FV X W κ (.t (.v b)) (.Call (.Attribute (.Name x xp) "extend" apos) [e] [] cpos) (fMt i (fun ds d => match d with
      | .list es => if ds.length + es.length ≤ sizeLine then some (.none, ds ++ es) else none
      | _ => none) fa) :=
  (pe_bm PySem.F.plainAttrs_list PySem.F.slot_list_extend PySem.F.type_list_extend mt_extend ho (pa_cons ha pa_nil hs) (by rfl) hfew hline hs hplain).imp fun σ H Q h => ev_mt hk (fun _ => rfl) (fun ρ w w2 a xs ds d v r0 ds' rel ext eH rs rv eo fin => by
    split at eo
    · rename_i es
      split at eo
      · rename_i hl
        cases eo
        cases rv with
        | @lst a' xs' _ h1 t1 => exact ⟨a, a', xs, xs', rfl, rfl, eH, rel.same _ _ h1, by rw [rs.length, t1.length]; exact hl, fin _ _ .non (rs.append t1)⟩
      · cases eo
    · cases eo) h
/-! ### x[i] = e of an owned list -/
def sPut (i : Nat) (fi fa : M D) : Env → Option Fl := fun ρ => bnd (fa ρ) Fl.err fun d ρ1 => match ρ1[i]? with
  | some (some (.list _)) => bnd (fi ρ1) Fl.err fun k ρ2 => match ρ2[i]?, k with
    | some (some (.list ds)), .int k => (ixN ds.length k).map fun j => .nx (ρ2.set i (some (.list (ds.set j d))))
    | _, _ => none
  | _ => none
theorem fs_put {bi : Bool} {x : Str} {xp : Pos} {fi : M D} {ix : Expr} (hk : ownK b κ[i]? := by rfl) (ho : FV X W κ (.r i) (.Name x xp) (fRef i)) (hi : FV X W κ (.t (.v bi)) ix fi) (ha : FV X W κ (.t (.v b)) e fa) (he : EK C κ := by first | exact .inl rfl | exact .inr rfl)
    (hs : swapsWithSole [.Subscript (.Name x xp) ix p] e pos.line X.env = pure false := by rfl) (hw : swappedStores [.Subscript (.Name x xp) ix p] e X.env = pure none := by rfl) (h1 : (assignEach [.Subscript (.Name x xp) ix p] X.env).map (·.2) = [assign (.Subscript (.Name x xp) ix p) X.env] := by rfl)
    (h2 : ∀ v, assign (.Subscript (.Name x xp) ix p) X.env v = (do
      let ov ← holding [v] (eval (.Name x xp) X.env)
      let iv ← holding [v, ov] (eval ix X.env)
      standAt p
      holding [v, ov, iv] (setItem ov iv v)
      release [v, ov, iv] []) := by intro _; rfl) : FS X W C κ κ (.Assign [.Subscript (.Name x xp) ix p] e pos) (sPut i fi fa) := (ps_asg ha (pg_sub ho hi set_list h2) hs hw h1).imp fun D' σ H h => by
  obtain ⟨ρ, w, rfl, rel, post⟩ := h
  refine seqV (P := PostS (ctx X W) C κ D' w) rel post (fun z => z) (fun n d ρ' z => errS he z) fun d ρ1 v w1 rel1 e1 t1 post1 => ?_
  show gSub _ _ _ v σ w1.H D'.nx
  split at post1
  · rename_i ds0 ed0
    refine ⟨ρ1, w1, rfl, rel1, ?_⟩
    unfold fRef
    rw [ed0]
    intro v0 w2 rel2 e2 t2
    obtain ⟨a, xs0, ev0, _, _, _⟩ := own_list rel2 hk ed0
    rw [show σ[i]? = some (some v0) from t2] at ev0
    cases ev0
    refine seqV (P := PostS (ctx X W) C κ D' w) rel2 post1 (fun z => z) (fun n d ρ' z => ErrOk.since (errS he z) (e1.trans e2)) fun kd ρ3 kv w3 rel3 e3 t3 post3 => ?_
    split at post3
    · rename_i ds k ed
      obtain ⟨a', xs, ev, eH, rs, wr⟩ := own_list rel3 hk ed
      rw [show σ[i]? = some (some (V.ref a)) from t2] at ev
      cases ev
      cases q : ixN ds.length k with
      | none =>
        rw [q] at post3
        exact post3.elim
      | some j =>
        rw [q] at post3
        have rv : RD b X.K w3.F v d := ((Temp.rd t1).mono e2.same).mono e3.same
        obtain ⟨w4, eH4, _, rel4, e4⟩ := wr (xs.set j v) (ds.set j d) (rs.set rv j)
        refine ⟨a, xs, k, j, rfl, dp_int (Temp.rd t3).dp, eH, by rw [rs.length]; exact q, ?_⟩
        rw [← eH4]
        exact post3 σ w4 rel4 (((e1.trans e2).trans e3).trans e4)
    · exact post3.elim
  · exact post1.elim
/-! ### x += e, x -= e of ints and texts -/
def sAug (i : Nat) (op : D → D → Option D) (fa : M D) : Env → Option Fl := fun ρ => match ρ[i]? with
  | some (some x) => bnd (fa ρ) Fl.err fun y ρ1 => (op x y).map fun z => .nx (ρ1.set i (some z))
  | _ => none
def dAug : D → D → Option D
  | .int i, .int j => some (.int (i + j))
  | .str x, .str y => if x.length + y.length ≤ sizeLine then some (.str (x ++ y)) else none
  | _, _ => none
theorem fs_aug {op : Operator} {r : R2} {o : D → D → Option D} {x : Str} {pos' : Pos} (ho : OpR X (inplaceOp op) r) (hs : Sc X.K r o) (ha : FV X W κ (.t (.v b)) e fa) (hN : X.N.Nodup) (hk : κ[i]? = some (.v b) := by rfl) (hi : X.N[i]? = some x := by rfl) (hx : Loc X.env.scope x := by first | exact .inl rfl | exact .inr rfl) (he : EK C κ := by first | exact .inl rfl | exact .inr rfl)
    (hf : X.fn x = true ∨ X.env.scope.names.lookup x = some .local := by first | exact .inl rfl | exact .inr rfl) : FS X W C κ κ (.AugAssign (.Name x pos') op e pos) (sAug i o fa) := (ps_aug hN hi hx ha ho hf).imp fun D' σ H h => by
  obtain ⟨ρ, w, rfl, rel, post⟩ := h
  unfold sAug at post
  split at post
  · rename_i d0 ed
    obtain ⟨v0, f, ev, o0, _⟩ := rel.slots.get ed hk
    refine ⟨v0, ev, ?_⟩
    refine seqV (P := PostS (ctx X W) C κ D' w) rel post (fun z => z) (fun n d ρ' z => errS he z) fun d ρ1 v w1 rel1 e1 t1 post1 => ?_
    cases q : o d0 d with
    | none =>
      rw [q] at post1
      exact post1.elim
    | some z =>
      rw [q] at post1
      have r0 : RD b X.K w.F v0 d0 := o0
      refine hs _ _ _ _ _ _ _ (Dp_same rel1.same (r0.mono e1.same)) (Dp_same rel1.same (Temp.rd t1)) q fun v' rv => ?_
      have hil : i < σ.length := (List.getElem?_eq_some_iff.mp ev).1
      obtain ⟨w2, eH, _, rel2, ex⟩ := rel_set (κ := κ) (k := .v b) (i := i) (w := w) rel1 (Temp.imm (rv b w1.F)) hil (fun _ _ z => nomatch z)
      rw [set_same hk] at rel2
      show D'.nx (σ.set i (some v')) w1.H
      rw [← eH]
      exact post1 _ w2 rel2 (ex e1)
  · exact post.elim
theorem s_aug {K : PySem.W.Frag} : Sc K (fun x y H Q => rI0 (fun i j => .int (i + j)) x y H Q ∨ ∃ i j, x = .str i ∧ y = .str j ∧ i.length + j.length ≤ sizeLine ∧ Q (.str (i ++ j)) H) dAug := by
  intro x y dx dy z H Q hx hy ho q
  unfold dAug at ho
  split at ho
  · cases ho
    exact .inl ⟨_, _, dp_int hx, dp_int hy, q _ fun b F => .int _⟩
  · split at ho
    · rename_i hl
      cases ho
      exact .inr ⟨_, _, dp_str hx, dp_str hy, hl, q _ fun b F => .str _⟩
    · cases ho
  · cases ho
theorem s_isub {K : PySem.W.Frag} : Sc K (rI0 fun i j => .int (i - j)) dSub := s_sub
/-! ### a, b = x, y of plain locals -/
theorem fs_par {i j : Nat} {k1 k2 : Kind} {x y : Str} {ea eb : Expr} {fr : M (List D)} {px py pt : Pos} {kt k2' pt2} (hc : X.calm = true) (hN : X.N.Nodup) (ha : FA X W κ [.t k1, .t k2] [ea, eb] fr) (hij : i ≠ j := by decide) (hi : X.N[i]? = some x := by rfl) (hj : X.N[j]? = some y := by rfl)
    (hx : X.env.scope.names.lookup x = some .local := by rfl) (hy : X.env.scope.names.lookup y = some .local := by rfl) (hli : i < κ.length := by decide) (hlj : j < κ.length := by decide) (hn1 : nofix k1 := by trivial) (hn2 : nofix k2 := by trivial) (he : EK C κ := by first | exact .inl rfl | exact .inr rfl)
    (hw : swappedStores [.Tuple [.Name x px, .Name y py] kt pt] (.Tuple [ea, eb] k2' pt2) X.env = pure (some [x, y]) := by rfl)
    (hs : swapsWithSole [.Tuple [.Name x px, .Name y py] kt pt] (.Tuple [ea, eb] k2' pt2) pos.line X.env = pure false := by rfl) : FS X W C κ ((κ.set i k1).set j k2) (.Assign [.Tuple [.Name x px, .Name y py] kt pt] (.Tuple [ea, eb] k2' pt2) pos) (sPar i j fr) := (ps_par hc hN hi hj hij hx hy ha hw hs).imp fun D' σ H h => by
  obtain ⟨ρ, w, rfl, rel, post⟩ := h
  refine seqA (P := PostS (ctx X W) C ((κ.set i k1).set j k2) D' w) rel post (fun z => z) (fun n d ρ' z => errS (κn := (κ.set i k1).set j k2) he z) fun ds ρ1 vs w1 rel1 e1 a1 post1 => ?_
  obtain ⟨g, ar, cg⟩ := a1
  cases ar with
  | @t _ d1 v1 _ _ _ f1 g1 _ o1 ar dj h1 h2 =>
    cases ar with
    | @t _ d2 v2 _ _ _ f2 g2 _ o2 ar dj2 h3 h4 =>
      cases ar
      refine ⟨v1, v2, rfl, ?_⟩
      have hl := rel1.slots.lengths
      have p1 := (rel1.slots.drop i).put (i := i) (by rw [← hl.1]; exact hli) o1 (fun a z => (cg a (h1 a z)).1)
      rw [List.set_set] at p1
      have p2 := (p1.drop j).put (i := j) (by rw [List.length_set, ← hl.1]; exact hlj) o2 (fun a z y => y.elim (fun y => dj a y (h3 a z)) (cg a (h2 a (h3 a z))).1)
      rw [List.set_set] at p2
      have all : ∀ a, (f2 a ∨ f1 a ∨ w1.fp a) → w1.fp a ∨ g a := fun a z => by
        rcases z with z | z | z
        · exact .inr (h2 a (h3 a z))
        · exact .inr (h1 a z)
        · exact .inl z
      refine post1 _ ⟨w1.F, w1.H, fun a => f2 a ∨ f1 a ∨ w1.fp a⟩ ⟨rel1.same, fun a z => (all a z).elim (rel1.frz a) fun y => (cg a y).2.1, fun a z => (all a z).elim (rel1.live a) fun y => (cg a y).2.2.1, fun q u k z => ?_, p2⟩ ⟨e1.same, e1.new, e1.keep, fun a z => (all a z).elim (e1.fp a) fun y => (cg a y).2.2.2⟩
      by_cases hq2 : q = j
      · subst hq2
        rw [List.getElem?_set_self (by rw [List.length_set]; exact hlj)] at z
        cases z
        exact absurd rfl (nofix_ne hn2 _ _)
      · rw [List.getElem?_set_ne (Ne.symm hq2)] at z ⊢
        by_cases hq1 : q = i
        · subst hq1
          rw [List.getElem?_set_self hli] at z
          cases z
          exact absurd rfl (nofix_ne hn1 _ _)
        · rw [List.getElem?_set_ne (Ne.symm hq1)] at z ⊢
          exact rel1.fixed q u k z
theorem fs_parK {i j : Nat} {k1 k2 : Kind} {x y : Str} {ea eb : Expr} {fr : M (List D)} {px py pt : Pos} {kt k2' pt2} (hc : X.calm = true) (hN : X.N.Nodup) (ha : FA X W κ [.t k1, .t k2] [ea, eb] fr) (h1 : κ[i]? = some k1 := by rfl) (h2 : κ[j]? = some k2 := by rfl) (hij : i ≠ j := by decide) (hi : X.N[i]? = some x := by rfl) (hj : X.N[j]? = some y := by rfl)
    (hx : X.env.scope.names.lookup x = some .local := by rfl) (hy : X.env.scope.names.lookup y = some .local := by rfl) (hn1 : nofix k1 := by exact True.intro) (hn2 : nofix k2 := by exact True.intro) (he : EK C κ := by first | exact .inl rfl | exact .inr rfl)
    (hw : swappedStores [.Tuple [.Name x px, .Name y py] kt pt] (.Tuple [ea, eb] k2' pt2) X.env = pure (some [x, y]) := by rfl)
    (hs : swapsWithSole [.Tuple [.Name x px, .Name y py] kt pt] (.Tuple [ea, eb] k2' pt2) pos.line X.env = pure false := by rfl) : FS X W C κ κ (.Assign [.Tuple [.Name x px, .Name y py] kt pt] (.Tuple [ea, eb] k2' pt2) pos) (sPar i j fr) := by
  have z := fs_par (C := C) hc hN ha hij hi hj hx hy (List.getElem?_eq_some_iff.mp h1).1 (List.getElem?_eq_some_iff.mp h2).1 hn1 hn2 he hw hs
  rw [set_same h1, set_same h2] at z
  exact z
end
end FN
set_option Elab.async false
set_option linter.all false
set_option maxRecDepth 100000
set_option maxHeartbeats 4000000
/-! FN9: built-in functions. -/
namespace FN
open PySem PySem.Spec PyProof.Rows L2
/-! ### isinstance -/
def tyD : D → String
  | .none => "NoneType"
  | .bool _ => "bool"
  | .int _ => "int"
  | .str _ => "str"
  | .list _ => "list"
  | .tuple _ => "tuple"
  | .dict _ => "dict"
theorem tyX_of {K : PySem.W.Frag} {H : Hp} {v : V} {d : D} (h : Dp K H v d) : TyX K H v (.type (tyD d)) := by
  cases h with
  | non => exact .base .non
  | bl b => exact .base (.bl b)
  | int i => exact .base (.int i)
  | str x => exact .base (.str x)
  | lst h t =>
    rcases h with (h | ⟨o, h⟩) | ⟨o, _, _, hk, hc, _⟩
    · exact .base (.lst h)
    · exact .base (.frz h)
    · exact .kList hk hc
  | tup h t =>
    rcases h with (h | ⟨o, h⟩) | ⟨o, _, _, hk, hc, _⟩
    · exact .base (.tup h)
    · exact .fTuple h
    · exact .kTuple hk hc
def isInt : D → Bool
  | .int _ => true
  | .bool _ => true
  | _ => false
def isBool : D → Bool
  | .bool _ => true
  | _ => false
def isStr : D → Bool
  | .str _ => true
  | _ => false
def isList : D → Bool
  | .list _ => true
  | _ => false
def isTuple : D → Bool
  | .tuple _ => true
  | _ => false
def isDict : D → Bool
  | .dict _ => true
  | _ => false
/-- T's instances are those of p -/
def Isi (T : String) (p : D → Bool) : Prop := ∀ d, kitB (tyD d) T = some (p d)
theorem isi_int : Isi "int" isInt := fun d => by
  cases d with
  | none => exact (by decide +kernel : kitB "NoneType" "int" = some false)
  | bool _ => exact (by decide +kernel : kitB "bool" "int" = some true)
  | int _ => exact (by decide +kernel : kitB "int" "int" = some true)
  | str _ => exact (by decide +kernel : kitB "str" "int" = some false)
  | list _ => exact (by decide +kernel : kitB "list" "int" = some false)
  | tuple _ => exact (by decide +kernel : kitB "tuple" "int" = some false)
  | dict _ => exact (by decide +kernel : kitB "dict" "int" = some false)
theorem isi_bool : Isi "bool" isBool := fun d => by
  cases d with
  | none => exact (by decide +kernel : kitB "NoneType" "bool" = some false)
  | bool _ => exact (by decide +kernel : kitB "bool" "bool" = some true)
  | int _ => exact (by decide +kernel : kitB "int" "bool" = some false)
  | str _ => exact (by decide +kernel : kitB "str" "bool" = some false)
  | list _ => exact (by decide +kernel : kitB "list" "bool" = some false)
  | tuple _ => exact (by decide +kernel : kitB "tuple" "bool" = some false)
  | dict _ => exact (by decide +kernel : kitB "dict" "bool" = some false)
theorem isi_str : Isi "str" isStr := fun d => by
  cases d with
  | none => exact (by decide +kernel : kitB "NoneType" "str" = some false)
  | bool _ => exact (by decide +kernel : kitB "bool" "str" = some false)
  | int _ => exact (by decide +kernel : kitB "int" "str" = some false)
  | str _ => exact (by decide +kernel : kitB "str" "str" = some true)
  | list _ => exact (by decide +kernel : kitB "list" "str" = some false)
  | tuple _ => exact (by decide +kernel : kitB "tuple" "str" = some false)
  | dict _ => exact (by decide +kernel : kitB "dict" "str" = some false)
theorem isi_list : Isi "list" isList := fun d => by
  cases d with
  | none => exact (by decide +kernel : kitB "NoneType" "list" = some false)
  | bool _ => exact (by decide +kernel : kitB "bool" "list" = some false)
  | int _ => exact (by decide +kernel : kitB "int" "list" = some false)
  | str _ => exact (by decide +kernel : kitB "str" "list" = some false)
  | list _ => exact (by decide +kernel : kitB "list" "list" = some true)
  | tuple _ => exact (by decide +kernel : kitB "tuple" "list" = some false)
  | dict _ => exact (by decide +kernel : kitB "dict" "list" = some false)
theorem isi_tuple : Isi "tuple" isTuple := fun d => by
  cases d with
  | none => exact (by decide +kernel : kitB "NoneType" "tuple" = some false)
  | bool _ => exact (by decide +kernel : kitB "bool" "tuple" = some false)
  | int _ => exact (by decide +kernel : kitB "int" "tuple" = some false)
  | str _ => exact (by decide +kernel : kitB "str" "tuple" = some false)
  | list _ => exact (by decide +kernel : kitB "list" "tuple" = some false)
  | tuple _ => exact (by decide +kernel : kitB "tuple" "tuple" = some true)
  | dict _ => exact (by decide +kernel : kitB "dict" "tuple" = some false)
theorem isi_dict : Isi "dict" isDict := fun d => by
  cases d with
  | none => exact (by decide +kernel : kitB "NoneType" "dict" = some false)
  | bool _ => exact (by decide +kernel : kitB "bool" "dict" = some false)
  | int _ => exact (by decide +kernel : kitB "int" "dict" = some false)
  | str _ => exact (by decide +kernel : kitB "str" "dict" = some false)
  | list _ => exact (by decide +kernel : kitB "list" "dict" = some false)
  | tuple _ => exact (by decide +kernel : kitB "tuple" "dict" = some false)
  | dict _ => exact (by decide +kernel : kitB "dict" "dict" = some true)
section
variable {X : Cx} {W : WX} {C : FC} {b : Bool} {κ κ1 κn : List Kind} {pos p p2 : Pos} {tg e a : Expr} {fa fb : M D} {m ma mb : Md} {i : Nat}
def f1b (m : Md) (q : D → Bool) (fa : M D) : M D := f1 m (fun d => some (.bool (q d))) fa
/-- a built-in class, named -/
def Cls1 (X : Cx) (T : String) (e : Expr) : Prop := PE X e (tC (.ty T))
theorem cls1 {x : Str} {T : String} (hg : Gl X x) (hm : X.mg x = none) (hv : bootBuiltins x = some (.type T)) (hn : x ≠ "__name__" := by decide) (hd : (x == ("__debug__" : Str)) = false := by decide) : Cls1 X T (.Name x pos) := pe_bltn hg hm hv rfl hn hd
theorem fe_isi {T : String} {q : D → Bool} (hq : Isi T q) (hg : Gl X "isinstance") (hm : X.mg "isinstance" = none) (ha : FV X W κ m a fa) (hc : Cls1 X T e) (hs : starEach (a :: [e]) X.env = (false, eval a X.env) :: starEach [e] X.env := by rfl) (hs2 : starEach (e :: []) X.env = (false, eval e X.env) :: starEach [] X.env := by rfl) (hpl : (backTo pos (starEach [e] X.env)).any (·.1) = false := by rfl) :
    FV X W κ (.t (.v b)) (.Call (.Name "isinstance" p) [a, e] [] pos) (f1b m q fa) :=
  (pe_callB call_isi hg hm boot_isinstance (pa_cons ha (pa_cons hc pa_nil hs2) hs) (by decide) (by decide) hs hpl).imp fun σ H Q h =>
    ev_1 (r := fun x H Q => rIsi X.K [x, .ty T] H Q) (fun ρ w w1 x dx vx z rel ext t ex ez post => by
      cases ez
      exact ⟨vx, .ty T, _, _, q x, rfl, .ty T, tyX_of (rd_dp rel t ex), kit_ty (hq x), fin_imm post rel ext (.bl _)⟩) h
/-- isinstance(x, (T1, T2)) -/
theorem fe_isi2 {T1 T2 : String} {q1 q2 : D → Bool} {e1 e2 : Expr} {x1 : _} {pt : Pos} (hq1 : Isi T1 q1) (hq2 : Isi T2 q2) (hg : Gl X "isinstance") (hm : X.mg "isinstance" = none) (ha : FV X W κ m a fa) (hc1 : Cls1 X T1 e1) (hc2 : Cls1 X T2 e2) (hs : starEach (a :: [.Tuple [e1, e2] x1 pt]) X.env = (false, eval a X.env) :: starEach [.Tuple [e1, e2] x1 pt] X.env := by rfl)
    (hs2 : starEach (.Tuple [e1, e2] x1 pt :: []) X.env = (false, eval (.Tuple [e1, e2] x1 pt) X.env) :: starEach [] X.env := by rfl) (hs3 : starEach (e1 :: [e2]) X.env = (false, eval e1 X.env) :: starEach [e2] X.env := by rfl) (hs4 : starEach (e2 :: []) X.env = (false, eval e2 X.env) :: starEach [] X.env := by rfl) (hpl : (backTo pos (starEach [.Tuple [e1, e2] x1 pt] X.env)).any (·.1) = false := by rfl) :
    FV X W κ (.t (.v b)) (.Call (.Name "isinstance" p) [a, .Tuple [e1, e2] x1 pt] [] pos) (f1b m (fun d => q1 d || q2 d) fa) :=
  (pe_callB call_isiT hg hm boot_isinstance (pa_cons ha (pa_cons (pe_tup (pa_cons hc1 (pa_cons hc2 pa_nil hs4) hs3)) pa_nil hs2) hs) (by decide) (by decide) hs hpl).imp fun σ H Q h =>
    ev_1 (r := fun x H Q => [V.ty T1, V.ty T2].length ≤ sizeLine ∧ ∀ p, H p = none → rIsiT X.K [x, .ref p] (upd H p (.tup [.ty T1, .ty T2])) Q) (fun ρ w w1 x dx vx z rel ext t ex ez post => by
      cases ez
      refine ⟨by show 2 ≤ sizeLine; decide, fun tp np => ?_⟩
      obtain ⟨w2, eH, eF, ef, rel2, e2⟩ := world_own (o := .tup [.ty T1, .ty T2]) rel np
      have dp : Dp X.K w2.H vx x := by
        have t2 := t.keep e2
        exact rd_dp rel2 t2 ex
      rw [← eH]
      refine ⟨vx, tp, [.ty T1, .ty T2], _, [.type T1, .type T2], q1 x || q2 x, rfl, by rw [eH, upd_same], .cons (.ty T1) (.cons (.ty T2) .nil), tyX_of dp, ?_, fin_imm post rel2 (ext.trans e2) (.bl _)⟩
      refine kitAny_cons (kit_ty (hq1 x)) (fun h1 => ?_) (fun h1 => by rw [h1]; rfl)
      rw [h1, Bool.false_or]
      exact kitAny_cons (kit_ty (hq2 x)) (fun h2 => by rw [h2]; exact kitAny_nil) fun h2 => h2) h
/-! ### int, abs, max, min -/
def dInt : D → Option D
  | .int i => some (.int i)
  | .bool k => some (.int (if k then 1 else 0))
  | .str x => match PySem.intText? x with
    | some n => if x.length ≤ 640 then some (.int n) else none
    | none => none
  | _ => none
theorem fe_int1 (hg : Gl X "int") (hm : X.mg "int" = none) (ha : FV X W κ m a fa) (hs : starEach (a :: []) X.env = (false, eval a X.env) :: starEach [] X.env := by rfl) : FV X W κ (.t (.v b)) (.Call (.Name "int" p) [a] [] pos) (f1 m dInt fa) :=
  (pe_callTy (call_int1.or call_int_str) hg hm PyProof.Rows.boot_int (pa_cons ha pa_nil hs) (by decide) (by decide) hs).imp fun σ H Q h => ev_c1 (fun ρ w w1 x dx vx z rel ext t ex ez post => by
    unfold dInt at ez
    split at ez
    · cases ez
      exact .inl (.inl ⟨_, by rw [dp_int (rd_dp rel t ex)], fin_imm post rel ext (.int _)⟩)
    · cases ez
      exact .inl (.inr ⟨_, by rw [dp_bl (rd_dp rel t ex)], fin_imm post rel ext (.int _)⟩)
    · split at ez
      · rename_i n hn
        split at ez
        · rename_i hl
          cases ez
          exact .inr ⟨_, n, by rw [dp_str (rd_dp rel t ex)], hn, hl, fin_imm post rel ext (.int _)⟩
        · cases ez
      · cases ez
    · cases ez) h
def dAbs : D → Option D
  | .int i => some (.int (if i < 0 then -i else i))
  | _ => none
theorem fe_abs (hg : Gl X "abs") (hm : X.mg "abs" = none) (ha : FV X W κ m a fa) (hs : starEach (a :: []) X.env = (false, eval a X.env) :: starEach [] X.env := by rfl) : FV X W κ (.t (.v b)) (.Call (.Name "abs" p) [a] [] pos) (f1 m dAbs fa) :=
  (pe_callB call_abs hg hm boot_abs (pa_cons ha pa_nil hs) (by decide) (by decide) hs).imp fun σ H Q h => ev_c1 (fun ρ w w1 x dx vx z rel ext t ex ez post => by
    unfold dAbs at ez
    split at ez
    · cases ez
      exact ⟨_, by rw [dp_int (rd_dp rel t ex)], fin_imm post rel ext (.int _)⟩
    · cases ez) h
def dMax2 : D → D → Option D := oI (fun _ _ => true) fun i j => .int (if j > i then j else i)
def dMin2 : D → D → Option D := oI (fun _ _ => true) fun i j => .int (if j < i then j else i)
theorem fe_max2 (hc : X.calm = true) (hg : Gl X "max") (hm : X.mg "max" = none) (ha : FV X W κ ma a fa) (hb : FV X W κ mb e fb) (hs : starEach (a :: [e]) X.env = (false, eval a X.env) :: starEach [e] X.env := by rfl) (hs2 : starEach (e :: []) X.env = (false, eval e X.env) :: starEach [] X.env := by rfl) (hpl : (backTo pos (starEach [e] X.env)).any (·.1) = false := by rfl) : FV X W κ (.t (.v b)) (.Call (.Name "max" p) [a, e] [] pos) (f2 ma mb dMax2 fa fb) :=
  (pe_callB (call_max2 hc) hg hm boot_max (pa_cons ha (pa_cons hb pa_nil hs2) hs) (by decide) (by decide) hs hpl).imp fun σ H Q h => ev_c2 (fun ρ w w2 x y dx dy vx vy z rel ext t1 t2 ex ey ez post => by
    unfold dMax2 oI at ez
    split at ez
    · cases ez
      exact ⟨_, _, by rw [dp_int (rd_dp rel t1 ex), dp_int (rd_dp rel t2 ey)], fin_imm post rel ext (.int _)⟩
    · cases ez) h
theorem fe_min2 (hc : X.calm = true) (hg : Gl X "min") (hm : X.mg "min" = none) (ha : FV X W κ ma a fa) (hb : FV X W κ mb e fb) (hs : starEach (a :: [e]) X.env = (false, eval a X.env) :: starEach [e] X.env := by rfl) (hs2 : starEach (e :: []) X.env = (false, eval e X.env) :: starEach [] X.env := by rfl) (hpl : (backTo pos (starEach [e] X.env)).any (·.1) = false := by rfl) : FV X W κ (.t (.v b)) (.Call (.Name "min" p) [a, e] [] pos) (f2 ma mb dMin2 fa fb) :=
  (pe_callB (call_min2 hc) hg hm boot_min (pa_cons ha (pa_cons hb pa_nil hs2) hs) (by decide) (by decide) hs hpl).imp fun σ H Q h => ev_c2 (fun ρ w w2 x y dx dy vx vy z rel ext t1 t2 ex ey ez post => by
    unfold dMin2 oI at ez
    split at ez
    · cases ez
      exact ⟨_, _, by rw [dp_int (rd_dp rel t1 ex), dp_int (rd_dp rel t2 ey)], fin_imm post rel ext (.int _)⟩
    · cases ez) h
/-! ### over a list: sum, all, any, sorted; list(x), tuple(x) -/
def ints? : List D → Option (List Int)
  | [] => some []
  | .int i :: ds => (ints? ds).map (i :: ·)
  | _ => none
def bools? : List D → Option (List Bool)
  | [] => some []
  | .bool i :: ds => (bools? ds).map (i :: ·)
  | _ => none
theorem ints_vals {K : PySem.W.Frag} {H : Hp} : ∀ {xs : List V} {ds : List D} {ns : List Int}, DpAll K H xs ds → ints? ds = some ns → xs = ns.map V.int ∧ ds = ns.map PyData.int
  | _, _, _, .nil, e => by
    cases e
    exact ⟨rfl, rfl⟩
  | _, _, _, .cons h t, e => by
    cases h with
    | int i =>
      unfold ints? at e
      cases q : ints? _ with
      | none =>
        rw [q] at e
        cases e
      | some ns =>
        rw [q] at e
        cases e
        obtain ⟨e1, e2⟩ := ints_vals t q
        exact ⟨by rw [List.map_cons, ← e1], by rw [List.map_cons, ← e2]⟩
    | non => cases e
    | bl => cases e
    | str => cases e
    | lst => cases e
    | tup => cases e
theorem bools_vals {K : PySem.W.Frag} {H : Hp} : ∀ {xs : List V} {ds : List D} {ns : List Bool}, DpAll K H xs ds → bools? ds = some ns → xs = ns.map V.bl
  | _, _, _, .nil, e => by
    cases e
    rfl
  | _, _, _, .cons h t, e => by
    cases h with
    | bl i =>
      unfold bools? at e
      cases q : bools? _ with
      | none =>
        rw [q] at e
        cases e
      | some ns =>
        rw [q] at e
        cases e
        have e1 := bools_vals t q
        rw [List.map_cons, ← e1]
    | non => cases e
    | int => cases e
    | str => cases e
    | lst => cases e
    | tup => cases e
theorem dp_list {K : PySem.W.Frag} {H : Hp} {v : V} {ds : List D} (h : Dp K H v (.list ds)) : ∃ a xs, v = .ref a ∧ SqL K H a xs ∧ DpAll K H xs ds := by
  cases h with
  | lst h t => exact ⟨_, _, rfl, h, t⟩
def dSum : D → Option D
  | .list ds => (ints? ds).map fun ns => .int ns.sum
  | _ => none
def dAll : D → Option D
  | .list ds => (bools? ds).map fun bs => .bool (bs.all id)
  | _ => none
def dAny : D → Option D
  | .list ds => (bools? ds).map fun bs => .bool (bs.any id)
  | _ => none
theorem fe_sum (hc : X.calm = true) (hg : Gl X "sum") (hm : X.mg "sum" = none) (ha : FV X W κ m a fa) (hs : starEach (a :: []) X.env = (false, eval a X.env) :: starEach [] X.env := by rfl) : FV X W κ (.t (.v b)) (.Call (.Name "sum" p) [a] [] pos) (f1 m dSum fa) :=
  (pe_callB (cr_sum hc) hg hm boot_sum (pa_cons ha pa_nil hs) (by decide) (by decide) hs).imp fun σ H Q h => ev_c1 (fun ρ w w1 x dx vx z rel ext t ex ez post => by
    unfold dSum at ez
    split at ez
    · cases q : ints? _ with
      | none =>
        rw [q] at ez
        cases ez
      | some ns =>
        rw [q] at ez
        cases ez
        obtain ⟨a, xs, rfl, hl, al⟩ := dp_list (rd_dp rel t ex)
        obtain ⟨rfl, _⟩ := ints_vals al q
        exact ⟨a, ns, rfl, hl, fin_imm post rel ext (.int _)⟩
    · cases ez) h
theorem fe_all (hc : X.calm = true) (hg : Gl X "all") (hm : X.mg "all" = none) (ha : FV X W κ m a fa) (hs : starEach (a :: []) X.env = (false, eval a X.env) :: starEach [] X.env := by rfl) : FV X W κ (.t (.v b)) (.Call (.Name "all" p) [a] [] pos) (f1 m dAll fa) :=
  (pe_callB (cr_all hc) hg hm boot_all (pa_cons ha pa_nil hs) (by decide) (by decide) hs).imp fun σ H Q h => ev_c1 (fun ρ w w1 x dx vx z rel ext t ex ez post => by
    unfold dAll at ez
    split at ez
    · cases q : bools? _ with
      | none =>
        rw [q] at ez
        cases ez
      | some ns =>
        rw [q] at ez
        cases ez
        obtain ⟨a, xs, rfl, hl, al⟩ := dp_list (rd_dp rel t ex)
        have := bools_vals al q
        subst this
        exact ⟨a, ns, rfl, hl, fin_imm post rel ext (.bl _)⟩
    · cases ez) h
theorem fe_any (hc : X.calm = true) (hg : Gl X "any") (hm : X.mg "any" = none) (ha : FV X W κ m a fa) (hs : starEach (a :: []) X.env = (false, eval a X.env) :: starEach [] X.env := by rfl) : FV X W κ (.t (.v b)) (.Call (.Name "any" p) [a] [] pos) (f1 m dAny fa) :=
  (pe_callB (cr_any hc) hg hm boot_any (pa_cons ha pa_nil hs) (by decide) (by decide) hs).imp fun σ H Q h => ev_c1 (fun ρ w w1 x dx vx z rel ext t ex ez post => by
    unfold dAny at ez
    split at ez
    · cases q : bools? _ with
      | none =>
        rw [q] at ez
        cases ez
      | some ns =>
        rw [q] at ez
        cases ez
        obtain ⟨a, xs, rfl, hl, al⟩ := dp_list (rd_dp rel t ex)
        have := bools_vals al q
        subst this
        exact ⟨a, ns, rfl, hl, fin_imm post rel ext (.bl _)⟩
    · cases ez) h
/-- list(x): a new list -/
def dList : D → Option D
  | .list ds => some (.list ds)
  | .tuple ds => some (.list ds)
  | _ => none
def dTuple : D → Option D
  | .list ds => some (.tuple ds)
  | .tuple ds => some (.tuple ds)
  | _ => none
theorem fe_list {kd : Kind} (hd : newL b kd) (hg : Gl X "list") (hm : X.mg "list" = none) (ha : FV X W κ m a fa) (h1 : itB b κ m := by rfl) (hs : starEach (a :: []) X.env = (false, eval a X.env) :: starEach [] X.env := by rfl) : FV X W κ (.t kd) (.Call (.Name "list" p) [a] [] pos) (f1 m dList fa) :=
  (pe_callTy call_list_of hg hm PyProof.Rows.boot_list (pa_cons ha pa_nil hs) (by decide) (by decide) hs).imp fun σ H Q h => ev_c1 (fun ρ w w1 x dx vx z rel ext t ex ez post => by
    unfold dList at ez
    split at ez
    · cases ez
      obtain ⟨q, us, eq, sq, rs⟩ := opd_list h1 rel t ex
      exact ⟨q, us, by rw [eq], .inl (SqL.of sq), fun l nl => fin_lst hd post rel ext rs nl⟩
    · cases ez
      obtain ⟨q, us, eq, sq, _, rs⟩ := opd_tup h1 rel t ex
      exact ⟨q, us, by rw [eq], .inr sq, fun l nl => fin_lst hd post rel ext rs nl⟩
    · cases ez) h
theorem fe_tuple (hg : Gl X "tuple") (hm : X.mg "tuple" = none) (ha : FV X W κ m a fa) (h1 : itB b κ m := by rfl) (hs : starEach (a :: []) X.env = (false, eval a X.env) :: starEach [] X.env := by rfl) : FV X W κ (.t (.v b)) (.Call (.Name "tuple" p) [a] [] pos) (f1 m dTuple fa) :=
  (pe_callTy call_tuple_of hg hm PyProof.Rows.boot_tuple (pa_cons ha pa_nil hs) (by decide) (by decide) hs).imp fun σ H Q h => ev_c1 (fun ρ w w1 x dx vx z rel ext t ex ez post => by
    unfold dTuple at ez
    split at ez
    · cases ez
      obtain ⟨q, us, eq, sq, rs⟩ := opd_list h1 rel t ex
      exact ⟨q, us, by rw [eq], .inl ⟨SqL.of sq, fun l nl => fin_tup post rel ext rs nl⟩⟩
    · cases ez
      obtain ⟨q, us, eq, sq, r1, rs⟩ := opd_tup h1 rel t ex
      refine ⟨q, us, by rw [eq], .inr ⟨sq, ?_⟩⟩
      rw [← eq]
      exact fin_imm post rel ext r1
    · cases ez) h
/-! ### list(range(..)), tuple(range(..)) -/
def PostRg (c : Ct) (κ : List Kind) (σ : L2.St) (w : Wd) (Q : Int → Int → Hp → Prop) : Option (Out (List D)) → Prop
  | some (.ok ds ρ') => ∀ i j w', ds = rgD i j → RgOk i j → Rel c.K κ ρ' σ w' → Ext w w' → Q i j w'.H
  | some (.err n d ρ') => ErrOk c κ σ w n d ρ'
  | none => False
def tRgF (c : Ct) (κ : List Kind) (f : M (List D)) : L2.St → Hp → (Int → Int → Hp → Prop) → Prop := fun σ H Q => ∃ ρ w, w.H = H ∧ Rel c.K κ ρ σ w ∧ PostRg c κ σ w Q (f ρ)
def FRg (X : Cx) (W : WX) (κ : List Kind) (e : Expr) (f : M (List D)) : Prop := PRg X e (tRgF (ctx X W) κ f)
theorem PRg.imp' {e : Expr} {t t' : L2.St → Hp → (Int → Int → Hp → Prop) → Prop} (h : PRg X e t) (i : ∀ σ H Q, t' σ H Q → t σ H Q) : PRg X e t' := fun pins s σ H Q I q => h pins s σ H Q I (i σ H Q q)
def okRg (i j : Int) : Bool := decide (-(2 ^ 62) ≤ i ∧ i < 2 ^ 62 ∧ -(2 ^ 62) ≤ j ∧ j < 2 ^ 62 ∧ (j - i).toNat ≤ 2 ^ 24)
def rRg1 (m : Md) (fa : M D) : M (List D) := fun ρ => bdo (fa ρ) fun x ρ1 => match rd m x ρ1 with
  | some (.int j) => if okRg 0 j = true then some (.ok (rgD 0 j) ρ1) else none
  | _ => none
def rRg2 (ma mb : Md) (fa fb : M D) : M (List D) := fun ρ => bdo (fa ρ) fun x ρ1 => bdo (fb ρ1) fun y ρ2 => match rd ma x ρ2, rd mb y ρ2 with
  | some (.int i), some (.int j) => if okRg i j = true then some (.ok (rgD i j) ρ2) else none
  | _, _ => none
theorem frg_1 (hg : Gl X "range") (hm : X.mg "range" = none) (ha : FV X W κ m a fa) (hs : starEach [a] X.env = (false, eval a X.env) :: starEach [] X.env := by rfl) : FRg X W κ (.Call (.Name "range" p) [a] [] pos) (rRg1 m fa) := PRg.imp' (prg_1 hg hm ha hs) fun σ H Q h => by
  obtain ⟨ρ, w, rfl, rel, post⟩ := h
  refine seqV (P := PostRg (ctx X W) κ σ w Q) rel post (fun z => z) (fun n d ρ' z => z) fun d ρ1 v w1 rel1 e1 t1 post1 => ?_
  cases q : rd m d ρ1 with
  | none =>
    rw [q] at post1
    exact post1.elim
  | some x =>
    rw [q] at post1
    cases x with
    | int j =>
      dsimp only at post1
      by_cases hok : okRg 0 j = true
      · rw [if_pos hok] at post1
        exact ⟨j, dp_int (rd_dp rel1 t1 q), post1 0 j w1 rfl (of_decide_eq_true hok : -(2 ^ 62) ≤ (0 : Int) ∧ (0 : Int) < 2 ^ 62 ∧ -(2 ^ 62) ≤ j ∧ j < 2 ^ 62 ∧ (j - 0).toNat ≤ 2 ^ 24) rel1 e1⟩
      · rw [if_neg hok] at post1
        exact post1.elim
    | none => exact post1.elim
    | bool _ => exact post1.elim
    | str _ => exact post1.elim
    | list _ => exact post1.elim
    | tuple _ => exact post1.elim
    | dict _ => exact post1.elim
theorem rgV_rds {K : PySem.W.Frag} {F : Hp} (i j : Int) : RDs b K F (rgV i j) (rgD i j) := by
  unfold rgV rgD
  generalize List.range (j - i).toNat = l
  induction l with
  | nil => exact .nil
  | cons k l ih => exact .cons (.int _) ih
def fLrg (fr : M (List D)) : M D := fun ρ => bdo (fr ρ) fun ds ρ1 => some (.ok (.list ds) ρ1)
def fTrg (fr : M (List D)) : M D := fun ρ => bdo (fr ρ) fun ds ρ1 => some (.ok (.tuple ds) ρ1)
theorem fe_listRg {kd : Kind} {fr : M (List D)} (hd : newL b kd) (hc : X.calm = true) (hg : Gl X "list") (hm : X.mg "list" = none) (he : FRg X W κ e fr) (hs : starEach [e] X.env = (false, eval e X.env) :: starEach [] X.env := by rfl) : FV X W κ (.t kd) (.Call (.Name "list" p) [e] [] pos) (fLrg fr) := (pe_listRg hc hg hm he hs).imp fun σ H Q h => by
  obtain ⟨ρ, w, rfl, rel, post⟩ := h
  refine ⟨ρ, w, rfl, rel, ?_⟩
  unfold fLrg bdo bnd at post
  cases q : fr ρ with
  | none =>
    rw [q] at post
    exact post
  | some o =>
    rw [q] at post
    cases o with
    | err n d ρ' => exact post
    | ok ds ρ' =>
      intro i j w' eds hok rel' e'
      subst eds
      exact ⟨hok, fun q nq => fin_lst hd post rel' e' (rgV_rds i j) nq⟩
theorem fe_tupRg {fr : M (List D)} (hc : X.calm = true) (hg : Gl X "tuple") (hm : X.mg "tuple" = none) (he : FRg X W κ e fr) (hs : starEach [e] X.env = (false, eval e X.env) :: starEach [] X.env := by rfl) : FV X W κ (.t (.v b)) (.Call (.Name "tuple" p) [e] [] pos) (fTrg fr) := (pe_tupRg hc hg hm he hs).imp fun σ H Q h => by
  obtain ⟨ρ, w, rfl, rel, post⟩ := h
  refine ⟨ρ, w, rfl, rel, ?_⟩
  unfold fTrg bdo bnd at post
  cases q : fr ρ with
  | none =>
    rw [q] at post
    exact post
  | some o =>
    rw [q] at post
    cases o with
    | err n d ρ' => exact post
    | ok ds ρ' =>
      intro i j w' eds hok rel' e'
      subst eds
      exact ⟨hok, fun q nq => fin_tup post rel' e' (rgV_rds i j) nq⟩
end
end FN
set_option Elab.async false
set_option linter.all false
set_option maxRecDepth 100000
set_option maxHeartbeats 4000000
/-! FN10: more operators. -/
namespace FN
open PySem PySem.Spec PyProof.Rows L2
section
variable {X : Cx} {W : WX} {κ : List Kind} {pos : Pos} {a b : Expr} {fa fb : M D} {ma mb : Md}
/-! ### a * b -/
def dMul : D → D → Option D
  | .int i, .int j => if i.natAbs.log2 + j.natAbs.log2 < 1000000 then some (.int (i * j)) else none
  | .list ds, .int k => if 0 ≤ k ∧ k < 2 ^ 63 ∧ ds.length * k.toNat ≤ sizeLine then some (.list (List.replicate k.toNat ds).flatten) else none
  | .tuple ds, .int k => if ds ≠ [] ∧ 2 ≤ k ∧ k ≤ 1000 ∧ ds.length ≤ 1000 then some (.tuple (List.replicate k.toNat ds).flatten) else none
  | _, _ => none
theorem rds_rep {K : PySem.W.Frag} {k : Bool} {F : Hp} {xs : List V} {ds : List D} (r : RDs k K F xs ds) : ∀ n : Nat, RDs k K F (List.replicate n xs).flatten (List.replicate n ds).flatten
  | 0 => .nil
  | n + 1 => by
    rw [List.replicate_succ, List.replicate_succ, List.flatten_cons, List.flatten_cons]
    exact r.append (rds_rep r n)
theorem fe_mul {k : Bool} {kd : Kind} (ha : FV X W κ ma a fa) (hb : FV X W κ mb b fb) (hd : kd = .v k := by rfl) (h1 : itB k κ ma := by rfl) : FV X W κ (.t kd) (.BinOp a .Mult b pos) (f2 ma mb dMul fa fb) := by
  subst hd
  refine (pe_op (((op_mulW (X := X)).or op_rep).or op_repT) ha hb).imp fun _ _ _ h => ev_2 (fun ρ w w2 x y dx dy vx vy z rel e t1 t2 e1 e2 ez post => ?_) h
  unfold dMul at ez
  split at ez
  · split at ez
    · rename_i hc
      cases ez
      exact .inl (.inl ⟨_, _, dp_int (rd_dp rel t1 e1), dp_int (rd_dp rel t2 e2), hc, fin_imm post rel e (.int _)⟩)
    · cases ez
  · split at ez
    · rename_i hc
      cases ez
      obtain ⟨p, us, ep, sp, rs1⟩ := opd_list h1 rel t1 e1
      exact .inl (.inr ⟨p, _, us, ep, dp_int (rd_dp rel t2 e2), sp, by have := hc.1; omega, hc.2.1, by rw [rs1.length]; exact hc.2.2, fun p' np => fin_lst (b := k) (k := .v k) rfl post rel e (rds_rep rs1 _) np⟩)
    · cases ez
  · split at ez
    · rename_i hc
      cases ez
      obtain ⟨p, us, ep, sp, r1, rs1⟩ := opd_tup h1 rel t1 e1
      exact .inr ⟨p, _, us, ep, dp_int (rd_dp rel t2 e2), sp, fun z => hc.1 (by cases rs1 with | nil => rfl | cons _ _ => cases z), hc.2.1, hc.2.2.1, by rw [rs1.length]; exact hc.2.2.2, fun p' np => fin_tup post rel e (rds_rep rs1 _) np⟩
    · cases ez
  · cases ez
/-- list * n, owned -/
def dRep : D → D → Option D
  | .list ds, .int k => if 0 ≤ k ∧ k < 2 ^ 63 ∧ ds.length * k.toNat ≤ sizeLine then some (.list (List.replicate k.toNat ds).flatten) else none
  | _, _ => none
theorem fe_rep {k : Bool} {kd : Kind} (ha : FV X W κ ma a fa) (hb : FV X W κ mb b fb) (hd : newL k kd := by rfl) (h1 : itB k κ ma := by rfl) : FV X W κ (.t kd) (.BinOp a .Mult b pos) (f2 ma mb dRep fa fb) := by
  refine (pe_op (op_rep (X := X)) ha hb).imp fun _ _ _ h => ev_2 (fun ρ w w2 x y dx dy vx vy z rel e t1 t2 e1 e2 ez post => ?_) h
  unfold dRep at ez
  split at ez
  · split at ez
    · rename_i hc
      cases ez
      obtain ⟨p, us, ep, sp, rs1⟩ := opd_list h1 rel t1 e1
      exact ⟨p, _, us, ep, dp_int (rd_dp rel t2 e2), sp, by have := hc.1; omega, hc.2.1, by rw [rs1.length]; exact hc.2.2, fun p' np => fin_lst (b := k) hd post rel e (rds_rep rs1 _) np⟩
    · cases ez
  · cases ez
end
section
variable {K : PySem.W.Frag}
/-! ### a // b -/
def dDiv : D → D → Option D := oI (fun _ j => decide (0 < j ∧ j.natAbs.log2 < 9000)) fun i j => .int (i / j)
theorem s_div : Sc K (rI CDivW fun i j => .int (i / j)) dDiv := sc_I (fun i j h => (of_decide_eq_true h : 0 < j ∧ j.natAbs.log2 < 9000)) fun i j b F => .int _
/-! ### is -/
def isNone : D → Bool
  | .none => true
  | _ => false
def dIs : D → D → Option D
  | x, .none => some (.bool (isNone x))
  | .bool a, .bool b => some (.bool (decide (a = b)))
  | _, _ => none
def dIsN : D → D → Option D
  | x, .none => some (.bool (!isNone x))
  | .bool a, .bool b => some (.bool (!decide (a = b)))
  | _, _ => none
theorem dp_none {H : Hp} {x : V} (h : Dp K H x .none) : x = .non := by cases h; rfl
theorem dp_isNone {H : Hp} {x : V} {d : D} (h : Dp K H x d) : decide (x = .non) = isNone d := by
  cases h <;> first | rfl | exact decide_eq_false (by intro z; cases z)
theorem s_is : Sc K (fun x y H Q => rIsN x y H Q ∨ rIsB x y H Q) dIs := by
  intro x y dx dy z H Q hx hy ho q
  unfold dIs at ho
  split at ho
  · cases ho
    exact .inl ⟨dp_none hy, by rw [dp_isNone hx]; exact q _ fun b F => .bl _⟩
  · cases ho
    exact .inr ⟨_, _, dp_bl hx, dp_bl hy, q _ fun b F => .bl _⟩
  · cases ho
theorem s_isn : Sc K (fun x y H Q => rNotN x y H Q ∨ rNotB x y H Q) dIsN := by
  intro x y dx dy z H Q hx hy ho q
  unfold dIsN at ho
  split at ho
  · cases ho
    exact .inl ⟨dp_none hy, by rw [dp_isNone hx]; exact q _ fun b F => .bl _⟩
  · cases ho
    exact .inr ⟨_, _, dp_bl hx, dp_bl hy, q _ fun b F => .bl _⟩
  · cases ho
end
section
variable {X : Cx}
theorem op_isA : OpR X (compareOp .Is) (fun x y H Q => rIsN x y H Q ∨ rIsB x y H Q) := (op_isN1 (X := X)).or op_isBl
theorem op_isNotA : OpR X (compareOp .IsNot) (fun x y H Q => rNotN x y H Q ∨ rNotB x y H Q) := (op_notN1 (X := X)).or op_notBl
/-! ### in -/
/-- x in a list or a tuple of data -/
def rInA (K : PySem.W.Frag) (neg : Bool) : R2 := fun x y H Q => (∃ d e ds, Dp K H x d ∧ Dp K H y e ∧ (e = .list ds ∨ e = .tuple ds) ∧ SeqAt.shaped d = true ∧ SeqAt.shaped e = true ∧ Q (.bl (if neg then !(ds.any fun z => PyData.eqv z d) else ds.any fun z => PyData.eqv z d)) H)
theorem op_inA0 (hu : X.A.units + 65 < cLine) : OpR X (compareOp .In) (rInA X.K false) := by
  intro pins s σ H x y v u Q I rx ry h
  obtain ⟨d, e, ds, hd, he, ee, sd, se, q⟩ := h
  obtain ⟨as, r1⟩ := Dp.reads I d x v hd rx
  obtain ⟨bs, r2⟩ := Dp.reads I e y u he ry
  rcases ee with rfl | rfl
  · exact SeqAt.in_list_reads r2 r1 (SeqAt.canLay_of_shaped se) (SeqAt.canLay_of_shaped sd) (room_in_shaped sd hu) ⟨.bl _, H, I, rfl, q⟩
  · exact SeqAt.in_tuple_reads r2 r1 (SeqAt.canLay_of_shaped se) (SeqAt.canLay_of_shaped sd) (room_in_shaped sd hu) ⟨.bl _, H, I, rfl, q⟩
theorem op_ninA0 (hu : X.A.units + 65 < cLine) : OpR X (compareOp .NotIn) (rInA X.K true) := by
  intro pins s σ H x y v u Q I rx ry h
  obtain ⟨d, e, ds, hd, he, ee, sd, se, q⟩ := h
  obtain ⟨as, r1⟩ := Dp.reads I d x v hd rx
  obtain ⟨bs, r2⟩ := Dp.reads I e y u he ry
  rcases ee with rfl | rfl
  · exact SeqAt.notIn_list_reads r2 r1 (SeqAt.canLay_of_shaped se) (SeqAt.canLay_of_shaped sd) (room_in_shaped sd hu) ⟨.bl _, H, I, rfl, q⟩
  · exact SeqAt.notIn_tuple_reads r2 r1 (SeqAt.canLay_of_shaped se) (SeqAt.canLay_of_shaped sd) (room_in_shaped sd hu) ⟨.bl _, H, I, rfl, q⟩
def rInStr : R2 := fun x y H Q => ∃ i j, x = .str i ∧ y = .str j ∧ Q (.bl (!(Builtin.Str.occurrences j i 0 j.length 1).isEmpty)) H
def rNinStr : R2 := fun x y H Q => ∃ i j, x = .str i ∧ y = .str j ∧ Q (.bl (!(!(Builtin.Str.occurrences j i 0 j.length 1).isEmpty))) H
theorem op_inA {n : Nat} (hr : Room n X.A) : OpR X (compareOp .In) (fun x y H Q => (rInA X.K false x y H Q ∨ rInS x y H Q) ∨ rInStr x y H Q) := ((op_inA0 (by have := hr.un; omega)).or op_inS).or op_in_str
theorem op_ninA {n : Nat} (hr : Room n X.A) : OpR X (compareOp .NotIn) (fun x y H Q => (rInA X.K true x y H Q ∨ rNotInS x y H Q) ∨ rNinStr x y H Q) := ((op_ninA0 (by have := hr.un; omega)).or op_notInS).or op_notin_str
end
section
variable {K : PySem.W.Frag}
/-- is a's text within b's -/
def strIn (i j : Str) : Bool := match i.cps.toList with
  | [c] => decide (c ∈ j.cps.toList)
  | _ => !(Builtin.Str.occurrences j i 0 j.length 1).isEmpty
def dInB : D → D → Option Bool
  | d, .list ds => if SeqAt.shaped d && SeqAt.shaped (.list ds) then some (ds.any fun z => PyData.eqv z d) else none
  | d, .tuple ds => if SeqAt.shaped d && SeqAt.shaped (.tuple ds) then some (ds.any fun z => PyData.eqv z d) else none
  | .str i, .str j => some (strIn i j)
  | _, _ => none
def dIn (x y : D) : Option D := (dInB x y).map fun b => .bool b
def dNin (x y : D) : Option D := (dInB x y).map fun b => .bool (!b)
theorem strIn_or {i j : Str} {neg : Bool} {H : Hp} {Q : VK} (q : Q (.bl (if neg then !strIn i j else strIn i j)) H) : (∃ (c : Nat), i = ⟨#[c]⟩ ∧ Q (.bl (if neg then !decide (c ∈ j.cps.toList) else decide (c ∈ j.cps.toList))) H) ∨ Q (.bl (if neg then !(!(Builtin.Str.occurrences j i 0 j.length 1).isEmpty) else !(Builtin.Str.occurrences j i 0 j.length 1).isEmpty)) H := by
  obtain ⟨⟨l⟩⟩ := i
  match l, q with
  | [], q => exact .inr q
  | [c], q => exact .inl ⟨c, rfl, q⟩
  | _ :: _ :: _, q => exact .inr q
theorem s_in : Sc K (fun x y H Q => (rInA K false x y H Q ∨ rInS x y H Q) ∨ rInStr x y H Q) dIn := by
  intro x y dx dy z H Q hx hy ho q
  unfold dIn dInB at ho
  split at ho
  · split at ho
    · rename_i c
      cases ho
      rw [Bool.and_eq_true] at c
      exact .inl (.inl ⟨_, _, _, hx, hy, .inl rfl, c.1, c.2, q _ fun b F => .bl _⟩)
    · cases ho
  · split at ho
    · rename_i c
      cases ho
      rw [Bool.and_eq_true] at c
      exact .inl (.inl ⟨_, _, _, hx, hy, .inr rfl, c.1, c.2, q _ fun b F => .bl _⟩)
    · cases ho
  · cases ho
    rename_i i j
    rcases strIn_or (neg := false) (q _ fun b F => .bl _ : Q (.bl (strIn i j)) H) with ⟨c, e, q'⟩ | q'
    · subst e
      exact .inl (.inr ⟨c, j, dp_str hx, dp_str hy, q'⟩)
    · exact .inr ⟨i, j, dp_str hx, dp_str hy, q'⟩
  · cases ho
theorem s_nin : Sc K (fun x y H Q => (rInA K true x y H Q ∨ rNotInS x y H Q) ∨ rNinStr x y H Q) dNin := by
  intro x y dx dy z H Q hx hy ho q
  unfold dNin dInB at ho
  split at ho
  · split at ho
    · rename_i c
      cases ho
      rw [Bool.and_eq_true] at c
      exact .inl (.inl ⟨_, _, _, hx, hy, .inl rfl, c.1, c.2, q _ fun b F => .bl _⟩)
    · cases ho
  · split at ho
    · rename_i c
      cases ho
      rw [Bool.and_eq_true] at c
      exact .inl (.inl ⟨_, _, _, hx, hy, .inr rfl, c.1, c.2, q _ fun b F => .bl _⟩)
    · cases ho
  · cases ho
    rename_i i j
    rcases strIn_or (neg := true) (q _ fun b F => .bl _ : Q (.bl (!strIn i j)) H) with ⟨c, e, q'⟩ | q'
    · subst e
      exact .inl (.inr ⟨c, j, dp_str hx, dp_str hy, q'⟩)
    · exact .inr ⟨i, j, dp_str hx, dp_str hy, q'⟩
  · cases ho
end
end FN
set_option Elab.async false
set_option linter.all false
set_option maxRecDepth 100000
set_option maxHeartbeats 4000000
/-! FN11: an own error over ValueError whose __init__ says super().__init__(text) and self.value = value. -/
namespace FN
open PySem PySem.Spec PyProof.Rows L2
def eA (p1 p2 : Pos) : Arguments := { posonlyargs := [], args := [{ arg := "self", annotation := none, pos := p1 }, { arg := "value", annotation := none, pos := p2 }], vararg := none, kwonlyargs := [], kw_defaults := [], kwarg := none, defaults := [] }
def eB (m : Str) (p0 p1 p2 p3 p4 p5 q1 q2 q3 q4 : Pos) : List Stmt :=
  [.Expr (.Call (.Attribute (.Call (.Name "super" p0) [] [] p1) "__init__" p2) [.Constant (.str m) 0 p3] [] p4) p5, .Assign [.Attribute (.Name "self" q1) "value" q2] (.Name "value" q3) q4]
def eS : Scope := { kind := .function, names := [(PySem.Str.ofString "self", .local), (PySem.Str.ofString "value", .local), (PySem.Str.ofString "__class__", .free), (PySem.Str.ofString "super", .globalImplicit)], isGenerator := false, isCoroutine := false, more := [] }
/-- what the written part says of the base error's own __init__, at fI; D: the class that wrote it -/
structure ErrTxt (P : Program) (K : PySem.W.Frag) (mg : Str → Option Value) (D fI : Addr) : Prop where
  fn : ∃ (qual : Str) (oc : Value) (od : Option Addr) (doc pm : Value) (an : Option Addr) (cda : Addr) (ct : Value) (osl : Array (Option Value)) (cc : Addr) (m : Str) (p1 p2 p3 p4 p5 p6 p7 p8 q1 q2 q3 q4 : Pos),
    K.lookup fI = some ⟨oc, od, .func (PySem.W.ksFn "__init__" qual (eA p1 p2) (eB m p3 p4 p5 p6 p7 p8 q1 q2 q3 q4) eS .none .none doc pm an (.ref cda) ct cc), osl⟩ ∧ PySem.W.codeIn K (.ref cda) qual = true ∧ (p5.endLine == p7.line) = true ∧
    (∃ (ccl : Value) (cdd : Option Addr) (vs : Array Value) (ccs : Array (Option Value)) (file : Str) (tf : Tok), K.lookup cda = some ⟨ccl, cdd, .fields vs, ccs⟩ ∧ vs[2]? = some (.str file tf) ∧ ((P.main.file : Str) == file) = true) ∧
    ∃ (cl : Value) (cld : Option Addr) (csl : Array (Option Value)), K.lookup cc = some ⟨cl, cld, .cell (some (.ref D)), csl⟩
  cD : ∃ cd, PySem.W.clsIn K D = some cd
  top : (P.main.scope.names.lookup ("super" : Str)).isSome = false
  sup : mg "super" = none
  opq : PySem.W.nsIn K PySem.cStatics "thirdparty.any" = some none
/-- .. of a class C that has it -/
structure ErrCls (K : PySem.W.Frag) (D fI C : Addr) : Prop where
  oex : OexC K C
  iC : PySem.W.findIn K (.ref C) "__init__" = some (some (.ref fI))
  tI : PySem.W.typeIn K (.ref fI) = some (.type "function")
  no : PySem.W.findIn K (.ref C) "value" = some none
  sub : PySem.W.mroIn K C (.ref D) = some true
  subV : PySem.W.subIn K (.ref C) (.type "ValueError") = some true
  sup : PySem.W.ks_superIn K C D "__init__" = some (some (.builtin "ValueError.__init__"))
def initSp (C : Addr) : Sp := fun vs H Q _ => ∃ a y, vs = [.ref a, y] ∧ H a = some (exo a C none) ∧ ∀ d, H d = none → d ≠ a → Q .non (upd (upd H d (exd d [(("value" : Str), y)])) a (exo a C (some d)))
def cxK (CX : CXT) (P : Program) (w : World) (K : PySem.W.Frag) (mg : Str → Option Value) (base : Heap) (N : List Str) (qual : Str) (scope : Scope) (f : Addr) (cd : Value) (cc : Addr) (A : Around) (outer : List PySem.Env) (s : Shared) (H : Hp) (E : XK) : Cx where
  prog := P
  w := w
  K := K
  mg := mg
  base := base
  A := A.deeper (PySem.W.ksEnv qual scope s.heap.objs.size f cd cc)
  N := N
  s_0 := s
  H_0 := H
  env := PySem.W.ksEnv qual scope s.heap.objs.size f cd cc
  outer := outer
  stack := PySem.W.ksEnv qual scope s.heap.objs.size f cd cc :: outer
  ex := []
  calm := true
  fn := fun x => !(x == ("__class__" : Str))
  pn := []
  xe := fun e s' => wpAny (model P w) (A.deeper (PySem.W.ksEnv qual scope s.heap.objs.size f cd cc)) (leaving (PySem.W.ksEnv qual scope s.heap.objs.size f cd cc) e) (fun _ s'' => CX outer H s E e s'') (fun e' s'' => CX outer H s E e' s'') s'
theorem one_cell {y : Str} {c cc : Addr} (h : ([(("__class__" : Str), cc)] : List (Str × Addr)).lookup y = some c) : y = "__class__" ∧ c = cc := by
  by_cases e : y = "__class__"
  · subst e
    rw [List.lookup_cons_self] at h
    exact ⟨rfl, (Option.some.inj h).symm⟩
  · have e' : (y == ("__class__" : Str)) = false := by simpa using e
    rw [List.lookup_cons, e'] at h
    cases h
section
variable {P : Program} {w : World} {K : PySem.W.Frag} {mg : Str → Option Value} {base : Heap} {CX : CXT} {D fI C : Addr}
theorem inv_k {qual : Str} {cda cc : Addr} {A : Around} {outer : List PySem.Env} {s : Shared} {h₁ : Heap} {H : Hp} {E : XK} {a : Addr} {y : V} {u : Value} {tk : Nat} {cl : Value} {cld : Option Addr} {csl : Array (Option Value)} (hc : K.lookup cc = some ⟨cl, cld, .cell (some (.ref D)), csl⟩) (hd : A.handled = none) (e0 : Env0 P w K mg base A outer s H) (ry : RelV y u)
    (hns : h₁.Ns s.heap.objs.size (fun x => ((["self", "value"] : List Str).zip [Value.ref a, u]).reverse.lookup x)) (hk : ∀ b o, s.heap.get? b = some o → h₁.get? b = some o) :
    Inv (cxK CX P w K mg base ["self", "value"] qual eS fI (.ref cda) cc A outer s H E) [] [some (.ref a), some y] H { s with heap := h₁, toks := tk } := by
  have noA : ∀ b : Addr, b ∉ (cxK CX P w K mg base ["self", "value"] qual eS fI (.ref cda) cc A outer s H E).ex := fun b z => absurd (show b ∈ ([] : List Addr) from z) (by simp)
  have hb : base.get? cc = some ⟨cl, cld, .cell (some (.ref D)), csl⟩ := e0.mod.kin _ _ hc
  refine ⟨⟨e0.mod, rfl, rfl, rfl, Nat.le_refl _, fun y z c h1 h2 => ?_, fun y hy => ?_, fun y c hf h => ?_, fun _ => hd, Around.frames_deeper e0.frames, .inr ⟨rfl, rfl⟩, fun b z => absurd z (noA b), e0.bs, e0.bsz, fun b _ _ => noA b, fun b z => absurd z (noA b), e0.funs, e0.frf⟩,
    rfl, e0.bare, Un.kept hk, ⟨_, hns, fun i x v h1 h2 h3 => ?_⟩, fun x c h => ?_, e0.hok.fresh (Nat.le_refl _), fun x c h => ?_, fun p hp => absurd (show p ∈ ([] : List (Addr × Obj)) from hp) (by simp), e0.hok.kept hk, rfl⟩
  · exact (one_cell h1).1.trans (one_cell h2).1.symm
  · have hy : eS.names.lookup y = some .cell ∨ eS.names.lookup y = some .free := hy
    by_cases e : y = "__class__"
    · exact ⟨cc, by rw [e]; rfl⟩
    · exfalso
      rcases hy with hy | hy
      · have := PySem.mem_of_lookup hy
        revert this
        unfold eS
        simp
      · have := PySem.mem_of_lookup hy
        revert this
        unfold eS
        simp
        exact e
  · rw [(one_cell h).1] at hf
    exact absurd (show (!(("__class__" : Str) == ("__class__" : Str))) = true from hf) (by decide)
  · match i, h1, h2 with
    | 0, h1, h2 =>
      cases h1
      cases h2
      exact ⟨_, rfl, .inl ⟨rfl, by rfl⟩⟩
    | 1, h1, h2 =>
      cases h1
      cases h2
      exact ⟨_, ry, .inl ⟨rfl, by rfl⟩⟩
  · rw [(one_cell h).2]
    exact ⟨_, _, hk _ _ (e0.bs _ _ hb).1, rfl⟩
  · rw [(one_cell h).2]
    exact (e0.bs _ _ hb).2
/-- super().__init__(..), called -/
theorem call_mw {A : Around} {E : Value → Shared → Prop} {h : Heap} {g : Array GenState} {d : Drawn} {t : Nat} {os : OsState} {u e t0 : Addr} {rest : List Value} {Q : Value → Shared → Prop} {nm q : Str} {N : Addr} {bs bm : List Value} {hdct : Bool} {sn : List Str} {sub : List Value} {ab : Bool} {col : Option Bool} {dd : Option Addr} {k0 k1 k2 k3 k5 : Option Value}
    (hC : h.get? C = some (excClassObj nm q C N bs bm hdct sn sub ab col dd k0 k1 k2 k3 k5 "ValueError.__new__")) (he : h.get? e = some (HandSPX.excO C t0)) (hu : h.get? u = some (PySem.W.kxs_mw "ValueError.__init__" e)) (hrest : rest.length ≤ sizeLine)
    (hq : ∀ h' t1, (∀ b o, b ≠ e → h.get? b = some o → h'.get? b = some o) → h'.get? e = some (HandSPX.excO C t1) → Q .none ⟨h', g, d, t, os⟩) :
    wpAny (model P w) A (call (.ref u) rest) Q E ⟨h, g, d, t, os⟩ := by
  refine wpAny_call (codeAny_of_tree ?_)
  show wpAny _ A.in1 (callAny (.ref u) ⟨rest, []⟩) _ _ _
  simp only [callAny]
  refine wpAny_bind (wpAny_load hu ?_)
  simp only [PySem.W.kxs_mw, show (Value.type "method-wrapper" == Value.type "method" || Value.type "method-wrapper" == Value.type "builtin_function_or_method" || Value.type "method-wrapper" == Value.type "method-wrapper") = true by decide, if_true]
  refine PySem.W.KFB.if_so (by decide) ?_
  refine wpAny_bind (PySem.W.check_bound_init F.excBase_ValueError.toExcCallFacts hC he rfl ?_)
  refine wpAny_bind (wpAny_pure (wpAny_pure ?_))
  refine ⟨Code.quiet_builtin _ (by decide +kernel), codeAny_builtin F.excBase_ValueError.initEntry ?_⟩
  rw [Around.under_plainId F.excBase_ValueError.init.plain _]
  wp_walk
  refine hq _ h.objs.size (fun b o hb ho => ?_) ?_
  · rw [Heap.get?_update_other _ _ (Ne.symm hb)]
    exact Heap.get?_push_of_some _ ho
  · rw [Heap.get?_update_self _ (Heap.get?_push_of_some _ he) rfl]
    rfl
theorem super_call {o : Expr} {m : Str} {p5 p6 p7 : Pos} (ho : ∀ x q, o ≠ .Name x q) (hp : (p5.endLine == p7.line) = true) (env : PySem.Env) : eval (.Call (.Attribute o "__init__" p5) [.Constant (.str m) 0 p6] [] p7) env = (do
    let ov ← attributeBase o "__init__" env (eval o env)
    standAt p5.atName
    let (f, first) ← holding [ov] (getMethod ov "__init__" (do return (← importBound o env).getD true))
    callWith p7 f first (backTo p7 (starEach [.Constant (.str m) 0 p6] env)) []) := by
  show (do
    let ov ← attributeBase o "__init__" env (eval o env)
    standAt p5.atName
    methodCall o "__init__" p5 p7 env ov 1 (backTo p7 (starEach [.Constant (.str m) 0 p6] env)) []) = _
  unfold methodCall methodCallPos
  rw [hp]
  rfl
/-- the first row of __init__, from its place -/
theorem sup_row (T : ErrTxt P K mg D fI) (TC : ErrCls K D fI C) {qual : Str} {cda cc a : Addr} {A : Around} {outer : List PySem.Env} {s s1 : Shared} {H : Hp} {E : XK} {y : V} {cl : Value} {cld : Option Addr} {csl : Array (Option Value)} {oc : Value} {od : Option Addr} {doc pm ct : Value} {an : Option Addr} {osl : Array (Option Value)} {m : Str} {p1 p2 p3 p4 p5 p6 p7 p8 q1 q2 q3 q4 : Pos} {ccl : Value} {cdd : Option Addr} {vs : Array Value} {ccs : Array (Option Value)} {file : Str} {tf : Tok}
    (lk : K.lookup fI = some ⟨oc, od, .func (PySem.W.ksFn "__init__" qual (eA p1 p2) (eB m p3 p4 p5 p6 p7 p8 q1 q2 q3 q4) eS .none .none doc pm an (.ref cda) ct cc), osl⟩)
    (hcd : K.lookup cda = some ⟨ccl, cdd, .fields vs, ccs⟩) (hvs : vs[2]? = some (.str file tf)) (hfile : ((P.main.file : Str) == file) = true) (hcc : K.lookup cc = some ⟨cl, cld, .cell (some (.ref D)), csl⟩) (hpos : (p5.endLine == p7.line) = true)
    (I : Inv (cxK CX P w K mg base ["self", "value"] qual eS fI (.ref cda) cc A outer s H E) [] [some (.ref a), some y] H s1) (ha : H a = some (exo a C none)) {body : List Stmt} {Q : Flow → Shared → Prop}
    (hq : ∀ s', Inv (cxK CX P w K mg base ["self", "value"] qual eS fI (.ref cda) cc A outer s H E) [] [some (.ref a), some y] H s' → Q .next s') :
    PySem.wpAt (model P w) (cxK CX P w K mg base ["self", "value"] qual eS fI (.ref cda) cc A outer s H E).A (.func body (PySem.W.ksEnv qual eS s.heap.objs.size fI (.ref cda) cc)) (exec (.Expr (.Call (.Attribute (.Call (.Name "super" p3) [] [] p4) "__init__" p5) [.Constant (.str m) 0 p6] [] p7) p8) (PySem.W.ksEnv qual eS s.heap.objs.size fI (.ref cda) cc)) Q
      (cxK CX P w K mg base ["self", "value"] qual eS fI (.ref cda) cc A outer s H E).xe s1 := by
  refine ks_wpAt_Expr_any (ks_wpAt_MethodCall ?_ (super_call (fun _ _ z => by cases z) hpos _))
  have X : K.In s1.heap := I.kIn
  obtain ⟨m1, hns, hl⟩ := I.loc
  obtain ⟨u0, r0, l0⟩ := hl 0 "self" (.ref a) rfl rfl (.inl rfl)
  obtain rfl : u0 = .ref a := r0
  have hm : m1 "self" = some (.ref a) := by
    rcases l0 with ⟨_, q⟩ | ⟨q, _⟩
    · exact q
    · rcases q with q | q
      · exact absurd (show (some NameKind.local : Option NameKind) = some .cell from q) (by decide)
      · exact absurd (show (some NameKind.local : Option NameKind) = some .free from q) (by decide)
  obtain ⟨cdD, hD⟩ := T.cD
  obtain ⟨t0, hx⟩ := exo_at I.hok ha
  obtain ⟨oD, hD1, hD2⟩ : ∃ oD, s1.heap.get? D = some oD ∧ oD.data = .cls cdD := by
    unfold PySem.W.clsIn at hD
    split at hD
    · rename_i c d cd' sl ho
      cases hD
      exact ⟨_, X _ _ ho, rfl⟩
    · cases hD
  obtain ⟨mb, hb1, hb2⟩ := I.mod.blt
  have IA : PySem.W.InstAt s1.heap a ({ cls := .ref C, dict := none, data := .fields #[.ref t0, .none, .none, .none, .bool false, .none] } : Obj) C none := ⟨hx, rfl, rfl, trivial⟩
  refine ks_wpAt_super_base (env := PySem.W.ksEnv qual eS s.heap.objs.size fI (.ref cda) cc) (ar := { arg := "self", annotation := none, pos := p1 }) rfl rfl (by decide) rfl (X _ _ lk) rfl rfl rfl (X _ _ hcd) rfl hvs hfile T.top ?_
  refine PySem.W.ks_loadName_global rfl rfl (Calls.loadGlobal_builtin (env := PySem.W.ksEnv qual eS s.heap.objs.size fI (.ref cda) cc) (I.mod.glob.keeps I.bk) T.sup (hb1.keeps I.bk) ((hb2 _ (by decide +kernel)).trans PyProof.Rows.Boot.«super») ⟨rfl, ?_⟩)
  refine wpAny_loadName_free rfl rfl rfl ⟨_, X _ _ hcc, rfl⟩ ?_
  refine wpAny_loadName_local rfl rfl hns hm ?_
  refine ks_wpAny_isType_cls hD1 hD2 ⟨rfl, ?_⟩
  obtain ⟨hh, g, d, t, os⟩ := s1
  refine ks_wpAny_call_super hD1 hD2 hx rfl (fun c e => by cases e) (PySem.W.looks_mroIn X TC.sub) (fun h' e k => ?_)
  have J : Inv (cxK CX P w K mg base ["self", "value"] qual eS fI (.ref cda) cc A outer s H E) [] [some (.ref a), some y] H ⟨h', g, d, t, os⟩ := I.kept (t' := t) k
  obtain ⟨nm, q, N, bs, bm, sn, sub, ab, col, dd, k0, k1, k2, k3, k5, hC, hbm⟩ := TC.oex.cls
  have X1 : K.In h' := J.kIn
  have hcl : PySem.W.clsIn K C = some { name := nm, bases := bs, mro := .ref C :: bm, ns := N, qualname := q, hasDict := true, slotNames := sn, subclasses := sub, abstract := ab, collection := col, hasDel := false } := by unfold PySem.W.clsIn; rw [hC] <;> rfl
  have hsup := TC.sup
  unfold PySem.W.ks_superIn at hsup
  rw [hcl] at hsup
  have IA1 : PySem.W.InstAt h' a ({ cls := .ref C, dict := none, data := .fields #[.ref t0, .none, .none, .none, .bool false, .none] } : Obj) C none := ⟨k _ _ hx, rfl, rfl, trivial⟩
  refine PySem.W.kxs_getMethod PySem.W.kxs_ValueError e (PySem.W.looks_opaque X1 T.opq) (fun A Q E s k q => wpAny_bind ((PySem.W.looks_clsIn X1 hcl) A _ E s k (wpAny_pure q))) rfl X1 hsup (IA1.type.andThen (PySem.W.looks_subIn X1 TC.subV)) (PySem.W.ks_ne X1 IA1 hcl) (by decide) ?_
  have J2 : Inv (cxK CX P w K mg base ["self", "value"] qual eS fI (.ref cda) cc A outer s H E) [] [some (.ref a), some y] H ⟨h'.push (PySem.W.kxs_mw "ValueError.__init__" a), g, d, t + 1, os⟩ := J.kept (t' := t + 1) fun b o q => Heap.get?_push_of_some _ q
  have hmw : (h'.push (PySem.W.kxs_mw "ValueError.__init__" a)).get? h'.objs.size = some (PySem.W.kxs_mw "ValueError.__init__" a) := Heap.get?_push_at rfl rfl
  have J3 : Inv (cxK CX P w K mg base ["self", "value"] qual eS fI (.ref cda) cc A outer s H E) [(h'.objs.size, PySem.W.kxs_mw "ValueError.__init__" a)] [some (.ref a), some y] H ⟨h'.push (PySem.W.kxs_mw "ValueError.__init__" a), g, d, t + 1, os⟩ := J2.pins_of fun p hp => by
    rcases List.mem_singleton.mp hp with rfl
    exact ⟨hmw, J.hok.fresh (Nat.le_refl _), fun z => absurd J.lt (by rw [← z]; exact Nat.lt_irrefl _), J.nofs (Nat.le_refl _), fun v z => by cases z⟩
  refine PySem.W.kxs_callWith (i := "ValueError.__init__") (x := a) rfl (Calls.evalArgs_plain ?_)
  refine thn ((pa_cons (X := cxK CX P w K mg base ["self", "value"] qual eS fI (.ref cda) cc A outer s H E) pe_str pa_nil).run p7 _ _ _ H (fun vs H' => H' = H ∧ vs.length = 1) J3 ⟨rfl, rfl⟩) fun us s2 hh2 => ?_
  obtain ⟨vs2, H2, I2, r2, rfl, hlen⟩ := hh2
  have hm2 := (I2.pin _ (List.mem_append_right _ (List.mem_singleton.mpr rfl))).1
  refine ⟨hm2, ?_⟩
  obtain ⟨t1, hx2⟩ := exo_at I2.hok ha
  obtain ⟨hp2, g2, d2, tk2, os2⟩ := s2
  refine call_mw (I2.kIn _ _ hC) hx2 hm2 ?_ fun h3 t3 k3' hx3 => hq _ ?_
  · show us.length ≤ sizeLine
    rw [← Paired.length r2, hlen, sizeLine_eq]
    decide
  · have J4 := (I2.pins_of (pins' := []) (fun p hp => absurd hp (by simp))).write (t' := tk2) (x := a) (e := a) (o := exo a C none) (by rw [ha]; exact True.intro) (.inl rfl) k3' ⟨_, hx3⟩ (exo_ok hx3)
    have eu : upd H2 a (exo a C none) = H2 := by
      funext b
      by_cases hb : b = a
      · rw [hb, upd_same, ha]
      · rw [upd_ne hb]
    rw [eu] at J4
    exact J4
theorem init_ok (T : ErrTxt P K mg D fI) (TC : ErrCls K D fI C) : ∃ fd, FnOk P w K mg base CX 0 fI fd ["self", "value"] (initSp C) ∧ Binds K fd ["self", "value"] [] := by
  obtain ⟨qual, oc, od, doc, pm, an, cda, ct, osl, cc, m, p1, p2, p3, p4, p5, p6, p7, p8, q1, q2, q3, q4, lk, hcd, hpos, ⟨ccl, cdd, vs', ccs, file, tf, hcda, hvs, hfile⟩, cl, cld, csl, hcc⟩ := T.fn
  refine ⟨PySem.W.ksFn "__init__" qual (eA p1 p2) (eB m p3 p4 p5 p6 p7 p8 q1 q2 q3 q4) eS .none .none doc pm an (.ref cda) ct cc, ⟨fun vs H Q E h => ?_, fun A outer s H args us vs Q E hr e0 hb r hsp => ?_⟩, fun s us X hl => ?_⟩
  · obtain ⟨a, y, rfl, _⟩ := h
    rfl
  · obtain ⟨a, y, rfl, ha, hq⟩ := hsp
    cases r with
    | @cons _ u0 _ ur ra r' =>
      cases r' with
      | @cons _ u _ ur2 ry r'' =>
        cases r''
        obtain rfl : u0 = .ref a := ra
        have KX : K.In s.heap := e0.mod.kin.keeps fun b o e => (e0.bs b o e).1
        have lim : s.heap.NoLimit := e0.mod.nolimit.keeps fun b o e => (e0.bs b o e).1
        refine ks_codeAny_call_defAt (fd := PySem.W.ksFn "__init__" qual (eA p1 p2) (eB m p3 p4 p5 p6 p7 p8 q1 q2 q3 q4) eS .none .none doc pm an (.ref cda) ct cc) hr.depth (KX _ _ lk) rfl lim (PySem.W.codeRec_of KX hcd) rfl hb (show ∀ x ∈ eS.names, x.2 ≠ .cell by decide) (fun z hz => ?_) (fun h₁ hns hk => ?_) rfl rfl rfl
        · rcases List.mem_cons.mp hz with rfl | hz
          · rfl
          · rcases List.mem_cons.mp hz with rfl | hz
            · rfl
            · cases hz
        · have I := inv_k (CX := CX) (fI := fI) (qual := qual) (cda := cda) (E := E) (tk := s.toks + 2) hcc hr.hd e0 ry hns hk
          refine ks_wpAt_execs_cons (sup_row T TC lk hcda hvs hfile hcc hpos I ha fun s' J => wpAt_of_wpAny ?_)
          have hrest := (pss_one (ps_ost (X := cxK CX P w K mg base ["self", "value"] qual eS fI (.ref cda) cc A outer s H E) (f := "value") (p' := q2) (pos := q4) (pe_var (i := 0) (pos := q1) rfl (.inl rfl)) (pe_var (i := 1) (pos := q3) rfl (.inl rfl)))).run [] s' _ H { nx := fun _ H' => Q .non H', rt := fun _ _ => False } J ⟨y, rfl, .ref a, rfl, a, C, rfl, TC.oex, TC.no, .inl ⟨ha, fun d hd hne => hq d hd hne⟩⟩
          refine wpAny_mono hrest (fun fl s2 hs => ?_) fun _ _ z => z
          cases fl with
          | ret u => exact (let ⟨_, _, _, _, _, z⟩ := hs; False.elim z)
          | next =>
            obtain ⟨σ', H', J2, q⟩ := hs
            exact ⟨.non, H', J2.os, J2.bare, J2.base, J2.hok, rfl, q⟩
          | brk => exact (let ⟨_, _, _, z⟩ := hs; False.elim z)
          | cont => exact (let ⟨_, _, _, z⟩ := hs; False.elim z)
  · match us, hl with
    | [_, _], _ => exact .of_eq rfl
end
end FN
set_option Elab.async false
set_option linter.all false
set_option maxRecDepth 100000
set_option maxHeartbeats 4000000
/-! FN12: raise, try. -/
namespace FN
open PySem PySem.Spec PyProof.Rows L2
/-! ### raise C(e) -/
def sRaise (n : Str) (fa : M D) : Env → Option Fl := fun ρ => bnd (fa ρ) Fl.err fun d ρ1 => some (.err n d ρ1)
section
variable {X : Cx} {W : WX} {C : FC} {κ κn : List Kind} {pos pos' p : Pos} {e : Expr} {fa : M D} {b : Bool}
theorem fs_raise {n : Str} {D fI Ca : Addr} (T : ErrTxt X.prog X.K X.mg D fI) (TC : ErrCls X.K D fI Ca) (hm : X.mg n = some (.ref Ca)) (hc : X.calm = true) (hr : Room 1 X.A) (tk : Takes X W) (ha : FV X W κ (.t (.v b)) e fa) (hg : Gl X n := by rfl) (hdb : (n == ("__debug__" : Str)) = false := by decide)
    (he : starEach (e :: []) X.env = (false, eval e X.env) :: starEach [] X.env := by rfl) (hk : EK C κ := by first | exact .inl rfl | exact .inr rfl) : FS X W C κ κn (.Raise (some (.Call (.Name n p) [e] [] pos)) none pos') (sRaise n fa) := by
  obtain ⟨fd, F1, hb⟩ := init_ok (w := X.w) (base := X.base) (CX := CX0) T TC
  refine (ps_raise hc tk (pmk_oex TC.oex TC.iC TC.tI F1 hr hb .nil pass0 hg hm (pa_cons ha pa_nil he) hdb he rfl)).imp fun D' σ H h => ?_
  obtain ⟨ρ, w, rfl, rel, post⟩ := h
  refine seqV (P := PostS (ctx X W) C κn D' w) rel post (fun z => z) (fun n d ρ' z => errS hk z) fun d ρ1 v w1 rel1 e1 t1 post1 => ?_
  refine ⟨show (1 : Nat) ≤ 1000 by decide, fun a na => ⟨a, v, rfl, upd_same, fun dx hd hne => ⟨rfl, dx, [(("value" : Str), v)], upd_same, ?_, ?_, ?_⟩⟩⟩
  · rw [upd_ne hne, upd_same]
  · rw [upd_ne hne] at hd
    exact hd
  · rw [upd_ne hne] at hd
    obtain ⟨w2, eH, eF, rel2, e2⟩ := world_new (o := .xd [(("value" : Str), v)]) rel1 hd
    have eq : upd (del (upd (upd (upd w1.H a (exo a Ca none)) dx (exd dx [(("value" : Str), v)])) a (exo a Ca (some dx))) a) dx (.xd [(("value" : Str), v)]) = w2.H := by
      rw [eH]
      funext z
      by_cases z1 : z = dx
      · rw [z1, upd_same, upd_same]
      · rw [upd_ne z1, upd_ne z1]
        by_cases z2 : z = a
        · rw [z2, del_same, na]
        · rw [del_ne z2, upd_ne z2, upd_ne z1, upd_ne z2]
    rw [eq]
    refine post1 (.ref Ca) dx σ w2 rel2.same (fun κ' z => ?_) (e1.trans e2) ⟨Ca, v, hm, rfl, by rw [eF, upd_same], ((Temp.rd t1).mono e2.same).any⟩
    rcases hk with y | y
    · rw [y] at z
      cases z
    · rw [y] at z
      cases z
      exact rel2
/-! ### try: .. except S as e: .. -/
/-- the value of the caught error in slot i -/
def fXv (i : Nat) : M D := fun ρ => match ρ[i]? with
  | some (some (.dict [(.none, d)])) => some (.ok d ρ)
  | _ => none
theorem fe_xv {a dx : Addr} {cls : Value} {R : Addr → Prop} {oe : Obj} {pn : List (Addr × Obj)} {x : Str} {i : Nat} (hz : Zc cls (some dx) oe) (hf : ∃ vs, oe.data = .fields vs) (hk : κ[i]? = some (.exc a dx cls R) := by rfl) (hN : X.N[i]? = some x := by rfl) (hv : Vis X.env.scope x := by first | exact Or.inl rfl | exact Or.inr (Or.inl rfl) | exact Or.inr (Or.inr rfl))
    (hb : attributeBase (.Name x p) "value" X.env (eval (.Name x p) X.env) = eval (.Name x p) X.env := by rfl) (hd : (x == ("__debug__" : Str)) = false := by decide) (hcd : (x == ("__classdict__" : Str)) = false := by decide) :
    FV (X.suite a ((a, oe) :: pn)) W κ (.t (.v true)) (.Attribute (.Name x p) "value" pos) (fXv i) := by
  refine ⟨fun pins s σ H Q I h => ?_⟩
  obtain ⟨ρ, w, rfl, rel, post⟩ := h
  unfold fXv at post
  split at post
  · rename_i d ed
    obtain ⟨v, f, e1, o, _⟩ := rel.slots.get ed hk
    obtain ⟨rfl, y, d', q1, q2, q3, Ca, rfl, xf, no, _⟩ := o
    cases q1
    refine (pe_xf (X := X) (pos := pos) xf no hz hf (pe_var (X := X.suite a ((a, oe) :: pn)) (pos := p) hN hv hd hcd) hb).run pins s σ _ Q I ⟨.ref a, e1, rfl, rfl, dx, _, y, rfl, rel.same _ _ q2, List.lookup_cons_self, ?_⟩
    exact fin_imm post rel (Ext.refl _) q3
  · exact post.elim
def sTry (sel : Str → Option Bool) (i : Nat) (fb fs : Env → Option Fl) : Env → Option Fl := fun ρ => match fb ρ with
  | some (.err n d ρ') => match sel n with
    | some true => match fs (ρ'.set i (some (.dict [(.none, d)]))) with
      | some (.nx ρ2) => some (.nx (ρ2.set i none))
      | some (.ret d ρ2) => some (.ret d ρ2)
      | _ => none
    | some false => some (.err n d ρ')
    | none => none
  | o => o
theorem slots_clear {K : PySem.W.Frag} {F H : Hp} {κ : List Kind} {ρ : Env} {σ : L2.St} {fp : FpS} (h : Slots K F H κ ρ σ fp) (k : Kind) (o : Option V) : ∀ i : Nat, Slots K F H (κ.set i k) (ρ.set i none) (σ.set i o) fp := by
  induction h with
  | nil => exact fun i => .nil
  | skip t ih =>
    intro i
    cases i with
    | zero => exact .skip t
    | succ i => exact .skip (ih i)
  | cons r t d h1 h2 ih =>
    intro i
    cases i with
    | zero => exact .skip (t.mono h2)
    | succ i => exact .cons r (ih i) d h1 h2
theorem rel_clear {K : PySem.W.Frag} {κ : List Kind} {ρ : Env} {σ : L2.St} {w : Wd} (rel : Rel K κ ρ σ w) {k : Kind} (hk : nofix k) (o : Option V) (i : Nat) : Rel K (κ.set i k) (ρ.set i none) (σ.set i o) w := by
  refine ⟨rel.same, rel.frz, rel.live, fun j u k' z => ?_, slots_clear rel.slots k o i⟩
  by_cases hj : j = i
  · subst hj
    by_cases hl : j < κ.length
    · rw [List.getElem?_set_self hl] at z
      cases z
      exact hk.elim
    · rw [List.getElem?_eq_none (by simpa using hl)] at z
      cases z
  · rw [List.getElem?_set_ne (Ne.symm hj)] at z
    rw [List.getElem?_set_ne (Ne.symm hj)]
    exact rel.fixed j u k' z
/-- which errors of the law's own classes an except clause takes -/
def Sel (K : PySem.W.Frag) (mg : Str → Option Value) (c : Value) (R : Addr → Prop) (sel : Str → Option Bool) : Prop :=
  ∀ n b, sel n = some b → ∀ Ca, mg n = some (.ref Ca) → XfC K Ca ∧ PySem.W.findIn K (.ref Ca) "value" = some none ∧ PySem.W.exmOne K (.ref Ca) c = some b ∧ R Ca
theorem fs_try {cn nm : Str} {c : Value} {i : Nat} {body suite : List Stmt} {b₀ : Stmt} {np : Pos} {sel : Str → Option Bool} {R : Addr → Prop} {k : Kind} {κs : List Kind} {fb fs : Env → Option Fl} (hsel : Sel X.K X.mg c R sel) (hc : Names X cn c) (tk : Takes X W) (hN : X.N.Nodup)
    (hb : ∀ (W' : WX) (pn : List (Addr × Obj)) (xe : Value → Shared → Prop), Takes (X.tr pn xe) W' → PassesOwn (model X.prog X.w) X.A X.env xe → FSs (X.tr pn xe) W' ⟨C.ks, C.vs, C.kr, C.kl, some κ⟩ κ (κs.set i k) body fb)
    (hs : ∀ (a : Addr) (oe : Obj) (cls : Value) (dx : Addr) (pn : List (Addr × Obj)), Zc cls (some dx) oe → (∃ vs, oe.data = .fields vs) → FSs (X.suite a ((a, oe) :: pn)) (fun _ _ _ _ => False) ⟨C.ks, C.vs, C.kr, C.kl, none⟩ (κ.set i (.exc a dx cls R)) (κs.set i (.exc a dx cls R)) (b₀ :: suite) fs)
    (hstk : X.stack = X.env :: X.outer := by rfl) (hfr : X.env.frame = some X.env.locals := by rfl) (hi : X.N[i]? = some nm := by rfl) (hln : X.env.kindOf nm = some .local := by rfl) (hk : EK C κ := by first | exact .inl rfl | exact .inr rfl) (hl : i < κ.length := by decide) (hnf : nofix k := by exact True.intro) :
    FS X W C κ (κs.set i k) (.Try body [.ExceptHandler (some (.Name cn np)) (some nm) (b₀ :: suite) pos'] [] [] pos) (sTry sel i fb fs) := by
  refine (ps_try_as (tb := fun W' => tS (ctx X W') ⟨C.ks, C.vs, C.kr, C.kl, some κ⟩ κ (κs.set i k) fb)
    (ts := fun a cls d => match d with | some dx => tS (ctx X fun _ _ _ _ => False) ⟨C.ks, C.vs, C.kr, C.kl, none⟩ (κ.set i (.exc a dx cls R)) (κs.set i (.exc a dx cls R)) fs | none => fun _ _ _ => False)
    (Wout := W) hstk hfr hN hi hln hc tk (fun W' pn xe t po => hb W' pn xe t po) (fun a oe cls d pn hz hf => ?_)).imp fun D' σ H h => ?_
  · cases d with
    | some dx => exact hs a oe cls dx pn hz hf
    | none => exact ⟨fun _ _ _ _ _ _ z => z.elim⟩
  · obtain ⟨ρ, w, rfl, rel, post⟩ := h
    refine ⟨ρ, w, rfl, rel, ?_⟩
    unfold sTry at post
    cases q : fb ρ with
    | none =>
      rw [q] at post
      exact post
    | some o =>
      rw [q] at post
      cases o with
      | nx ρ1 => exact post
      | ret d ρ1 => exact post
      | bk ρ1 => exact post
      | ct ρ1 => exact post
      | err n d ρ1 =>
        intro cls dx σ' w' sm rel' ex ea
        have rel1 : Rel X.K κ ρ1 σ' w' := rel' κ rfl
        have ea0 := ea
        obtain ⟨Ca, v, hm, rfl, hF, hv⟩ := ea
        dsimp only at post
        cases qs : sel n with
        | none =>
          rw [qs] at post
          exact post.elim
        | some b =>
          rw [qs] at post
          obtain ⟨xf, no, exm, hR⟩ := hsel n b qs Ca hm
          refine ⟨b, exm, fun hb' a na => ?_, fun hb' => ?_⟩
          · subst hb'
            dsimp only at post
            have t : Temp X.K (.exc a dx (.ref Ca) R) w' w' (.dict [(.none, d)]) (.ref a) := ⟨fun _ => False, ⟨rfl, v, d, rfl, hF, hv, Ca, rfl, xf, no, hR⟩, fun _ z => z.elim⟩
            obtain ⟨w2, eH, _, rel2, e2⟩ := rel_set (i := i) rel1 t (by rw [← rel1.slots.lengths.1]; exact hl) (fun u k' z => by cases z)
            refine ⟨_, w2, eH, rel2, ?_⟩
            split at post
            · rename_i ρ2 q2
              rw [q2]
              intro σ3 w3 rel3 e3
              have r4 := rel_clear (k := k) rel3 hnf none i
              rw [List.set_set] at r4
              exact post _ w3 r4 ((ex.trans (e2 (Ext.refl _))).trans e3)
            · rename_i d2 ρ2 q2
              rw [q2]
              exact fun v3 w3 r3 e3 t3 => post v3 w3 r3 ((ex.trans (e2 (Ext.refl _))).trans e3) (t3.since (ex.trans (e2 (Ext.refl _))))
            · exact post.elim
          · subst hb'
            dsimp only at post
            refine post (.ref Ca) dx σ' w' sm (fun κ' z => ?_) ex ea0
            rcases hk with y | y
            · rw [y] at z
              cases z
            · rw [y] at z
              cases z
              exact rel1
end
end FN
set_option Elab.async false
set_option linter.all false
set_option maxRecDepth 100000
set_option maxHeartbeats 4000000
/-! FN13: texts, zip, defs as values, sorted. -/
namespace FN
open PySem PySem.Spec PyProof.Rows L2
/-! ### defs as values -/
def fTok : M D := fun ρ => some (.ok (.dict []) ρ)
def tokK (f : Addr) : Option Kind → Prop
  | some (.tok u) => u = .ref f
  | some (.fix _ (.tok u)) => u = .ref f
  | _ => False
def fCallL (i : Nat) (ms : List Md) (g : M D) (fr : M (List D)) : M D := fun ρ => match ρ[i]? with
  | some (some _) => fCall ms g fr ρ
  | _ => none
section
variable {X : Cx} {W : WX} {κ : List Kind} {pos p : Pos} {e : Expr} {es : List Expr} {fr : M (List D)} {ms : List Md} {ks : List Kind} {kr : Kind} {g : M D}
theorem fe_tok {x : Str} {f : Addr} (hm : X.mg x = some (.ref f)) (hg : Gl X x := by rfl) (hd : (x == ("__debug__" : Str)) = false := by decide) : FV X W κ (.t (.tok (.ref f))) (.Name x pos) fTok :=
  (pe_glob hg hm (v := .ref f) rfl hd).imp fun σ H Q h => by
    obtain ⟨ρ, w, rfl, rel, post⟩ := h
    exact post (.ref f) w rel (Ext.refl _) ⟨fun _ => False, ⟨rfl, rfl⟩, fun _ z => z.elim⟩
theorem tok_at {K : PySem.W.Frag} {F H : Hp} {σ : L2.St} {fp : FpS} {ρ : Env} {i : Nat} {d : D} {f : Addr} (h : Slots K F H κ ρ σ fp) (e : ρ[i]? = some (some d)) (hk : tokK f κ[i]?) : σ[i]? = some (some (.ref f)) := by
  unfold tokK at hk
  split at hk
  · rename_i u q
    obtain ⟨v, g, e1, o, _⟩ := h.get e q
    obtain ⟨rfl, _⟩ := o
    rw [e1, hk]
  · rename_i u0 u q
    obtain ⟨v, g, e1, o, _⟩ := h.get e q
    obtain ⟨rfl, _⟩ := o
    rw [e1, hk]
  · exact hk.elim
/-- a call of the def that slot i holds -/
theorem fe_fnL {k : Nat} {ps : List Str} {x y : Str} {f : Addr} {i : Nat} (G : Kn X.prog X.w X.K X.mg X.base CX0 k x ps (spF X.K X.mg ks kr (noErr g))) (hmf : X.mg x = some (.ref f)) (hki : tokK f κ[i]?) (hr : Room k X.A) (hf : Fits κ ms ks) (ha : FA X W κ ms (e :: es) fr)
    (hN : X.N[i]? = some y := by rfl) (hv : Vis X.env.scope y := by first | exact Or.inl rfl | exact Or.inr (Or.inl rfl) | exact Or.inr (Or.inr rfl)) (hdb : (y == ("__debug__" : Str)) = false := by decide) (hcd : (y == ("__classdict__" : Str)) = false := by decide)
    (he : starEach (e :: es) X.env = (false, eval e X.env) :: starEach es X.env := by rfl) (hpl : (backTo pos (starEach es X.env)).any (·.1) = false := by rfl) : FV X W κ (.t kr) (.Call (.Name y p) (e :: es) [] pos) (fCallL i ms (noErr g) fr) := by
  obtain ⟨f', fd, F, hm, hk, hb, _⟩ := G.ex
  rw [hmf] at hm
  cases hm
  refine (pe_callL (i := i) F hr hN hv hk hb .nil pass0 ha hdb hcd he hpl).imp fun σ H Q h => ?_
  obtain ⟨ρ, w, rfl, rel, post⟩ := h
  unfold fCallL at post
  split at post
  · rename_i d ed
    refine ⟨tok_at rel.slots ed hki, ?_⟩
    simp only [List.append_nil]
    exact ev_call (E := E0) hf (.inl fun _ _ _ _ => noErr_ne) ⟨ρ, w, rfl, rel, post⟩
  · exact post.elim
end
/-! ### str, split, join -/
section
variable {X : Cx} {W : WX} {κ : List Kind} {pos p apos : Pos} {a o : Expr} {fa fo : M D} {m mo : Md} {b k : Bool}
def dStr : D → Option D
  | .int i => if i.natAbs.log2 < 1920 then some (.str (toString i)) else none
  | .str x => some (.str x)
  | _ => none
theorem fe_strI (hg : Gl X "str") (hm : X.mg "str" = none) (ha : FV X W κ m a fa) (hs : starEach (a :: []) X.env = (false, eval a X.env) :: starEach [] X.env := by rfl) : FV X W κ (.t (.v b)) (.Call (.Name "str" p) [a] [] pos) (f1 m dStr fa) :=
  (pe_callTy (call_str_int.or SkE.call_str_str) hg hm PyProof.Rows.boot_str (pa_cons ha pa_nil hs) (by decide) (by decide) hs).imp fun σ H Q h => ev_c1 (fun ρ w w1 x dx vx z rel ext t ex ez post => by
    unfold dStr at ez
    split at ez
    · split at ez
      · rename_i hl
        cases ez
        exact .inl ⟨_, by rw [dp_int (rd_dp rel t ex)], hl, fin_imm post rel ext (.str _)⟩
      · cases ez
    · cases ez
      exact .inr ⟨_, by rw [dp_str (rd_dp rel t ex)], fin_imm post rel ext (.str _)⟩
    · cases ez) h
/-- a method of a text with one argument -/
def fM1 (m : Md) (op : Str → D → Option D) (fo fa : M D) : M D := fun ρ => bdo (fo ρ) fun x ρ1 => match x with
  | .str s => bdo (fa ρ1) fun y ρ2 => match rd m y ρ2 with
    | some y => (op s y).map fun z => .ok z ρ2
    | none => none
  | _ => none
theorem ev_m1 {c : Ct} {kr : Kind} {op : Str → D → Option D} {r : V → List V → Hp → VK → Prop} {σ : L2.St} {H : Hp} {Q : VK} {bo : Bool}
    (hr : ∀ ρ w w2 s y dy vy z, Rel c.K κ ρ σ w2 → Ext w w2 → TempM c.K m σ w w2 dy vy → rd m dy ρ = some y → op s y = some z → PostV c κ σ (.t kr) w Q (some (.ok z ρ)) → r (.str s) [vy] w2.H Q)
    (h : tV c κ (.t kr) (fM1 m op fo fa) σ H Q) : tM1 r (tV c κ (.t (.v bo)) fo) (tV c κ m fa) σ H Q := by
  obtain ⟨ρ, w, rfl, rel, post⟩ := h
  refine seqV (P := PostV c κ σ (.t kr) w Q) rel post (fun z => z) (fun n d ρ' z => z) fun dx ρ1 vx w1 rel1 e1 t1 post1 => ?_
  split at post1
  · rename_i s
    obtain rfl : vx = .str s := dp_str (Temp.rd t1).dp
    refine ⟨⟨s, rfl⟩, ?_⟩
    refine seqV (P := PostV c κ σ (.t kr) w Q) rel1 post1 (fun z => z) (fun n d ρ' z => z.since e1) fun dy ρ2 vy w2 rel2 e2 t2 post2 => ?_
    split at post2
    · rename_i y ey
      cases ez : op s y with
      | none =>
        rw [ez] at post2
        exact post2.elim
      | some z =>
        rw [ez] at post2
        exact hr ρ2 w w2 s y dy vy z rel2 (e1.trans e2) (t2.since e1) ey ez post2
    · exact post2.elim
  · exact post1.elim
theorem rds_strs {K : PySem.W.Frag} {F : Hp} : ∀ ys : List Str, RDs b K F (ys.map V.str) (ys.map PyData.str)
  | [] => .nil
  | y :: r => .cons (.str y) (rds_strs r)
def dSplit (s : Str) : D → Option D
  | .str t => if (t.length == 0) = false ∧ s.length + 2 ≤ sizeLine then some (.list ((Txt.split s t).map .str)) else none
  | _ => none
theorem fe_split {kd : Kind} (hd : newL b kd := by rfl) (ho : FV X W κ (.t (.v k)) o fo) (ha : FV X W κ m a fa) (hs : starEach [a] X.env = [(false, eval a X.env)] := by rfl) (hbase : attributeBase o "split" X.env (eval o X.env) = eval o X.env := by rfl) (hline : (apos.endLine == pos.line) = true := by rfl) :
    FV X W κ (.t kd) (.Call (.Attribute o "split" apos) [a] [] pos) (fM1 m dSplit fo fa) := (pe_split ho ha hs hbase hline).imp fun σ H Q h => ev_m1 (fun ρ w w2 s y dy vy z rel e t ey ez post => by
  unfold dSplit at ez
  split at ez
  · split at ez
    · rename_i hc
      cases ez
      exact ⟨_, _, rfl, by rw [dp_str (rd_dp rel t ey)], hc.1, hc.2, fun p' np => fin_lst (b := b) hd post rel e (rds_strs _) np⟩
    · cases ez
  · cases ez) h
/-- the texts of a list of data -/
def strsOf : List D → Option (List Str)
  | [] => some []
  | .str s :: r => (strsOf r).map fun l => s :: l
  | _ :: _ => none
theorem strsOf_rds {K : PySem.W.Frag} {H : Hp} : ∀ {ds : List D} {xs : List V} {ys : List Str}, DpAll K H xs ds → strsOf ds = some ys → xs = ys.map V.str
  | [], _, _, .nil, h => by
    cases h
    rfl
  | d :: ds, _, _, .cons (v := v) hd t, h => by
    cases d with
    | str s =>
      have h' : (strsOf ds).map (fun l => s :: l) = some _ := h
      cases q : strsOf ds with
      | none =>
        rw [q] at h'
        cases h'
      | some l =>
        rw [q] at h'
        cases h'
        rw [dp_str hd, strsOf_rds t q]
        rfl
    | _ => exact absurd (show (none : Option (List Str)) = some _ from h) (by intro z; cases z)
def dJoin (s : Str) : D → Option D
  | .list ds => match strsOf ds with
    | some ys => if (ys.map (·.length)).sum + ys.length * s.length ≤ 16777216 then some (.str (Txt.join s ys)) else none
    | none => none
  | .tuple ds => match strsOf ds with
    | some ys => if (ys.map (·.length)).sum + ys.length * s.length ≤ 16777216 then some (.str (Txt.join s ys)) else none
    | none => none
  | _ => none
theorem fe_join (ho : FV X W κ (.t (.v k)) o fo) (ha : FV X W κ m a fa) (hs : starEach [a] X.env = [(false, eval a X.env)] := by rfl) (hbase : attributeBase o "join" X.env (eval o X.env) = eval o X.env := by rfl) (hline : (apos.endLine == pos.line) = true := by rfl) :
    FV X W κ (.t (.v b)) (.Call (.Attribute o "join" apos) [a] [] pos) (fM1 m dJoin fo fa) := (pe_join ho ha hs hbase hline).imp fun σ H Q h => ev_m1 (fun ρ w w2 s y dy vy z rel e t ey ez post => by
  have dp := rd_dp rel t ey
  unfold dJoin at ez
  split at ez
  · split at ez
    · rename_i ys q
      split at ez
      · rename_i hc
        cases ez
        cases dp with
        | lst h1 h2 =>
          obtain rfl := strsOf_rds h2 q
          exact ⟨_, _, ys, rfl, rfl, .inl h1, hc, fin_imm post rel e (.str _)⟩
      · cases ez
    · cases ez
  · split at ez
    · rename_i ys q
      split at ez
      · rename_i hc
        cases ez
        cases dp with
        | tup h1 h2 =>
          obtain rfl := strsOf_rds h2 q
          exact ⟨_, _, ys, rfl, rfl, .inr h1, hc, fin_imm post rel e (.str _)⟩
      · cases ez
    · cases ez
  · cases ez) h
/-! ### sorted of ints -/
def intsOf : List D → Option (List Int)
  | [] => some []
  | .int s :: r => (intsOf r).map fun l => s :: l
  | _ :: _ => none
theorem intsOf_rds {K : PySem.W.Frag} {H : Hp} : ∀ {ds : List D} {xs : List V} {ys : List Int}, DpAll K H xs ds → intsOf ds = some ys → xs = ys.map V.int
  | [], _, _, .nil, h => by
    cases h
    rfl
  | d :: ds, _, _, .cons (v := v) hd t, h => by
    cases d with
    | int s =>
      have h' : (intsOf ds).map (fun l => s :: l) = some _ := h
      cases q : intsOf ds with
      | none =>
        rw [q] at h'
        cases h'
      | some l =>
        rw [q] at h'
        cases h'
        rw [dp_int hd, intsOf_rds t q]
        rfl
    | _ => exact absurd (show (none : Option (List Int)) = some _ from h) (by intro z; cases z)
end
/-! ### zip -/
def zipD (ds es : List D) : List D := (ds.zip es).map fun p => .tuple [p.1, p.2]
theorem zipD_get {ds es : List D} {i : Nat} {d : D} (h : (zipD ds es)[i]? = some d) : ∃ x y, ds[i]? = some x ∧ es[i]? = some y ∧ d = .tuple [x, y] := by
  unfold zipD at h
  rw [List.getElem?_map] at h
  cases q : (ds.zip es)[i]? with
  | none =>
    rw [q] at h
    cases h
  | some p =>
    rw [q] at h
    cases h
    obtain ⟨h1, h2⟩ := List.getElem?_zip_eq_some.mp q
    exact ⟨p.1, p.2, h1, h2, rfl⟩
theorem walk_zipL {b : Bool} {K : PySem.W.Frag} {F : Hp} {a c : Addr} {xs ys : List V} {ds es : List D} (hx : SqL K F a xs) (rx : RDs b K F xs ds) (hy : SqL K F c ys) (ry : RDs b K F ys es) : WalkD b K (Itz K a c) (zipD ds es) F := fun i H e => by
  have qx : SqL K H a xs := e.seq hx
  have qy : SqL K H c ys := e.seq hy
  refine ⟨fun l => ⟨xs, ys, qx, qy, ?_⟩, fun d ed => ?_⟩
  · rw [rx.length, ry.length]
    have l' : min ds.length es.length ≤ i := by simpa [zipD] using l
    omega
  · obtain ⟨x, y, ex, ey, rfl⟩ := zipD_get ed
    obtain ⟨vx, evx, rvx⟩ := rx.get ex
    obtain ⟨vy, evy, rvy⟩ := ry.get ey
    refine ⟨⟨xs, ys, vx, vy, qx, qy, evx, evy⟩, fun z H' h => ?_⟩
    obtain ⟨T, x', y', rfl, nT, rfl, h1, h2⟩ := h
    have e1 := h1 xs qx
    have e2 := h2 ys qy
    rw [evx] at e1
    rw [evy] at e2
    cases e1
    cases e2
    exact .inr ⟨T, _, _, nT, rfl, rfl, rfl, .cons rvx (.cons rvy .nil)⟩
theorem walk_zipT {b : Bool} {K : PySem.W.Frag} {F : Hp} {a c : Addr} {xs ys : List V} {ds es : List D} (hx : SqT K F a xs) (rx : RDs b K F xs ds) (hy : SqT K F c ys) (ry : RDs b K F ys es) : WalkD b K (RZ.ItzT K a c) (zipD ds es) F := fun i H e => by
  have qx : SqT K H a xs := sameT e hx
  have qy : SqT K H c ys := sameT e hy
  refine ⟨fun l => ⟨xs, ys, qx, qy, ?_⟩, fun d ed => ?_⟩
  · rw [rx.length, ry.length]
    have l' : min ds.length es.length ≤ i := by simpa [zipD] using l
    omega
  · obtain ⟨x, y, ex, ey, rfl⟩ := zipD_get ed
    obtain ⟨vx, evx, rvx⟩ := rx.get ex
    obtain ⟨vy, evy, rvy⟩ := ry.get ey
    refine ⟨⟨xs, ys, vx, vy, qx, qy, evx, evy⟩, fun z H' h => ?_⟩
    obtain ⟨T, x', y', rfl, nT, rfl, h1, h2⟩ := h
    have e1 := h1 xs qx
    have e2 := h2 ys qy
    rw [evx] at e1
    rw [evy] at e2
    cases e1
    cases e2
    exact .inr ⟨T, _, _, nT, rfl, rfl, rfl, .cons rvx (.cons rvy .nil)⟩
def iZip (fa fb : M D) : M (List D) := fun ρ => bdo (fa ρ) fun x ρ1 => bdo (fb ρ1) fun y ρ2 => match x, y with
  | .list ds, .list es => some (.ok (zipD ds es) ρ2)
  | .tuple ds, .tuple es => some (.ok (zipD ds es) ρ2)
  | _, _ => none
section
variable {X : Cx} {W : WX} {b : Bool} {κ : List Kind} {pos p tp : Pos} {e e2 : Expr} {fa fb : M D}
theorem fi_zip {elts : List Expr} {kk : Nat} (hg : Gl X "zip") (hm : X.mg "zip" = none) (ha : FV X W κ (.t (.v b)) e fa) (hb : FV X W κ (.t (.v b)) e2 fb) (hs1 : starEach (e :: [e2]) X.env = (false, eval e X.env) :: starEach [e2] X.env := by rfl) (hs2 : starEach (e2 :: []) X.env = (false, eval e2 X.env) :: starEach [] X.env := by rfl)
    (hpl : (backTo pos (starEach [e2] X.env)).any (·.1) = false := by rfl) : FI X W b κ (.Tuple elts kk tp) (.Call (.Name "zip" p) [e, e2] [] pos) (iZip fa fb) :=
  (RZ.pi_zipA hg hm (pa_cons ha (pa_cons hb pa_nil hs2) hs1) hs1 hpl).imp fun σ H R h => by
    obtain ⟨ρ, w, rfl, rel, post⟩ := h
    refine seqV (P := PostI (ctx X W) b κ σ w R) rel post (fun z => z) (fun n d ρ' z => z) fun dx ρ1 vx w1 rel1 e1 t1 post1 => ?_
    refine seqV (P := PostI (ctx X W) b κ σ w R) rel1 post1 (fun z => z) (fun n d ρ' z => z.since e1) fun dy ρ2 vy w2 rel2 e2 t2 post2 => ?_
    have rx := Temp.rd (t1.keep e2)
    have ry := Temp.rd t2
    split at post2
    · cases rx with
      | lst h1 r1 =>
        cases ry with
        | lst h2 r2 => exact ⟨_, _, _, _, rfl, .inl ⟨SqL.of (rel2.same _ _ h1), SqL.of (rel2.same _ _ h2), post2 w2 _ rel2 (e1.trans e2) (walk_zipL (SqL.of h1) r1 (SqL.of h2) r2)⟩⟩
    · have tup : ∀ {v : V} {ds : List D}, RD b X.K w2.F v (.tuple ds) → ∃ a xs, v = .ref a ∧ SqT X.K w2.F a xs ∧ RDs b X.K w2.F xs ds := fun r => by
        cases r with
        | tup h r => exact ⟨_, _, rfl, SqT.of h, r⟩
        | con _ h r => exact ⟨_, _, rfl, h, r⟩
      obtain ⟨a, xs, rfl, h1, r1⟩ := tup rx
      obtain ⟨c, ys, rfl, h2, r2⟩ := tup ry
      exact ⟨_, _, _, _, rfl, .inr ⟨sameT rel2.same h1, sameT rel2.same h2, post2 w2 _ rel2 (e1.trans e2) (walk_zipT h1 r1 h2 r2)⟩⟩
    · exact post2.elim
end
end FN
set_option Elab.async false
set_option linter.all false
set_option maxRecDepth 100000
set_option maxHeartbeats 4000000
/-! FN14: comprehensions of two clauses, as a statement; three names at once. -/
namespace FN
open PySem PySem.Spec PyProof.Rows L2
theorem wipeE_idem (us : List Nat) (ρ : Env) : wipeE (wipeE ρ us) us = wipeE ρ us := by
  have key : ∀ (us : List Nat) (v : Nat) (ρ : Env), wipeE (ρ.set v none) us = (wipeE ρ us).set v none := by
    intro us v
    induction us with
    | nil => intro ρ; rfl
    | cons u us ih =>
      intro ρ
      show (wipeE (ρ.set v none) us).set u none = ((wipeE ρ us).set u none).set v none
      rw [ih]
      by_cases huv : u = v
      · rw [huv]
      · rw [List.set_comm _ _ (Ne.symm huv)]
  induction us with
  | nil => rfl
  | cons u us ih =>
    show (wipeE ((wipeE ρ us).set u none) us).set u none = (wipeE ρ us).set u none
    rw [key, ih, List.set_set]
theorem compL_wipe {vs : List Nat} {ft : D → Env → Option Env} {tt : M Bool} {fe : M D} {ds acc : List D} {ρ : Env} : compL vs ft tt fe ds acc (wipeE ρ vs) = compL vs ft tt fe ds acc ρ := by
  cases ds with
  | nil => unfold compL; rw [wipeE_idem]
  | cons d ds => unfold compL; rw [wipeE_idem]
theorem wipe_wipe {σ : L2.St} {us vs : List Nat} (h : ∀ i ∈ us, i ∈ vs) : wipe (wipe σ us) vs = wipe σ vs := List.ext_getElem? fun i => by
  simp only [wipe_get, wipe_length]
  by_cases hm : i ∈ vs
  · simp only [hm, if_true]
  · have hu : i ∉ us := fun z => hm (h i z)
    simp only [hm, hu, if_false]
def compL2 (vs vs1 : List Nat) (ft : D → Env → Option Env) (tt : M Bool) (fi1 : M (List D)) (ft1 : D → Env → Option Env) (tt1 : M Bool) (fe : M D) : List D → List D → Env → Option (Out (List D))
  | [], acc, ρ => some (.ok acc (wipeE ρ vs))
  | d :: ds, acc, ρ => match ft d (wipeE ρ vs) with
    | some ρ1 => (match tt ρ1 with
      | some (.ok true ρ2) => (match fi1 ρ2 with
        | some (.ok ds1 ρ3) => (match compL vs1 ft1 tt1 fe ds1 acc ρ3 with
          | some (.ok acc' ρ4) => compL2 vs vs1 ft tt fi1 ft1 tt1 fe ds acc' (wipeE ρ4 vs)
          | _ => none)
        | _ => none)
      | some (.ok false ρ2) => compL2 vs vs1 ft tt fi1 ft1 tt1 fe ds acc (wipeE ρ2 vs)
      | _ => none)
    | none => none
def fLc2 (vs vs1 : List Nat) (fi : M (List D)) (ft : D → Env → Option Env) (tt : M Bool) (fi1 : M (List D)) (ft1 : D → Env → Option Env) (tt1 : M Bool) (fe : M D) : M D := fun ρ => bdo (fi ρ) fun ds ρ1 => bdo (compL2 vs vs1 ft tt fi1 ft1 tt1 fe ds [] ρ1) fun r ρ2 => some (.ok (.list r) ρ2)
theorem compL2_wipe {vs vs1 : List Nat} {ft : D → Env → Option Env} {tt : M Bool} {fi1 : M (List D)} {ft1 : D → Env → Option Env} {tt1 : M Bool} {fe : M D} {ds acc : List D} {ρ : Env} : compL2 vs vs1 ft tt fi1 ft1 tt1 fe ds acc (wipeE ρ vs) = compL2 vs vs1 ft tt fi1 ft1 tt1 fe ds acc ρ := by
  cases ds with
  | nil => unfold compL2; rw [wipeE_idem]
  | cons d ds => unfold compL2; rw [wipeE_idem]
section
variable {X : Cx} {W : WX} {C : FC} {b : Bool} {κ κ1 κn : List Kind} {pos p : Pos} {tg tg1 : Expr}
theorem ev_lc2 {kd : Kind} {vs vs1 sl sl1 : List Nat} {fi fi1 : M (List D)} {ft ft1 : D → Env → Option Env} {tt tt1 : M Bool} {fe : M D} {σ : L2.St} {H : Hp} {Q : VK} (hd : newL b kd) (hv : nfAt κ vs) (hv1 : nfAt κ vs1) (hs : ∀ i ∈ sl, i ∈ vs) (hs1 : ∀ i ∈ sl1, i ∈ vs1) (h1v : ∀ i ∈ vs1, i ∈ vs)
    (h : tV (ctx X W) κ (.t kd) (fLc2 vs vs1 fi ft tt fi1 ft1 tt1 fe) σ H Q) :
    tLc2 (tI (ctx X W) b κ fi) (tG (ctx X W0) b sl κ κ ft) (tT (ctx X W0) κ tt) (tI (ctx X W0) b κ fi1) (tG (ctx X W0) b sl1 κ κ ft1) (tT (ctx X W0) κ tt1) (tV (ctx X W0) κ (.t (.v b)) fe) vs vs1 σ H Q := by
  obtain ⟨ρ, w, rfl, rel, post⟩ := h
  refine seqI (P := PostV (ctx X W) κ σ (.t kd) w Q) rel post (fun z => z) (fun n d ρ' z => z) fun ds ρ1 w1 J rel1 e1 wk post1 => ?_
  intro L nL
  obtain ⟨w2, eH2, eF2, ef2, rel2, e2⟩ := world_own (o := .lst []) rel1 nL
  have t2 : Temp X.K (.lst (.v b)) w1 w2 (.list []) (.ref L) := ⟨fun x => x = L, ⟨L, [], [], fun _ => False, rfl, rfl, by rw [eH2, upd_same], rfl, fun z => z, fun _ z => z.elim, .nil⟩, fun x hx => by
    have hx' : x = L := hx
    rw [hx', ef2, eF2, eH2, upd_same]
    exact ⟨fun z => rel1.live L z nL, rel1.same.free nL, fun z => (nomatch z), .inr nL⟩⟩
  refine ⟨fun i m H => ∃ ρ wi acc, wi.H = H ∧ Rel X.K κ ρ (wipe σ vs) wi ∧ Ext w1 wi ∧ Temp X.K (.lst (.v b)) w1 wi (.list acc) (.ref L) ∧ m = ds.length - i ∧ PostV (ctx X W) κ σ (.t kd) w Q (bdo (compL2 vs vs1 ft tt fi1 ft1 tt1 fe (ds.drop i) acc ρ) fun r ρ2 => some (.ok (.list r) ρ2)), ⟨ds.length, wipeE ρ1 vs, w2, [], eH2, rel_wipe hv rel2, e2, t2, rfl, ?_⟩, ?_⟩
  · rw [List.drop_zero, compL2_wipe]
    exact post1
  rintro i m _ ⟨ρi, wi, acc, rfl, reli, ei, ti, rfl, posti⟩
  have wki := wk i wi.H (ei.same.trans reli.same)
  by_cases hi : i < ds.length
  · have ed : ds[i]? = some ds[i] := List.getElem?_eq_getElem hi
    rw [List.drop_eq_getElem_cons hi] at posti
    unfold compL2 at posti
    cases q : ft ds[i] (wipeE ρi vs) with
    | none =>
      rw [q] at posti
      exact posti.elim
    | some ρ3 =>
      rw [q] at posti
      dsimp only at posti
      refine .inr ⟨(wki.2 _ ed).1, fun H' => ∃ ρ wj acc, wj.H = H' ∧ Rel X.K κ ρ (wipe σ vs) wj ∧ Ext w1 wj ∧ Temp X.K (.lst (.v b)) w1 wj (.list acc) (.ref L) ∧ PostV (ctx X W) κ σ (.t kd) w Q (bdo (compL2 vs vs1 ft tt fi1 ft1 tt1 fe (ds.drop (i + 1)) acc ρ) fun r ρ2 => some (.ok (.list r) ρ2)), fun H' z => ?_, fun x H' y => ?_⟩
      · obtain ⟨ρ, wj, acc, z1, z2, z3, z4, z5⟩ := z
        exact ⟨ds.length - (i + 1), by omega, ρ, wj, acc, z1, z2, z3, z4, rfl, z5⟩
      · obtain ⟨w4, eH4, rel4, e4, r4⟩ := world_yield wk ei.same reli ed y
        subst eH4
        have relw : Rel X.K κ (wipeE ρi vs) (wipe σ vs) w4 := by
          have z := rel_wipe hv rel4
          rw [wipe_wipe fun _ z => z] at z
          exact z
        refine ⟨wipeE ρi vs, w4, ds[i], rfl, relw, r4, ?_⟩
        rw [q]
        intro σ5 w5 eH5 u5 rel5 e5
        have ew : wipe σ5 vs = wipe σ vs := wipe_upto u5 hs
        refine ⟨ew, ?_⟩
        have e15 := (ei.trans e4).trans e5
        have t5 := (ti.keep e4).keep e5
        refine ⟨ρ3, w5, rfl, rel5, ?_⟩
        cases qt : tt ρ3 with
        | none =>
          rw [qt] at posti
          exact posti.elim
        | some o =>
          rw [qt] at posti
          cases o with
          | err n d ρ' => exact posti.elim
          | ok bb ρ6 =>
            intro w6 rel6 e6
            have back : ∀ {ρ : Env} {w : Wd}, Rel X.K κ ρ σ5 w → Rel X.K κ (wipeE ρ vs) (wipe σ vs) w := fun r => by
              have z := rel_wipe hv r
              rw [ew] at z
              exact z
            cases bb with
            | false =>
              rw [if_neg Bool.false_ne_true]
              exact ⟨wipeE ρ6 vs, w6, acc, rfl, back rel6, e15.trans e6, t5.keep e6, posti⟩
            | true =>
              rw [if_pos rfl]
              dsimp only at posti
              refine ⟨ρ6, w6, rfl, rel6, ?_⟩
              cases qi : fi1 ρ6 with
              | none =>
                rw [qi] at posti
                exact posti.elim
              | some o1 =>
                rw [qi] at posti
                cases o1 with
                | err n d ρ' => exact posti.elim
                | ok ds1 ρ7 =>
                  dsimp only at posti
                  intro w7 J1 rel7 e7 wk1
                  let PN : Option (Out (List D)) → Prop := fun r => PostV (ctx X W) κ σ (.t kd) w Q (bdo (match r with | some (.ok acc' ρ4) => compL2 vs vs1 ft tt fi1 ft1 tt1 fe (ds.drop (i + 1)) acc' (wipeE ρ4 vs) | _ => none) fun r ρ2 => some (.ok (.list r) ρ2))
                  have posti' : PN (compL vs1 ft1 tt1 fe ds1 acc ρ7) := posti
                  refine ⟨fun j k H => ∃ ρ wj acc, wj.H = H ∧ Rel X.K κ ρ (wipe σ5 vs1) wj ∧ Ext w1 wj ∧ Same w7.F wj.F ∧ Temp X.K (.lst (.v b)) w1 wj (.list acc) (.ref L) ∧ k = ds1.length - j ∧ PN (compL vs1 ft1 tt1 fe (ds1.drop j) acc ρ), ⟨ds1.length, wipeE ρ7 vs1, w7, acc, rfl, rel_wipe hv1 rel7, (e15.trans e6).trans e7, Same.refl _, (t5.keep e6).keep e7, rfl, ?_⟩, ?_⟩
                  · rw [List.drop_zero, compL_wipe]
                    exact posti'
                  rintro j k _ ⟨ρj, wj, acc2, rfl, relj, ej, e7j, tj, rfl, postj⟩
                  have wkj := wk1 j wj.H (e7j.trans relj.same)
                  by_cases hj : j < ds1.length
                  · have edj : ds1[j]? = some ds1[j] := List.getElem?_eq_getElem hj
                    rw [List.drop_eq_getElem_cons hj] at postj
                    unfold compL at postj
                    cases qj : ft1 ds1[j] (wipeE ρj vs1) with
                    | none =>
                      rw [qj] at postj
                      exact (show False from postj).elim
                    | some ρ8 =>
                      rw [qj] at postj
                      dsimp only at postj
                      refine .inr ⟨(wkj.2 _ edj).1, fun H' => ∃ ρ wk acc, wk.H = H' ∧ Rel X.K κ ρ (wipe σ5 vs1) wk ∧ Ext w1 wk ∧ Same w7.F wk.F ∧ Temp X.K (.lst (.v b)) w1 wk (.list acc) (.ref L) ∧ PN (compL vs1 ft1 tt1 fe (ds1.drop (j + 1)) acc ρ), fun H' z => ?_, fun x1 H1 y1 => ?_⟩
                      · obtain ⟨ρ, wk, acc, z1, z2, z3, z3', z4, z5⟩ := z
                        exact ⟨ds1.length - (j + 1), by omega, ρ, wk, acc, z1, z2, z3, z3', z4, rfl, z5⟩
                      · obtain ⟨w9, eH9, rel9, e9, r9⟩ := world_yield wk1 e7j relj edj y1
                        subst eH9
                        have relw1 : Rel X.K κ (wipeE ρj vs1) (wipe σ5 vs1) w9 := by
                          have z := rel_wipe hv1 rel9
                          rw [wipe_wipe fun _ z => z] at z
                          exact z
                        refine ⟨wipeE ρj vs1, w9, ds1[j], rfl, relw1, r9, ?_⟩
                        rw [qj]
                        intro σa wa eHa ua rela ea
                        have ewa : wipe σa vs1 = wipe σ5 vs1 := wipe_upto ua hs1
                        refine ⟨ewa, ?_⟩
                        have e1a := (ej.trans e9).trans ea
                        have e7a := (e7j.trans e9.same).trans ea.same
                        have ta := (tj.keep e9).keep ea
                        refine ⟨ρ8, wa, rfl, rela, ?_⟩
                        have back1 : ∀ {ρ : Env} {w : Wd}, Rel X.K κ ρ σa w → Rel X.K κ (wipeE ρ vs1) (wipe σ5 vs1) w := fun r => by
                          have z := rel_wipe hv1 r
                          rw [ewa] at z
                          exact z
                        cases qt1 : tt1 ρ8 with
                        | none =>
                          rw [qt1] at postj
                          exact (show False from postj).elim
                        | some o2 =>
                          rw [qt1] at postj
                          cases o2 with
                          | err n d ρ' => exact (show False from postj).elim
                          | ok b2 ρb =>
                            intro wb relb eb
                            cases b2 with
                            | false =>
                              rw [if_neg Bool.false_ne_true]
                              exact ⟨wipeE ρb vs1, wb, acc2, rfl, back1 relb, e1a.trans eb, e7a.trans eb.same, ta.keep eb, postj⟩
                            | true =>
                              rw [if_pos rfl]
                              dsimp only at postj
                              refine ⟨ρb, wb, rfl, relb, ?_⟩
                              cases qe : fe ρb with
                              | none =>
                                rw [qe] at postj
                                exact (show False from postj).elim
                              | some o3 =>
                                rw [qe] at postj
                                cases o3 with
                                | err n d ρ' => exact (show False from postj).elim
                                | ok yd ρc =>
                                  dsimp only at postj
                                  intro yv wc relc ec tc
                                  split at postj
                                  · rename_i hl
                                    have tcL := (ta.keep eb).keep ec
                                    obtain ⟨g, ⟨a, vs', ds', g', ea', ed', eHa', _, _, _, od⟩, _⟩ := id tcL
                                    cases ea'
                                    cases ed'
                                    refine ⟨vs', eHa', by rw [(odl_rds od).length]; exact hl, ?_⟩
                                    obtain ⟨wd, eHd, eFd, reld, ed8, td⟩ := temp_app (back1 relc) ((e1a.trans eb).trans ec) nL tcL eHa' (Temp.rd tc)
                                    exact ⟨wipeE ρc vs1, wd, _, eHd, reld, ed8, by rw [eFd]; exact (e7a.trans eb.same).trans ec.same, td, postj⟩
                                  · exact (show False from postj).elim
                  · rw [List.drop_eq_nil_of_le (by omega)] at postj
                    unfold compL at postj
                    refine .inl ⟨wkj.1 (by omega), wipeE (wipeE ρj vs1) vs, wj, acc2, rfl, ?_, ej, tj, postj⟩
                    have z := rel_wipe hv (rel_wipe hv1 relj)
                    rw [wipe_wipe fun _ z => z, wipe_wipe h1v, ew] at z
                    exact z
  · rw [List.drop_eq_nil_of_le (by omega)] at posti
    exact .inl ⟨wki.1 (by omega), fin_temp hd posti (rel_unwipe rel1.fixed reli) (e1.trans ei) (ti.since e1)⟩
theorem fe_lc2 {kd : Kind} {elt iter iter1 : Expr} {ifs ifs1 : List Expr} {scope : Scope} {own : List (Str × Nat)} {vs1 sl sl1 : List Nat} {fi fi1 : M (List D)} {ft ft1 : D → Env → Option Env} {tt tt1 : M Bool} {fe : M D} (hd : newL b kd) (hc : X.calm = true) (hN : X.N.Nodup) (hi : FI X W b κ tg iter fi) (ok : BlkOk X.N X.env.scope scope own) (hv : nfAt κ (own.map (·.2))) (hv1 : nfAt κ vs1) (hs : ∀ i ∈ sl, i ∈ own.map (·.2)) (hs1 : ∀ i ∈ sl1, i ∈ vs1) (h1v : ∀ i ∈ vs1, i ∈ own.map (·.2))
    (hg : ∀ (s : Shared) (H : Hp) (A : Addr) (cl : List (Str × Addr)) (fp : List Addr), FG (X.blk s H scope (compEnvC scope cl A X.env) fp) W0 b sl κ κ tg ft) (ht : ∀ (s : Shared) (H : Hp) (A : Addr) (cl : List (Str × Addr)) (fp : List Addr), FTs (X.blk s H scope (compEnvC scope cl A X.env) fp) κ ifs tt)
    (hi1 : ∀ (s : Shared) (H : Hp) (A : Addr) (cl : List (Str × Addr)) (fp : List Addr), FI (X.blk s H scope (compEnvC scope cl A X.env) fp) W0 b κ tg1 iter1 fi1)
    (hg1 : ∀ (s : Shared) (H : Hp) (A : Addr) (cl : List (Str × Addr)) (fp : List Addr), FG (X.blk s H scope (compEnvC scope cl A X.env) fp) W0 b sl1 κ κ tg1 ft1) (ht1 : ∀ (s : Shared) (H : Hp) (A : Addr) (cl : List (Str × Addr)) (fp : List Addr), FTs (X.blk s H scope (compEnvC scope cl A X.env) fp) κ ifs1 tt1)
    (he : ∀ (s : Shared) (H : Hp) (A : Addr) (cl : List (Str × Addr)) (fp : List Addr), FV (X.blk s H scope (compEnvC scope cl A X.env) fp) W0 κ (.t (.v b)) elt fe) (hf : ∀ x, foldedSetIterable iter X.env x = pure x := by intro _; rfl) (hf1 : ∀ env x, foldedSetIterable iter1 env x = pure x := by intro _ _; rfl) :
    FV X W κ (.t kd) (.ListComp elt [⟨tg, iter, ifs, 0⟩, ⟨tg1, iter1, ifs1, 0⟩] scope pos) (fLc2 (own.map (·.2)) vs1 fi ft tt fi1 ft1 tt1 fe) :=
  (pe_lc2 (own := own) (vs1 := vs1) (g := tG (ctx X W0) b sl κ κ ft) (tt := tT (ctx X W0) κ tt) (wi1 := tI (ctx X W0) b κ fi1) (g1 := tG (ctx X W0) b sl1 κ κ ft1) (tt1 := tT (ctx X W0) κ tt1) (te := tV (ctx X W0) κ (.t (.v b)) fe) hc hN hi ok h1v hg (fun s H A cl fp => (ht s H A cl fp).h) hi1 hg1 (fun s H A cl fp => (ht1 s H A cl fp).h) he hf hf1).imp fun σ H Q h => ev_lc2 hd hv hv1 hs hs1 h1v h
/-! ### x = [.. for ..] -/
/-- what stands behind a store of slot i -/
theorem ev_setV {kd : Kind} {i : Nat} {fa : M D} {te : TE} {D' : Ends} {σ : L2.St} {H : Hp} (hi : ∀ σ H Q, tV (ctx X W) κ (.t kd) fa σ H Q → te σ H Q) (hl : i < κ.length) (hk : nofix kd) (he : EK C κ) (h : tS (ctx X W) C κ (κ.set i kd) (sSet i fa) D' σ H) : tAsg te (gName i) D' σ H := by
  obtain ⟨ρ, w, rfl, rel, post⟩ := h
  refine hi _ _ _ (seqV (P := PostS (ctx X W) C (κ.set i kd) D' w) rel post (fun z => z) (fun n d ρ' z => errS he z) fun d ρ1 v w1 rel1 e1 t1 post1 => ?_)
  obtain ⟨w2, eH, _, rel2, ex⟩ := rel_set rel1 t1 (by rw [← rel1.slots.lengths.1]; exact hl) (nofix_ne hk)
  show D'.nx (σ.set i (some v)) w1.H
  rw [← eH]
  exact post1 _ w2 rel2 (ex e1)
theorem fs_setLc {kd : Kind} {i : Nat} {y : Str} {py spos : Pos} {elt iter : Expr} {ifs : List Expr} {scope : Scope} {own : List (Str × Nat)} {sl : List Nat} {fi : M (List D)} {ft : D → Env → Option Env} {tt : M Bool} {fe : M D} (hd : newL b kd) (hc : X.calm = true) (hN : X.N.Nodup) (hyl : X.env.scope.names.lookup y = some .local) (hsw : swapsWith (.ListComp elt [⟨tg, iter, ifs, 0⟩] scope pos) (some (.Name y py)) spos.line X.env = pure true) (hi : FI X W b κ tg iter fi) (ok : BlkOk X.N X.env.scope scope own) (hv : nfAt κ (own.map (·.2))) (hs : ∀ i ∈ sl, i ∈ own.map (·.2))
    (hg : ∀ (s : Shared) (H : Hp) (A : Addr) (cl : List (Str × Addr)) (fp : List Addr), FG (X.blk s H scope (compEnvC scope cl A X.env) fp) W0 b sl κ κ tg ft) (ht : ∀ (s : Shared) (H : Hp) (A : Addr) (cl : List (Str × Addr)) (fp : List Addr), FTs (X.blk s H scope (compEnvC scope cl A X.env) fp) κ ifs tt)
    (he : ∀ (s : Shared) (H : Hp) (A : Addr) (cl : List (Str × Addr)) (fp : List Addr), FV (X.blk s H scope (compEnvC scope cl A X.env) fp) W0 κ (.t (.v b)) elt fe) (hy : X.N[i]? = some y := by rfl) (hk : κ[i]? = some kd := by rfl) (hn : nofix kd := by exact True.intro) (hE : EK C κ := by first | exact .inl rfl | exact .inr rfl) (hf : ∀ x, foldedSetIterable iter X.env x = pure x := by intro _; rfl) :
    FS X W C κ κ (.Assign [.Name y py] (.ListComp elt [⟨tg, iter, ifs, 0⟩] scope pos) spos) (sSet i (fLc (own.map (·.2)) fi ft tt fe)) := by
  have z := (ps_setLc (i := i) (own := own) (g := tG (ctx X W0) b sl κ κ ft) (tt := tT (ctx X W0) κ tt) (te := tV (ctx X W0) κ (.t (.v b)) fe) hc hN hy hyl hsw hi ok hg (fun s H A cl fp => (ht s H A cl fp).h) he hf).imp fun D' σ H h => ev_setV (κ := κ) (C := C) (kd := kd) (fun _ _ _ h => ev_lc hd hv hs h) (List.getElem?_eq_some_iff.mp hk).1 hn hE h
  rw [set_same hk] at z
  exact z
theorem fs_setLc2 {kd : Kind} {i : Nat} {y : Str} {py spos : Pos} {elt iter iter1 : Expr} {ifs ifs1 : List Expr} {scope : Scope} {own : List (Str × Nat)} {vs1 sl sl1 : List Nat} {fi fi1 : M (List D)} {ft ft1 : D → Env → Option Env} {tt tt1 : M Bool} {fe : M D} (hd : newL b kd) (hc : X.calm = true) (hN : X.N.Nodup) (hyl : X.env.scope.names.lookup y = some .local) (hsw : swapsWith (.ListComp elt [⟨tg, iter, ifs, 0⟩, ⟨tg1, iter1, ifs1, 0⟩] scope pos) (some (.Name y py)) spos.line X.env = pure true) (hi : FI X W b κ tg iter fi) (ok : BlkOk X.N X.env.scope scope own) (hv : nfAt κ (own.map (·.2))) (hv1 : nfAt κ vs1) (hs : ∀ i ∈ sl, i ∈ own.map (·.2)) (hs1 : ∀ i ∈ sl1, i ∈ vs1) (h1v : ∀ i ∈ vs1, i ∈ own.map (·.2))
    (hg : ∀ (s : Shared) (H : Hp) (A : Addr) (cl : List (Str × Addr)) (fp : List Addr), FG (X.blk s H scope (compEnvC scope cl A X.env) fp) W0 b sl κ κ tg ft) (ht : ∀ (s : Shared) (H : Hp) (A : Addr) (cl : List (Str × Addr)) (fp : List Addr), FTs (X.blk s H scope (compEnvC scope cl A X.env) fp) κ ifs tt)
    (hi1 : ∀ (s : Shared) (H : Hp) (A : Addr) (cl : List (Str × Addr)) (fp : List Addr), FI (X.blk s H scope (compEnvC scope cl A X.env) fp) W0 b κ tg1 iter1 fi1)
    (hg1 : ∀ (s : Shared) (H : Hp) (A : Addr) (cl : List (Str × Addr)) (fp : List Addr), FG (X.blk s H scope (compEnvC scope cl A X.env) fp) W0 b sl1 κ κ tg1 ft1) (ht1 : ∀ (s : Shared) (H : Hp) (A : Addr) (cl : List (Str × Addr)) (fp : List Addr), FTs (X.blk s H scope (compEnvC scope cl A X.env) fp) κ ifs1 tt1)
    (he : ∀ (s : Shared) (H : Hp) (A : Addr) (cl : List (Str × Addr)) (fp : List Addr), FV (X.blk s H scope (compEnvC scope cl A X.env) fp) W0 κ (.t (.v b)) elt fe) (hy : X.N[i]? = some y := by rfl) (hk : κ[i]? = some kd := by rfl) (hn : nofix kd := by exact True.intro) (hE : EK C κ := by first | exact .inl rfl | exact .inr rfl) (hf : ∀ x, foldedSetIterable iter X.env x = pure x := by intro _; rfl) (hf1 : ∀ env x, foldedSetIterable iter1 env x = pure x := by intro _ _; rfl) :
    FS X W C κ κ (.Assign [.Name y py] (.ListComp elt [⟨tg, iter, ifs, 0⟩, ⟨tg1, iter1, ifs1, 0⟩] scope pos) spos) (sSet i (fLc2 (own.map (·.2)) vs1 fi ft tt fi1 ft1 tt1 fe)) := by
  have z := (ps_setLc2 (i := i) (own := own) (vs1 := vs1) (g := tG (ctx X W0) b sl κ κ ft) (tt := tT (ctx X W0) κ tt) (wi1 := tI (ctx X W0) b κ fi1) (g1 := tG (ctx X W0) b sl1 κ κ ft1) (tt1 := tT (ctx X W0) κ tt1) (te := tV (ctx X W0) κ (.t (.v b)) fe) hc hN hy hyl hsw hi ok h1v hg (fun s H A cl fp => (ht s H A cl fp).h) hi1 hg1 (fun s H A cl fp => (ht1 s H A cl fp).h) he hf hf1).imp fun D' σ H h => ev_setV (κ := κ) (C := C) (kd := kd) (fun _ _ _ h => ev_lc2 hd hv hv1 hs hs1 h1v h) (List.getElem?_eq_some_iff.mp hk).1 hn hE h
  rw [set_same hk] at z
  exact z
end
/-! ### a, b, c = x, y, z -/
def sPar3 (i j l : Nat) (fr : M (List D)) : Env → Option Fl := fun ρ => bnd (fr ρ) Fl.err fun ds ρ1 => match ds with
  | [x, y, z] => some (.nx (((ρ1.set i (some x)).set j (some y)).set l (some z)))
  | _ => none
section
variable {X : Cx} {W : WX} {C : FC} {κ : List Kind} {pos : Pos}
theorem rel_put {K : PySem.W.Frag} {κ : List Kind} {ρ : Env} {σ : L2.St} {w : Wd} {F H : Hp} {g : FpS} (sl : Slots K F H κ ρ σ g) {i : Nat} {k : Kind} {d : D} {v : V} {f : FpS} (hi : i < κ.length) (o : OD K F H k v d f) (dj : ∀ a, f a → ¬ g a) : Slots K F H (κ.set i k) (ρ.set i (some d)) (σ.set i (some v)) (fun a => f a ∨ g a) := by
  have p := (sl.drop i).put (i := i) (by rw [← sl.lengths.1]; exact hi) o dj
  rw [List.set_set] at p
  exact p
theorem fs_parK3 {i j l : Nat} {k1 k2 k3 : Kind} {x y z : Str} {ea eb ec : Expr} {fr : M (List D)} {px py pz pt : Pos} {kt k2' pt2} (hc : X.calm = true) (hN : X.N.Nodup) (ha : FA X W κ [.t k1, .t k2, .t k3] [ea, eb, ec] fr) (h1 : κ[i]? = some k1 := by rfl) (h2 : κ[j]? = some k2 := by rfl) (h3 : κ[l]? = some k3 := by rfl) (hij : i ≠ j := by decide) (hil : i ≠ l := by decide) (hjl : j ≠ l := by decide) (hi : X.N[i]? = some x := by rfl) (hj : X.N[j]? = some y := by rfl) (hl : X.N[l]? = some z := by rfl)
    (hx : X.env.scope.names.lookup x = some .local := by rfl) (hy : X.env.scope.names.lookup y = some .local := by rfl) (hz : X.env.scope.names.lookup z = some .local := by rfl) (hn1 : nofix k1 := by exact True.intro) (hn2 : nofix k2 := by exact True.intro) (hn3 : nofix k3 := by exact True.intro) (he : EK C κ := by first | exact .inl rfl | exact .inr rfl)
    (hw : swappedStores [.Tuple [.Name x px, .Name y py, .Name z pz] kt pt] (.Tuple [ea, eb, ec] k2' pt2) X.env = pure (some [x, y, z]) := by rfl)
    (hs : swapsWithSole [.Tuple [.Name x px, .Name y py, .Name z pz] kt pt] (.Tuple [ea, eb, ec] k2' pt2) pos.line X.env = pure false := by rfl) : FS X W C κ κ (.Assign [.Tuple [.Name x px, .Name y py, .Name z pz] kt pt] (.Tuple [ea, eb, ec] k2' pt2) pos) (sPar3 i j l fr) := (ps_par3 hc hN hi hj hl hij hil hjl hx hy hz ha hw hs).imp fun D' σ H h => by
  obtain ⟨ρ, w, rfl, rel, post⟩ := h
  refine seqA (P := PostS (ctx X W) C κ D' w) rel post (fun z => z) (fun n d ρ' z => errS (κn := κ) he z) fun ds ρ1 vs w1 rel1 e1 a1 post1 => ?_
  obtain ⟨g, ar, cg⟩ := a1
  cases ar with
  | @t _ d1 v1 _ _ _ f1 g1 _ o1 ar dj1 a1 a2 =>
    cases ar with
    | @t _ d2 v2 _ _ _ f2 g2 _ o2 ar dj2 a3 a4 =>
      cases ar with
      | @t _ d3 v3 _ _ _ f3 g3 _ o3 ar dj3 a5 a6 =>
        cases ar
        refine ⟨v1, v2, v3, rfl, ?_⟩
        have p1 := rel_put (w := w1) rel1.slots (i := i) (List.getElem?_eq_some_iff.mp h1).1 o1 (fun a z => (cg a (a1 a z)).1)
        have p2 := rel_put (w := w1) p1 (i := j) (by rw [List.length_set]; exact (List.getElem?_eq_some_iff.mp h2).1) o2 (fun a z y => y.elim (fun y => dj1 a y (a3 a z)) (cg a (a2 a (a3 a z))).1)
        have p3 := rel_put (w := w1) p2 (i := l) (by rw [List.length_set, List.length_set]; exact (List.getElem?_eq_some_iff.mp h3).1) o3 (fun a z y => y.elim (fun y => dj2 a y (a5 a z)) fun y => y.elim (fun y => dj1 a y (a4 a (a5 a z))) (cg a (a2 a (a4 a (a5 a z)))).1)
        have ek : ((κ.set i k1).set j k2).set l k3 = κ := by
          rw [set_same h1, set_same h2, set_same h3]
        rw [ek] at p3
        have all : ∀ a, (f3 a ∨ f2 a ∨ f1 a ∨ w1.fp a) → w1.fp a ∨ g a := fun a z => by
          rcases z with z | z | z | z
          · exact .inr (a2 a (a4 a (a5 a z)))
          · exact .inr (a2 a (a3 a z))
          · exact .inr (a1 a z)
          · exact .inl z
        refine post1 _ ⟨w1.F, w1.H, fun a => f3 a ∨ f2 a ∨ f1 a ∨ w1.fp a⟩ ⟨rel1.same, fun a z => (all a z).elim (rel1.frz a) fun y => (cg a y).2.1, fun a z => (all a z).elim (rel1.live a) fun y => (cg a y).2.2.1, fun q u k z => ?_, p3⟩ ⟨e1.same, e1.new, e1.keep, fun a z => (all a z).elim (e1.fp a) fun y => (cg a y).2.2.2⟩
        have ne : ∀ {r : Nat} {kk : Kind}, κ[r]? = some kk → nofix kk → q ≠ r := fun hr hn e => by
          subst e
          rw [z] at hr
          cases hr
          exact hn.elim
        rw [List.getElem?_set_ne (Ne.symm (ne h3 hn3)), List.getElem?_set_ne (Ne.symm (ne h2 hn2)), List.getElem?_set_ne (Ne.symm (ne h1 hn1))]
        exact rel1.fixed q u k z
end
end FN
set_option Elab.async false
set_option linter.all false
set_option maxRecDepth 100000
set_option maxHeartbeats 4000000
/-! FN15: calls with keywords, defs that call themselves, text * n. -/
namespace FN
open PySem PySem.Spec PyProof.Rows L2
/-! ### a def whose mirror gives nothing -/
section
variable {P : Program} {w : World} {K : PySem.W.Frag} {mg : Str → Option Value} {base : Heap}
theorem kn_none {CX : CXT} {x : Str} {st : Stmt} {ps : List Str} {k : Nat} {ks : List Kind} {kr : Kind} {g : M D} (a : At K mg x st ps) (h : ∀ ρ, g ρ = none) : Kn P w K mg base CX k x ps (spF K mg ks kr g) := by
  obtain ⟨f, fd, F, hm, bd⟩ := a.ex
  have no : ∀ vs H Q E, ¬ spF K mg ks kr g vs H Q E := fun vs H Q E z => by
    obtain ⟨ρ, w, _, _, q⟩ := z
    rw [h ρ] at q
    exact q
  exact ⟨f, fd, ⟨fun vs H Q E z => (no _ _ _ _ z).elim, fun A outer s H args us vs Q E _ _ _ _ z => (no _ _ _ _ z).elim⟩, hm, F.kp, bd, fun_lk F⟩
/-! ### f(a = e, ..) -/
def permE (π : List Nat) (ρ : Env) : Env := π.map fun j => (ρ[j]?).join
def permL {α : Type} (d : α) (π : List Nat) (l : List α) : List α := π.map fun j => l.getD j d
/-- the mirror, its data in another order -/
def kwM (π : List Nat) (g : M D) : M D := fun ρ => match g (permE π ρ) with
  | some (.ok d _) => some (.ok d (ρ.map fun _ => none))
  | some (.err n d _) => some (.err n d (ρ.map fun _ => none))
  | none => none
/-- how a def binds keywords in the order ks -/
structure KwAt (K : PySem.W.Frag) (mg : Str → Option Value) (x : Str) (ps ks : List Str) (π : List Nat) : Prop where
  ex : ∃ (f : Addr) (fd : FuncData) (oc : Value) (od : Option Addr) (osl : Array (Option Value)), mg x = some (.ref f) ∧ K.lookup f = some ⟨oc, od, .func fd, osl⟩ ∧
    ∀ (s : Shared) (ws : List Value), ws.length = ks.length → BindsTo s fd ⟨[], ks.zip ws⟩ (ps.zip (permL .none π ws))
theorem kwAt_mk {x : Str} {st : Stmt} {ps ks : List Str} {π : List Nat} (a : At K mg x st ps)
    (h : ∀ (kV doc pm : Value) (an : Option Addr) (cdv ct : Value) (ws : List Value), ws.length = ks.length → bindArgs (PySem.W.fnOf x x (defArgs st) (defBody st) (defScope st) .none kV doc pm an cdv ct) ⟨[], ks.zip ws⟩ = pure (ps.zip (permL .none π ws))) : KwAt K mg x ps ks π := by
  obtain ⟨f, fd, F, hm, bd⟩ := a.ex
  obtain ⟨oc, od, kV, doc, pm, an, cdv, ct, osl, rfl, lk, hcd⟩ := F.ex
  exact ⟨f, _, oc, od, osl, hm, lk, fun s ws hw => .of_eq (h kV doc pm an cdv ct ws hw)⟩
end
def imms (n : Nat) : List Kind := List.replicate n (.v true)
section
variable {K : PySem.W.Frag} {mg : Str → Option Value}
theorem slots_imm {F H : Hp} : ∀ {n : Nat} {ρ : Env} {vs : List V} {fp : FpS}, Slots K F H (imms n) ρ (vs.map some) fp → ρ.length = n ∧ vs.length = n ∧ ∀ (i : Nat) d, ρ[i]? = some (some d) → ∃ v, vs[i]? = some v ∧ RD true K F v d := fun {n ρ vs fp} h => by
  have l := h.lengths
  have hn : (imms n).length = n := List.length_replicate ..
  rw [hn, List.length_map] at l
  refine ⟨by rw [l.2, ← l.1], l.1.symm, fun i d e => ?_⟩
  have hi : i < n := by
    have := (List.getElem?_eq_some_iff.mp e).1
    rw [l.2, ← l.1] at this
    exact this
  have hk : (imms n)[i]? = some (.v true) := by
    unfold imms
    rw [List.getElem?_replicate, if_pos hi]
  obtain ⟨v, f, e1, o, _⟩ := h.get e hk
  rw [List.getElem?_map] at e1
  cases q : vs[i]? with
  | none =>
    rw [q] at e1
    cases e1
  | some v' =>
    rw [q] at e1
    cases e1
    exact ⟨v, rfl, o⟩
theorem imm_slots {F H : Hp} {fp : FpS} : ∀ {n : Nat} {ρ : Env} {vs : List V}, ρ.length = n → vs.length = n → (∀ (i : Nat) d, ρ[i]? = some (some d) → ∃ v, vs[i]? = some v ∧ RD true K F v d) → Slots K F H (imms n) ρ (vs.map some) fp
  | 0, [], [], _, _, _ => .nil
  | n + 1, o :: ρ, v :: vs, h1, h2, h => by
    have r : Slots K F H (imms n) ρ (vs.map some) fp := imm_slots (by simpa using h1) (by simpa using h2) fun i d e => h (i + 1) d (by simpa using e)
    cases o with
    | none => exact .skip r
    | some d =>
      obtain ⟨v', e, rd⟩ := h 0 d rfl
      cases e
      exact .cons (f := fun _ => False) rd r (fun _ z => z.elim) (fun _ z => z.elim) fun _ z => z
  | 0, _ :: _, _, h, _, _ => by simp at h
  | 0, [], _ :: _, _, h, _ => by simp at h
  | n + 1, [], _, h, _, _ => by simp at h
  | n + 1, _ :: _, [], _, h, _ => by simp at h
theorem permL_get {α : Type} {d : α} {π : List Nat} {l : List α} {i : Nat} : (permL d π l)[i]? = (π[i]?).map fun j => l.getD j d := by
  unfold permL
  rw [List.getElem?_map]
/-- the promise in the keywords' order gives the promise in the parameters' -/
theorem kw_sp {kr : Kind} {g : M D} {n : Nat} {π : List Nat} {zs : List V} {H : Hp} {Q : VK} {E : XK} (hπ : π.length = n) (h : spF K mg (imms n) kr (kwM π g) zs H Q E) : spF K mg (imms n) kr g (permL .non π zs) H Q E := by
  obtain ⟨ρ, w, rfl, rel, post⟩ := h
  obtain ⟨l1, l2, rd⟩ := slots_imm rel.slots
  have nofx : ∀ (i : Nat) (u : V) (k : Kind), (imms n)[i]? ≠ some (.fix u k) := fun i u k z => by
    unfold imms at z
    rw [List.getElem?_replicate] at z
    split at z
    · cases z
    · cases z
  have sl : ∀ {F H : Hp} {fp : FpS}, (∀ (i : Nat) d, ρ[i]? = some (some d) → ∃ v, zs[i]? = some v ∧ RD true K F v d) → Slots K F H (imms n) (permE π ρ) ((permL V.non π zs).map some) fp := fun {F H fp} rd => by
    refine imm_slots (by unfold permE; rw [List.length_map, hπ]) (by unfold permL; rw [List.length_map, hπ]) fun i d e => ?_
    unfold permE at e
    rw [List.getElem?_map] at e
    rw [permL_get]
    cases q : π[i]? with
    | none =>
      rw [q] at e
      cases e
    | some j =>
      rw [q] at e
      have e' : (ρ[j]?).join = some d := by simpa using e
      obtain ⟨v, ev, r⟩ := rd j d (join_some e')
      refine ⟨v, ?_, r⟩
      show some (zs.getD j V.non) = some v
      rw [List.getD_eq_getElem?_getD, ev]
      rfl
  have back : ∀ {w' : Wd} {ρ' : Env}, Rel K (imms n) ρ' ((permL V.non π zs).map some) w' → Rel K (imms n) (ρ.map fun _ => none) (zs.map some) w' := fun {w' ρ'} r => by
    refine ⟨r.same, r.frz, r.live, fun i u k z => absurd z (nofx i u k), imm_slots (by rw [List.length_map, l1]) l2 fun i d e => ?_⟩
    rw [List.getElem?_map] at e
    cases q : ρ[i]? with
    | none =>
      rw [q] at e
      cases e
    | some o =>
      rw [q] at e
      cases e
  refine ⟨permE π ρ, w, rfl, ⟨rel.same, rel.frz, rel.live, fun i u k z => absurd z (nofx i u k), sl rd⟩, ?_⟩
  unfold kwM at post
  cases q : g (permE π ρ) with
  | none =>
    rw [q] at post
    exact post
  | some o =>
    rw [q] at post
    cases o with
    | ok d ρ' => exact fun v w' r e t => post v w' (back r) e t
    | err nm d ρ' => exact fun cls dx w' s e ea => post cls dx w' s e ea
end
section
variable {X : Cx} {W : WX} {κ : List Kind} {pos p kpos : Pos} {e : Expr} {kws : List Keyword} {fr : M (List D)} {ms : List Md} {m : Md} {fa : M D} {kr : Kind} {g : M D}
def FKw (X : Cx) (W : WX) (κ : List Kind) (ms : List Md) (kws : List Keyword) (fr : M (List D)) : Prop := PK X kws (tA (ctx X W) κ ms fr)
theorem _root_.L2.PK.imp {X : Cx} {e : List Keyword} {t t' : TA} (h : PK X e t) (i : ∀ σ H Q, t' σ H Q → t σ H Q) : PK X e t' := ⟨fun pos pins s σ H Q I q => h.run pos pins s σ H Q I (i σ H Q q)⟩
theorem fk_nil : FKw X W κ [] [] aNil := pk_nil.imp fun σ H Q h => by
  obtain ⟨ρ, w, rfl, rel, post⟩ := h
  exact post [] w rel (Ext.refl _) ⟨fun _ => False, .nil, fun _ z => z.elim⟩
theorem fk_cons {nm : Option Str} (ha : FV X W κ m e fa) (hr : FKw X W κ ms kws fr) : FKw X W κ (m :: ms) (⟨nm, e, kpos⟩ :: kws) (aCons fa fr) := (pk_cons ha hr).imp fun σ H Q h => by
  obtain ⟨ρ, w, rfl, rel, post⟩ := h
  refine seqV (P := PostA (ctx X W) κ σ (m :: ms) w Q) rel post (fun z => z) (fun n d ρ' z => z) fun d ρ1 v w1 rel1 e1 t1 post1 => ?_
  refine seqA (P := PostA (ctx X W) κ σ (m :: ms) w Q) rel1 post1 (fun z => z) (fun n d ρ' z => ErrOk.since z e1) fun ds ρ2 vs w2 rel2 e2 a2 post2 => ?_
  exact post2 (v :: vs) w2 rel2 (e1.trans e2) (args_cons e1 e2 t1 a2)
theorem noErr_kwM {π : List Nat} {g : M D} : ∀ ρ n d ρ', kwM π (noErr g) ρ ≠ some (.err n d ρ') := fun ρ n d ρ' z => by
  unfold kwM at z
  split at z
  · cases z
  · rename_i q
    exact noErr_ne q
  · cases z
theorem permL_vals {zs : List V} {ws : List Value} (r : Vals zs ws) : ∀ π : List Nat, Vals (permL V.non π zs) (permL Value.none π ws)
  | [] => .nil
  | j :: π => by
    have h : RelV (zs.getD j V.non) (ws.getD j Value.none) := by
      rw [List.getD_eq_getElem?_getD, List.getD_eq_getElem?_getD]
      cases q : zs[j]? with
      | none =>
        have hl : ws[j]? = none := by
          rw [List.getElem?_eq_none_iff] at q ⊢
          rw [← Paired.length r]
          exact q
        rw [hl]
        rfl
      | some v =>
        obtain ⟨u, e, rv⟩ := r.get q
        rw [e]
        exact rv
    exact .cons h (permL_vals r π)
theorem kw_call {CX : CXT} {k n : Nat} {x : Str} {ps ks : List Str} {π : List Nat} {E : L2.St → XK} (G : Kn X.prog X.w X.K X.mg X.base CX k x ps (spF X.K X.mg (imms n) kr g)) (KW : KwAt X.K X.mg x ps ks π) (hx : ∀ σ, PassesAt CX X σ (E σ)) (hr : Room k X.A) (hf : Fits κ ms (imms n)) (hn : π.length = n) (hks : ks.length = n) (ha : FKw X W κ ms kws fr)
    (hE : (∀ ρ n d ρ', kwM π g ρ ≠ some (.err n d ρ')) ∨ ∀ σ cls dx H, W cls dx σ H → E σ cls dx H) (hg : Gl X x) (hdb : (x == ("__debug__" : Str)) = false)
    (hall : (backToKw pos (keywordEach kws X.env)).all (·.1.isSome) = true) (hk : (backToKw pos (keywordEach kws X.env)).filterMap (·.1) = ks) (hpl : ((backTo pos (starEach [] X.env)).any (·.1) || (backToKw pos (keywordEach kws X.env)).any (·.1.isNone)) = false) :
    FV X W κ (.t kr) (.Call (.Name x p) [] kws pos) (fCall ms (kwM π g) fr) := by
  obtain ⟨f, fd, F, hm, hkp, _, oc, od, osl, lk⟩ := G.ex
  obtain ⟨f', fd', oc', od', osl', hm', lk', hb⟩ := KW.ex
  rw [hm] at hm'
  cases hm'
  rw [lk] at lk'
  cases lk'
  refine ⟨fun pins s σ H Q I h => ?_⟩
  have q : tA (ctx X W) κ ms fr σ H (fun zs H1 => spF X.K X.mg (imms n) kr (kwM π g) zs H1 Q (E σ)) := ev_call hf (hE.imp id fun z => z σ) h
  refine wpAny_Call_Name_kw (ld_glob I hg hm ?_ hdb)
  refine PySem.W.callWith_KW0 (h₀ := X.base) I.ok.mod.kin hkp hall (thn (ha.run pos pins s σ H _ I q) fun ws s2 hh => ?_) hpl
  obtain ⟨zs, H2, I2, rz, q2⟩ := hh
  refine ⟨I2.kIn, ?_⟩
  rw [hk]
  have hs := kw_sp hn q2
  have lz : zs.length = n := by
    obtain ⟨ρ, w, _, rel, _⟩ := q2
    exact (slots_imm rel.slots).2.1
  have lw : ws.length = ks.length := by rw [← Paired.length rz, lz, hks]
  have rg : Vals (permL V.non π zs) (permL Value.none π ws) := permL_vals rz π
  refine wpAny_call (codeAny_mono (F.run X.A X.stack s2 H2 ⟨[], ks.zip ws⟩ (permL .none π ws) (permL .non π zs) Q (E σ) hr I2.env0 (hb s2 ws lw) rg hs) fun r s' hq => ?_)
  cases r with
  | error er => exact hx σ pins H2 s2 er s' I2 hq
  | ok fl =>
    cases fl with
    | ret u => exact I2.after hq
    | next => exact False.elim hq
    | brk => exact False.elim hq
    | cont => exact False.elim hq
theorem fe_fnK {k n : Nat} {x : Str} {ps ks : List Str} {π : List Nat} (G : Kn X.prog X.w X.K X.mg X.base CX0 k x ps (spF X.K X.mg (imms n) kr (noErr g))) (KW : KwAt X.K X.mg x ps ks π) (hr : Room k X.A) (hf : Fits κ ms (imms n)) (ha : FKw X W κ ms kws fr) (hn : π.length = n := by rfl) (hks : ks.length = n := by rfl) (hg : Gl X x := by rfl) (hdb : (x == ("__debug__" : Str)) = false := by decide)
    (hall : (backToKw pos (keywordEach kws X.env)).all (·.1.isSome) = true := by rfl) (hk : (backToKw pos (keywordEach kws X.env)).filterMap (·.1) = ks := by rfl) (hpl : ((backTo pos (starEach [] X.env)).any (·.1) || (backToKw pos (keywordEach kws X.env)).any (·.1.isNone)) = false := by rfl) :
    FV X W κ (.t kr) (.Call (.Name x p) [] kws pos) (fCall ms (kwM π (noErr g)) fr) := kw_call (E := fun _ => E0) G KW (fun _ _ _ _ _ _ _ z => z.elim) hr hf hn hks ha (.inl noErr_kwM) hg hdb hall hk hpl
theorem fe_fnKX {k n : Nat} {x : Str} {ps ks : List Str} {π : List Nat} (G : Kn X.prog X.w X.K X.mg X.base (L2.CX X.prog X.w) k x ps (spF X.K X.mg (imms n) kr g)) (KW : KwAt X.K X.mg x ps ks π) (tk : Takes X W) (hr : Room k X.A) (hf : Fits κ ms (imms n)) (ha : FKw X W κ ms kws fr) (hn : π.length = n := by rfl) (hks : ks.length = n := by rfl) (hg : Gl X x := by rfl) (hdb : (x == ("__debug__" : Str)) = false := by decide)
    (hall : (backToKw pos (keywordEach kws X.env)).all (·.1.isSome) = true := by rfl) (hk : (backToKw pos (keywordEach kws X.env)).filterMap (·.1) = ks := by rfl) (hpl : ((backTo pos (starEach [] X.env)).any (·.1) || (backToKw pos (keywordEach kws X.env)).any (·.1.isNone)) = false := by rfl) :
    FV X W κ (.t kr) (.Call (.Name x p) [] kws pos) (fCall ms (kwM π g) fr) := kw_call (E := fun σ => WE W σ) G KW (fun σ => passAt tk σ) hr hf hn hks ha (.inr fun _ _ _ _ z => z) hg hdb hall hk hpl
end
/-! ### text * n -/
section
variable {X : Cx} {W : WX} {κ : List Kind} {pos : Pos} {a b : Expr} {fa fb : M D} {ma mb : Md} {k : Bool}
def rMulS : R2 := fun x y H Q => ∃ s n, x = .str s ∧ y = .int n ∧ MulOk s n ∧ Q (.str (Txt.mul s n)) H
theorem op_mulS : OpR X (binaryOp .Mult) rMulS := by
  intro pins s σ H x y v u Q I rx ry h
  obtain ⟨i, j, rfl, rfl, hz, q⟩ := h
  obtain ⟨t, rfl⟩ := rx
  obtain ⟨t', rfl⟩ := ry
  exact SB.mul hz fun t2 tk => ⟨.str _, H, I.tok _, ⟨_, rfl⟩, q⟩
def dMulS : D → D → Option D
  | .str s, .int n => if 1 ≤ n ∧ n ≤ 1000 ∧ s.length ≤ 1000 then some (.str (Txt.mul s n)) else none
  | _, _ => none
theorem mulOk_small {s : Str} {n : Int} (h1 : 1 ≤ n) (h2 : n ≤ 1000) (h3 : s.length ≤ 1000) : MulOk s n := by
  refine ⟨?_, fun _ _ => ?_, fun _ _ => ?_⟩
  · rw [Bool.or_eq_false_iff]
    exact ⟨decide_eq_false (by omega), decide_eq_false (by omega)⟩
  · have h4 : (1000 : Int) ≤ (2 ^ 63 - 1) / n := by
      rw [Int.le_ediv_iff_mul_le (by omega)]
      omega
    omega
  · show decide (s.length * n.toNat > sizeLine) = false
    refine decide_eq_false ?_
    have h4 : s.length * n.toNat ≤ 1000 * 1000 := Nat.mul_le_mul h3 (by omega)
    rw [sizeLine_eq]
    omega
theorem s_mulS {K : PySem.W.Frag} : Sc K rMulS dMulS := by
  intro x y dx dy z H Q hx hy ho q
  unfold dMulS at ho
  split at ho
  · split at ho
    · rename_i c
      cases ho
      exact ⟨_, _, dp_str hx, dp_int hy, mulOk_small c.1 c.2.1 c.2.2, q _ fun b F => .str _⟩
    · cases ho
  · cases ho
end
end FN
set_option Elab.async false
set_option linter.all false
set_option maxRecDepth 100000
set_option maxHeartbeats 4000000
/-! FN16: isinstance of a caught error that has its dict. -/
namespace PySem.W
open PySem PySem.Spec PySem.Calls PyProof.Rows
section
variable {prog : Program} {w : World} {A : Around} {E : Value → Shared → Prop} {s : Shared} {K : Frag} {x D : Addr} {ox : Obj} {od : Option Obj}
theorem fn_dataD {C : Addr} {name : Str} {a g : Value} (hc : (clsIn K C).isSome = true) (ha : findIn K (.ref C) name = some (some a)) (hg : specialIn K a "__get__" = some (some g)) (ht : takesIn K a = some true) : findObj K C od name = some (.bind g a) := by
  obtain ⟨cd, q⟩ := Option.isSome_iff_exists.mp hc
  unfold findObj; rw [q, Option.bind_some, ha, Option.bind_some]
  simp [hg, ht]
theorem fn_class {Q : Option Value → Shared → Prop} (C : L2.ExcC K D) (X : K.In s.heap) (I : InstAt s.heap x ox D od) (h : Q (some (.ref D)) { s with toks := s.toks + 1 }) : wpAny (model prog w) A (getAttr? (.ref x) "__class__") Q E s := by
  have hf : findObj K D od "__class__" = some (.bind (.builtin "getset_descriptor.__get__") (.builtin "object.__class__")) := fn_dataD (by obtain ⟨cd, hc, _⟩ := any_some C.hd; rw [hc]; rfl) C.ha C.hn C.ht
  obtain ⟨hp, g, d, t, os⟩ := s
  have T0 := I.type (M := model prog w); have T1 := looks_findIn (M := model prog w) X C.hg
  have T2 := looks_findIn (M := model prog w) X C.hk; have T3 := looks_find (M := model prog w) X I hf
  have below : Looks (model prog w) hp (isInstance (.ref x) (.type "BaseException")) true := T0.andThen (looks_subIn X C.hs)
  have n2 : (Value.builtin "BaseException.__getattribute__" == Value.builtin "object.__getattribute__") = false := by decide +kernel
  have n1 : (onTheHeap (Value.ref D) && Value.builtin "BaseException.__getattribute__" == Value.builtin "object.__getattribute__") = false := by rw [n2]; rfl
  have n0 : (false && onTheHeap (Value.builtin "BaseException.__getattribute__")) = false := rfl
  unfold getAttr? getAttrBy? getAttrBy; refine wpAny_bind (wpAny_mkText (wpAny_bind (wpAny_attempt (wpAny_holding (wpAny_bind (T0.at (wpAny_bind (T1.at ?_))))))))
  show wpAny _ _ (if (onTheHeap (Value.ref D) && Value.builtin "BaseException.__getattribute__" == Value.builtin "object.__getattribute__") = true then _ else _) _ _ _
  rw [n1, if_neg Bool.false_ne_true]; unfold getAttrByItsOwn hookBefore; refine wpAny_bind ?_
  rw [if_pos (show onTheHeap (Value.ref D) = true from rfl)]; refine T2.at ?_
  refine wpAny_bind (wpAny_attempt (wpAny_holding ?_)); unfold callGetattribute; rw [n0, if_neg Bool.false_ne_true]; unfold boundAndCalled
  rw [PySem.F.excAttr_ValueError.ga.bind (.ref x)]; refine wpAny_bind (wpAny_pure ?_)
  show wpAny _ _ (call (.builtin "BaseException.__getattribute__") [.ref x, .str "__class__" t]) _ _ _
  refine wpAny_call (codeAny_call_builtin PySem.F.excAttr_ValueError.ga.plain PySem.F.entry_bexc_ga ?_); refine @check_slot (model prog w) _ _ ⟨hp, g, d, t + 1, os⟩ "BaseException.__getattribute__" "BaseException" "__getattribute__" (.ref x) [.str "__class__" t] [] _ (by decide +kernel) (by decide +kernel) below (PySem.F.args_bexc_ga (.ref x) (.str "__class__" t)) ?_
  unfold Builtin.«object.__getattribute__»; refine wpAny_bind (wpAny_of_eq (a := ((Value.ref x : Value), [Value.str "__class__" t])) (by first | rfl | (simp only [slotArgs]; rfl)) ?_)
  refine wpAny_bind (wpAny_pure (wpAny_bind (T0.at (wpAny_bind (T3.at ?_)))))
  show wpAny _ _ (holding [Value.builtin "object.__class__"] (call (.builtin "getset_descriptor.__get__") [.builtin "object.__class__", .ref x, .ref D]) >>= ret) _ _ _
  refine wpAny_bind (wpAny_holding (wpAny_call (class_get (s := ⟨hp, g, d, t + 1, os⟩) (ox := ox) (od := od) X I C.hm ?_)))
  refine wpAny_pure ?_; show wpAny _ _ (handedOut (.ref D)) _ _ _; rw [handedOut_of (v := .ref D) rfl]
  first | exact wpAny_pure (wpAny_pure h) | exact wpAny_pure h | exact wpAny_pure (wpAny_bind (wpAny_pure (wpAny_pure h)))
theorem fn_kitx (C : L2.ExcC K D) : KitX K (.ref x) (.ref D) (fun h => InstAt h x ox D od) where
  ty := fun _ _ _ I => I.type
  it := fun _ _ X _ => by
    obtain ⟨cdD, q, _⟩ := any_some C.hd
    unfold clsIn at q; split at q
    · rename_i c' d' cd' sl' ho
      intro A' Q' E' s' k q2; unfold isType loadHead; exact wpAny_bind (wpAny_loadPart (k _ _ (X _ _ ho)) (wpAny_pure q2))
    · cases q
  ne := fun h tp dd its n sl X htp => by
    obtain ⟨cdD, q, _⟩ := any_some C.hd
    refine Bool.eq_false_iff.mpr fun q3 => ?_
    have e : D = tp := Value.ref.inj (beq_iff_eq.mp q3)
    subst e; unfold clsIn at q; split at q
    · rename_i c' d' cd' sl' ho
      have z := (X _ _ ho).symm.trans htp
      cases z
    · cases q
  ca := fun X I k => fn_class C X I k
end
end PySem.W
namespace FN
open PySem PySem.Spec PyProof.Rows L2
/-- isinstance(e, S), e the error that the suite holds -/
theorem call_isD {X : Cx} {a : Addr} {oe : Obj} {dx : Addr} {cls : Value} {pn : List (Addr × Obj)} (hz : Zc cls (some dx) oe) (hf : ∃ vs, oe.data = .fields vs) : CallR (X.suite a ((a, oe) :: pn)) (.builtin "isinstance") (fun xs H Q => ∃ (Ca : Addr) (fs : List (Str × V)) (c : V) (cv : Value) (b : Bool), xs = [.ref a, c] ∧ cls = .ref Ca ∧ ExcC X.K Ca ∧ H dx = some (.xd fs) ∧ (∀ u, RelV c u → u = cv) ∧ PySem.W.kitOne X.K (.ref Ca) cv = some b ∧ Q (.bl b) H) := by
  intro pins s σ H xs us Q I r h
  obtain ⟨Ca, fs, c, cv, b, rfl, rfl, C, hx, hcv, e, q⟩ := h
  cases r with
  | cons rx rr =>
    cases rr with
    | cons rt rr =>
      cases rr
      cases rx
      have ec := hcv _ rt
      subst ec
      obtain ⟨hget, _⟩ := I.pin (a, oe) (List.mem_append.mpr (.inl List.mem_cons_self))
      obtain ⟨vs, hv⟩ := hf
      have hx' : ObjOk X.prog X.w H s.heap dx (.xd fs) := I.hok dx _ hx
      obtain ⟨mA, hns, hr⟩ := hx'
      obtain ⟨od, ho, _⟩ := lookIn_ns hns
      have J : PySem.W.InstAt s.heap a oe Ca (some od) := ⟨hget, hz.1, by unfold PySem.W.notCls; rw [hv] <;> rfl, by rw [hz.2]; exact ho⟩
      exact PySem.W.kia_one (PySem.W.fn_kitx C) I.kIn J e (fun z => nomatch z) fun tk => ⟨.bl b, H, I.kept (t' := tk) fun _ _ z => z, rfl, q⟩
/-- the classes whose errors isinstance finds below S -/
def RE (K : PySem.W.Frag) (Cs : Addr) : Addr → Prop := fun C => ExcC K C ∧ PySem.W.kitOne K (.ref C) (.ref Cs) = some true
def fIsX (i : Nat) : M D := fun ρ => match ρ[i]? with
  | some (some (.dict [(.none, _)])) => some (.ok (.bool true) ρ)
  | _ => none
theorem fe_isX {X : Cx} {W : WX} {κ : List Kind} {b : Bool} {a dx Cs : Addr} {cls : Value} {oe : Obj} {pn : List (Addr × Obj)} {x S : Str} {i : Nat} {p p1 p2 pos : Pos} (hz : Zc cls (some dx) oe) (hf : ∃ vs, oe.data = .fields vs) (hg : Gl X "isinstance") (hm : X.mg "isinstance" = none) (hgS : Gl X S) (hmS : X.mg S = some (.ref Cs)) (hk : κ[i]? = some (.exc a dx cls (RE X.K Cs)) := by rfl) (hN : X.N[i]? = some x := by rfl) (hv : Vis X.env.scope x := by first | exact Or.inl rfl | exact Or.inr (Or.inl rfl) | exact Or.inr (Or.inr rfl))
    (hd : (x == ("__debug__" : Str)) = false := by decide) (hcd : (x == ("__classdict__" : Str)) = false := by decide) (hd2 : (S == ("__debug__" : Str)) = false := by decide) (hs1 : starEach (.Name x p1 :: [.Name S p2]) X.env = (false, eval (.Name x p1) X.env) :: starEach [.Name S p2] X.env := by rfl) (hs2 : starEach (.Name S p2 :: []) X.env = (false, eval (.Name S p2) X.env) :: starEach [] X.env := by rfl) (hpl : (backTo pos (starEach [.Name S p2] X.env)).any (·.1) = false := by rfl) :
    FV (X.suite a ((a, oe) :: pn)) W κ (.t (.v b)) (.Call (.Name "isinstance" p) [.Name x p1, .Name S p2] [] pos) (fIsX i) :=
  (pe_callB (X := X.suite a ((a, oe) :: pn)) (call_isD hz hf) hg hm boot_isinstance (pa_cons (pe_var (X := X.suite a ((a, oe) :: pn)) hN hv hd hcd) (pa_cons (pe_glob (X := X.suite a ((a, oe) :: pn)) (v := .ref Cs) hgS hmS rfl hd2) pa_nil hs2) hs1) (by decide) (by decide) hs1 hpl).imp fun σ H Q h => by
    obtain ⟨ρ, w, rfl, rel, post⟩ := h
    unfold fIsX at post
    split at post
    · rename_i d ed
      obtain ⟨v, f, e1, o, _⟩ := rel.slots.get ed hk
      obtain ⟨rfl, y, d', q1, q2, q3, Ca, rfl, xf, no, hR⟩ := o
      exact ⟨.ref a, e1, Ca, _, .ref Cs, .ref Cs, true, rfl, rfl, hR.1, rel.same _ _ q2, fun u z => z, hR.2, fin_imm post rel (Ext.refl _) (.bl true)⟩
    · exact post.elim
end FN
namespace FN
open PySem PySem.Spec PyProof.Rows L2
/-! ### the mirror leans on no address -/
def shape (ms : List Md) : List (Option Nat) := ms.map fun m => match m with
  | .t _ => none
  | .r i => some i
theorem fill_shape : ∀ {ms ms' : List Md} (h : shape ms = shape ms') (ds : List D) (ρ : Env), fill ms ds ρ = fill ms' ds ρ
  | [], [], _, _, _ => rfl
  | .t _ :: ms, .t _ :: ms', h, [], ρ => rfl
  | .t _ :: ms, .t _ :: ms', h, d :: ds, ρ => by
    have h' : shape ms = shape ms' := (List.cons.inj h).2
    show (fill ms ds ρ).map _ = (fill ms' ds ρ).map _
    rw [fill_shape h']
  | .r i :: ms, .r j :: ms', h, [], ρ => rfl
  | .r i :: ms, .r j :: ms', h, d :: ds, ρ => by
    have h' : shape ms = shape ms' := (List.cons.inj h).2
    have e : i = j := Option.some.inj (List.cons.inj h).1
    subst e
    unfold fill
    split
    · rw [fill_shape h']
    · rfl
  | [], _ :: _, h, _, _ => by cases h
  | _ :: _, [], h, _, _ => by cases h
  | .t _ :: _, .r _ :: _, h, _, _ => by cases (List.cons.inj h).1
  | .r _ :: _, .t _ :: _, h, _, _ => by cases (List.cons.inj h).1
theorem back_shape : ∀ {ms ms' : List Md} (h : shape ms = shape ms') (os ρ : Env), back ms os ρ = back ms' os ρ
  | [], [], _, _, _ => rfl
  | .t _ :: ms, .t _ :: ms', h, [], ρ => rfl
  | .t _ :: ms, .t _ :: ms', h, o :: os, ρ => by
    have h' : shape ms = shape ms' := (List.cons.inj h).2
    show back ms os ρ = back ms' os ρ
    rw [back_shape h']
  | .r i :: ms, .r j :: ms', h, [], ρ => rfl
  | .r i :: ms, .r j :: ms', h, o :: os, ρ => by
    have h' : shape ms = shape ms' := (List.cons.inj h).2
    have e : i = j := Option.some.inj (List.cons.inj h).1
    subst e
    show back ms os _ = back ms' os _
    rw [back_shape h']
  | [], _ :: _, h, _, _ => by cases h
  | _ :: _, [], h, _, _ => by cases h
  | .t _ :: _, .r _ :: _, h, _, _ => by cases (List.cons.inj h).1
  | .r _ :: _, .t _ :: _, h, _, _ => by cases (List.cons.inj h).1
theorem fCall_shape {ms ms' : List Md} (h : shape ms = shape ms') (g : M D) (fr : M (List D)) : fCall ms g fr = fCall ms' g fr := by
  funext ρ
  unfold fCall
  simp only [fill_shape h, back_shape h]
theorem fe_sh {X : Cx} {W : WX} {κ : List Kind} {m : Md} {e : Expr} {ms ms' : List Md} {g : M D} {fr : M (List D)} (q : FV X W κ m e (fCall ms g fr)) (h : shape ms = shape ms' := by rfl) : FV X W κ m e (fCall ms' g fr) := by
  rw [← fCall_shape h]
  exact q
theorem outs_keep : ∀ {ks ks' : List Kind} (h : ks.map keepK = ks'.map keepK) (ρ : Env), outs ks ρ = outs ks' ρ
  | [], [], _, _ => rfl
  | k :: ks, k' :: ks', h, [] => rfl
  | k :: ks, k' :: ks', h, o :: ρ => by
    have h' : ks.map keepK = ks'.map keepK := (List.cons.inj h).2
    have e : keepK k = keepK k' := (List.cons.inj h).1
    show (match keepK k with | true => o | false => none) :: outs ks ρ = (match keepK k' with | true => o | false => none) :: outs ks' ρ
    rw [e, outs_keep h']
  | [], _ :: _, h, _ => by cases h
  | _ :: _, [], h, _ => by cases h
theorem runF_keep {ks ks' : List Kind} (h : ks.map keepK = ks'.map keepK) (kr : Kind) (n : Nat) (fb : Env → Option Fl) : runF ks kr n fb = runF ks' kr n fb := by
  funext ρ
  unfold runF
  simp only [outs_keep h]
theorem takesF {X : Cx} : Takes X (fun _ _ _ _ => False) := fun _ _ ⟨_, _, _, _, _, _, _, _, _, _, _, _, _, _, _, _, w⟩ => w.elim
/-- a module's constant -/
theorem fe_cst {X : Cx} {W : WX} {κ : List Kind} {pos : Pos} {b : Bool} {x : Str} {v : V} {d : D} (h : ∃ u, X.mg x = some u ∧ RelV v u) (q : ∀ F, RD b X.K F v d) (hg : Gl X x := by rfl) (hd : (x == ("__debug__" : Str)) = false := by decide) : FV X W κ (.t (.v b)) (.Name x pos) (fC d) := by
  obtain ⟨u, hm, r⟩ := h
  exact fe_glob hg hm r q hd
end FN
set_option Elab.async false
set_option linter.all false
set_option maxRecDepth 100000
set_option maxHeartbeats 4000000
/-! FN17: from the written part to the facts; the law's end. -/
namespace FN
open PySem PySem.Spec PyProof.Rows L2
section
variable {K : PySem.W.Frag} {h : Heap} {mg : Str → Option Value}
theorem at_mk {x : Str} {st : Stmt} {ps : List Str} (X : K.In h) (G : h.Ns mainGlobals mg) {f : Addr} {oc kV dc pm cd ct : Value} {od an : Option Addr} {sl : Array (Option Value)} (a : PySem.W.nsIn K mainGlobals x = some (some (.ref f)))
    (l : K.lookup f = some ⟨oc, od, .func (PySem.W.fnOf x x (defArgs st) (defBody st) (defScope st) .none kV dc pm an cd ct), sl⟩) (c : PySem.W.codeIn K cd x = true) (k : PySem.W.keepIn K (.ref f) = true)
    (b : ∀ (kV doc pm : Value) (an : Option Addr) (cdv ct : Value) (us : List Value), us.length = ps.length → bindArgs (PySem.W.fnOf x x (defArgs st) (defBody st) (defScope st) .none kV doc pm an cdv ct) ⟨us, []⟩ = pure (ps.zip us)) : At K mg x st ps := by
  have F := fun_mk (st := st) l c k
  exact ⟨f, _, F, PySem.W.mg_of X G a, F.binds b⟩
theorem use {p q : Prop} (h : p) (f : p → q) : q := f h
theorem cst_mk {x : Str} {v : V} {u : Value} (X : K.In h) (G : h.Ns mainGlobals mg) (a : PySem.W.nsIn K mainGlobals x = some (some u)) (r : RelV v u) : ∃ u, mg x = some u ∧ RelV v u := ⟨u, PySem.W.mg_of X G a, r⟩
theorem At.at {x : Str} {st : Stmt} {ps : List Str} (a : At K mg x st ps) : ∃ f, mg x = some (.ref f) := by
  obtain ⟨f, fd, F, hm, bd⟩ := a.ex
  exact ⟨f, hm⟩
theorem err_txt {P : Program} (X : K.In h) (G : h.Ns mainGlobals mg) {D fI : Addr} {qual : Str} {oc : Value} {od : Option Addr} {doc pm : Value} {an : Option Addr} {cda : Addr} {ct : Value} {osl : Array (Option Value)} {cc : Addr} {m : Str} {p1 p2 p3 p4 p5 p6 p7 p8 q1 q2 q3 q4 : Pos} {ccl : Value} {cdd : Option Addr} {vs : Array Value} {ccs : Array (Option Value)} {file : Str} {tf : Tok} {cl : Value} {cld : Option Addr} {csl : Array (Option Value)}
    (lk : K.lookup fI = some ⟨oc, od, .func (PySem.W.ksFn "__init__" qual (eA p1 p2) (eB m p3 p4 p5 p6 p7 p8 q1 q2 q3 q4) eS .none .none doc pm an (.ref cda) ct cc), osl⟩) (hcd : PySem.W.codeIn K (.ref cda) qual = true) (hp : (p5.endLine == p7.line) = true)
    (hc : K.lookup cda = some ⟨ccl, cdd, .fields vs, ccs⟩) (hv : vs[2]? = some (.str file tf)) (hf : ((P.main.file : Str) == file) = true) (hcc : K.lookup cc = some ⟨cl, cld, .cell (some (.ref D)), csl⟩)
    (hD : PySem.W.isClsIn K D = true) (ht : (P.main.scope.names.lookup ("super" : Str)).isSome = false) (hs : PySem.W.nsIn K mainGlobals "super" = some none) (ho : PySem.W.nsIn K PySem.cStatics "thirdparty.any" = some none) : ErrTxt P K mg D fI :=
  ⟨⟨qual, oc, od, doc, pm, an, cda, ct, osl, cc, m, p1, p2, p3, p4, p5, p6, p7, p8, q1, q2, q3, q4, lk, hcd, hp, ⟨ccl, cdd, vs, ccs, file, tf, hc, hv, hf⟩, cl, cld, csl, hcc⟩, Option.isSome_iff_exists.mp hD, ht, PySem.W.mg_none_of X G hs, ho⟩
theorem oex_mk {C : Addr} {nm q : Str} {N : Addr} {bs bm : List Value} {sn : List Str} {sub : List Value} {ab : Bool} {col : Option Bool} {dd : Option Addr} {k0 k1 k2 k3 k5 : Option Value} (x : K.lookup C = some (excClassObj nm q C N bs bm true sn sub ab col dd k0 k1 k2 k3 k5 "ValueError.__new__")) (r : PySem.HandSPX.refsVE bm = true)
    (sa : PySem.W.findIn K (.ref C) "__setattr__" = some (some (.builtin "object.__setattr__"))) (ex : PySem.W.subIn K (.ref C) (.type "BaseException") = some true) (ty : PySem.W.typeIn K (.ref C) = some (.type "type")) (kp : PySem.W.keepIn K (.ref C) = true) : OexC K C :=
  ⟨⟨nm, q, N, bs, bm, sn, sub, ab, col, dd, k0, k1, k2, k3, k5, x, r⟩, sa, ex, ty, kp⟩
end
/-- what the law promises -/
def spLaw (n : Nat) (K : PySem.W.Frag) : Sp := fun vs H Q _ => ∃ (a : Addr) (ns : List Int), vs = [.ref a] ∧ SqL K H a (ns.map V.int) ∧ ns.length ≤ n ∧ ∀ H', Q (.bl true) H'
theorem law_sp {n : Nat} {K : PySem.W.Frag} {mg : Str → Option Value} {g : M D} (hg : ∀ ns : List Int, ns.length ≤ n → ∃ ρ', g [some (.list (ns.map .int))] = some (.ok (.bool true) ρ')) (vs : List V) (H : Hp) (Q : VK) (E : XK) (h : spLaw n K vs H Q E) : spF K mg [.scr] (.v true) g vs H Q E := by
  obtain ⟨a, ns, rfl, hS, hl, q⟩ := h
  obtain ⟨ρ', e⟩ := hg ns hl
  refine ⟨[some (.list (ns.map .int))], ⟨H, H, fun _ => False⟩, rfl, ⟨Same.refl _, fun _ z => z.elim, fun _ z => z.elim, fun i u k z => ?_, ?_⟩, ?_⟩
  · match i, z with
    | 0, z => cases z
    | i + 1, z => simp at z
  · exact .cons (f := fun _ => False) (g := fun _ => False) ⟨a, ns, rfl, rfl, hS⟩ .nil (fun _ z => z.elim) (fun _ z => z) fun _ z => z
  · rw [e]
    intro v w' rel ex t
    rw [rd_bool t]
    exact q _
theorem law_end {P : Program} {w : World} {K : PySem.W.Frag} {mg : Str → Option Value} {CX : CXT} {k n : Nat} {fa : Addr} {st : Stmt} {g : M D} (hg : ∀ ns : List Int, ns.length ≤ n → ∃ ρ', g [some (.list (ns.map .int))] = some (.ok (.bool true) ρ')) (a : At K mg "law" st ["script"]) (hfa : mg "law" = some (.ref fa)) (b : ∀ (kV doc pm : Value) (an : Option Addr) (cdv ct : Value) (us : List Value), us.length = 1 → bindArgs (PySem.W.fnOf "law" "law" (defArgs st) (defBody st) (defScope st) .none kV doc pm an cdv ct) ⟨us, []⟩ = pure ((["script"] : List Str).zip us)) (G : ∀ base : Heap, Kn P w K mg base CX k "law" ["script"] (spF K mg [.scr] (.v true) g)) :
    ∃ fd : FuncData, (∀ (s : Shared) (u : Value), BindsTo s fd ⟨[u], []⟩ [("script", u)]) ∧ ∀ base : Heap, K.In base → base.Ns mainGlobals mg → FnOk P w K mg base CX k fa fd ["script"] (spLaw n K) := by
  obtain ⟨oc, od, osl, fd, lk, hb⟩ : ∃ (oc : Value) (od : Option Addr) (osl : Array (Option Value)) (fd : FuncData), K.lookup fa = some ⟨oc, od, .func fd, osl⟩ ∧ ∀ (s : Shared) (u : Value), BindsTo s fd ⟨[u], []⟩ [("script", u)] := by
    obtain ⟨f, fd, F, hm, bd⟩ := a.ex
    rw [hfa] at hm
    cases hm
    obtain ⟨oc, od, kV, doc, pm, an, cdv, ct, osl, rfl, lk, hcd⟩ := F.ex
    exact ⟨oc, od, osl, _, lk, fun s u => .of_eq (b kV doc pm an cdv ct [u] rfl)⟩
  refine ⟨fd, hb, fun base _ _ => ?_⟩
  · obtain ⟨f, fd', F, hm, hk, bd, oc', od', osl', lk'⟩ := (G base).ex
    rw [hfa] at hm
    cases hm
    rw [lk] at lk'
    cases lk'
    exact F.imp (law_sp hg)
end FN
set_option Elab.async false
set_option linter.all false
set_option maxRecDepth 100000
set_option maxHeartbeats 4000000
/-! FN18: reading mirrors (plain Lean; no program). -/
namespace FN
open PySem PySem.Spec PyProof.Rows L2
section
variable {α β : Type} {a : α} {ρ : Env} {c : Str} {d : D} {fa fb fc : M D} {ta tb : M Bool} {ma mb mc : Md} {i j k : Nat} {fr : M (List D)} {f g : Env → Option Fl} {b : Bool}
@[simp] theorem u_ok {e : Str → D → Env → β} {g : α → Env → Option β} : bnd (some (Out.ok a ρ)) e g = g a ρ := (rfl)
@[simp] theorem u_err {e : Str → D → Env → β} {g : α → Env → Option β} : bnd (some (Out.err c d ρ)) e g = some (e c d ρ) := (rfl)
@[simp] theorem u_none {e : Str → D → Env → β} {g : α → Env → Option β} : bnd none e g = none := (rfl)
@[simp] theorem u_fVar : fVar i ρ = match ρ[i]? with | some (some d) => some (.ok d ρ) | _ => none := (rfl)
@[simp] theorem u_fRef : fRef i ρ = match ρ[i]? with | some (some _) => some (.ok .none ρ) | _ => none := (rfl)
@[simp] theorem u_fC : fC d ρ = some (.ok d ρ) := (rfl)
@[simp] theorem u_fTok : fTok ρ = some (.ok (.dict []) ρ) := (rfl)
@[simp] theorem u_f1 {op : D → Option D} : f1 ma op fa ρ = bnd (fa ρ) Out.err fun x ρ1 => match rd ma x ρ1 with | some x => (op x).map fun z => .ok z ρ1 | none => none := (rfl)
@[simp] theorem u_f1b {q : D → Bool} : f1b ma q fa ρ = bnd (fa ρ) Out.err fun x ρ1 => match rd ma x ρ1 with | some x => some (.ok (.bool (q x)) ρ1) | none => none := (rfl)
@[simp] theorem u_f2 {op : D → D → Option D} : f2 ma mb op fa fb ρ = bnd (fa ρ) Out.err fun x ρ1 => bnd (fb ρ1) Out.err fun y ρ2 => match rd ma x ρ2, rd mb y ρ2 with | some x, some y => (op x y).map fun z => .ok z ρ2 | _, _ => none := (rfl)
@[simp] theorem u_f3 {fl fh : M (Option Int)} : f3 ma fa fl fh ρ = bnd (fa ρ) Out.err fun x ρ1 => bnd (fl ρ1) Out.err fun lo ρ2 => bnd (fh ρ2) Out.err fun hi ρ3 => match rd ma x ρ3 with | some x => (dCut x lo hi).map fun z => .ok z ρ3 | none => none := (rfl)
@[simp] theorem u_rdv : rd (.t (.v b)) d ρ = some d := (rfl)
@[simp] theorem u_rdl : rd (.t (.lst (.v b))) d ρ = some d := (rfl)
@[simp] theorem u_rdr : rd (.r i) d ρ = match ρ[i]? with | some (some (.dict _)) => none | some (some d) => some d | _ => none := (rfl)
@[simp] theorem u_fTru : fTru ma fa ρ = bnd (fa ρ) Out.err fun x ρ1 => match rd ma x ρ1 with | some x => (truD x).map fun b => .ok b ρ1 | none => none := (rfl)
@[simp] theorem u_fTst : fTst fa ρ = bnd (fa ρ) Out.err fun d ρ1 => match d with | .bool b => some (.ok b ρ1) | _ => none := (rfl)
@[simp] theorem u_tAnd : tAndF ta tb ρ = bnd (ta ρ) Out.err fun c ρ1 => if c = true then tb ρ1 else some (.ok false ρ1) := (rfl)
@[simp] theorem u_tOr : tOrF ta tb ρ = bnd (ta ρ) Out.err fun c ρ1 => if c = true then some (.ok true ρ1) else tb ρ1 := (rfl)
@[simp] theorem u_tNot : tNotF ta ρ = bnd (ta ρ) Out.err fun c ρ1 => some (.ok (!c) ρ1) := (rfl)
@[simp] theorem u_fAnd : fAnd fa fb ρ = bnd (fa ρ) Out.err fun x ρ1 => match x with | .bool true => fb ρ1 | .bool false => some (.ok (.bool false) ρ1) | _ => none := (rfl)
@[simp] theorem u_fOr : fOr fa fb ρ = bnd (fa ρ) Out.err fun x ρ1 => match x with | .bool true => some (.ok (.bool true) ρ1) | .bool false => fb ρ1 | _ => none := (rfl)
@[simp] theorem u_fNot : fNot fa ρ = bnd (fa ρ) Out.err fun x ρ1 => match x with | .bool b => some (.ok (.bool !b) ρ1) | _ => none := (rfl)
@[simp] theorem u_fIf : fIf ta fa fb ρ = bnd (ta ρ) Out.err fun c ρ1 => if c = true then fa ρ1 else fb ρ1 := (rfl)
@[simp] theorem u_fTup : fTup fr ρ = bnd (fr ρ) Out.err fun ds ρ1 => if ds.length ≤ sizeLine then some (.ok (.tuple ds) ρ1) else none := (rfl)
@[simp] theorem u_fLst : fLst fr ρ = bnd (fr ρ) Out.err fun ds ρ1 => if ds.length ≤ sizeLine then some (.ok (.list ds) ρ1) else none := (rfl)
@[simp] theorem u_aNil : aNil ρ = some (.ok [] ρ) := (rfl)
@[simp] theorem u_aCons : aCons fa fr ρ = bnd (fa ρ) Out.err fun d ρ1 => bnd (fr ρ1) Out.err fun ds ρ2 => some (.ok (d :: ds) ρ2) := (rfl)
@[simp] theorem u_fill0 : FN.fill [] [] ρ = some ([], ρ) := (rfl)
@[simp] theorem u_fillT {kd : Kind} {ms : List Md} {ds : List D} : FN.fill (.t kd :: ms) (d :: ds) ρ = (FN.fill ms ds ρ).map fun p => (some d :: p.1, p.2) := (rfl)
@[simp] theorem u_fillR {ms : List Md} {ds : List D} : FN.fill (.r i :: ms) (d :: ds) ρ = match ρ[i]? with | some (some d) => (FN.fill ms ds (ρ.set i none)).map fun p => (some d :: p.1, p.2) | _ => none := (rfl)
@[simp] theorem u_back0 {os : Env} : back [] os ρ = ρ := by cases os <;> rfl
@[simp] theorem u_backT {kd : Kind} {ms : List Md} {o : Option D} {os : Env} : back (.t kd :: ms) (o :: os) ρ = back ms os ρ := (rfl)
@[simp] theorem u_backR {ms : List Md} {o : Option D} {os : Env} : back (.r i :: ms) (o :: os) ρ = back ms os (ρ.set i o) := (rfl)
theorem u_fCall {ms : List Md} {g : M D} : fCall ms g fr ρ = bnd (fr ρ) Out.err fun ds ρ1 => match FN.fill ms ds ρ1 with
  | some (ρc, ρr) => match g ρc with
    | some (.ok d ρo) => some (.ok d (back ms ρo ρr))
    | some (.err n d _) => some (.err n d ρr)
    | none => none
  | none => none := (rfl)
@[simp] theorem u_fCallL {ms : List Md} {g : M D} : fCallL i ms g fr ρ = match ρ[i]? with | some (some _) => fCall ms g fr ρ | _ => none := (rfl)
@[simp] theorem u_outs0 : outs [] ρ = [] := by cases ρ <;> rfl
@[simp] theorem u_outsV {ks : List Kind} {o : Option D} : outs (.v b :: ks) (o :: ρ) = none :: outs ks ρ := (rfl)
@[simp] theorem u_outsL {kd : Kind} {ks : List Kind} {o : Option D} : outs (.lst kd :: ks) (o :: ρ) = o :: outs ks ρ := (rfl)
@[simp] theorem u_outsS {ks : List Kind} {o : Option D} : outs (.scr :: ks) (o :: ρ) = o :: outs ks ρ := (rfl)
@[simp] theorem u_outsT {u : V} {ks : List Kind} {o : Option D} : outs (.tok u :: ks) (o :: ρ) = o :: outs ks ρ := (rfl)
theorem u_runF {ks : List Kind} {kr : Kind} {n : Nat} {fb : Env → Option Fl} : runF ks kr n fb ρ = match fb (ρ ++ List.replicate n none) with
  | some (.ret d ρ') => some (.ok d (outs ks ρ'))
  | some (.nx ρ') => match kr with
    | .v _ => some (.ok .none (outs ks ρ'))
    | _ => none
  | some (.err c d ρ') => some (.err c d (outs ks ρ'))
  | _ => none := (rfl)
theorem u_noErr {g : M D} : noErr g ρ = match g ρ with | some (.ok d ρ') => some (.ok d ρ') | _ => none := (rfl)
@[simp] theorem u_sSeq : sSeq f g ρ = match f ρ with | some (.nx ρ') => g ρ' | o => o := (rfl)
@[simp] theorem u_sNx : sNx ρ = some (.nx ρ) := (rfl)
@[simp] theorem u_sDrop : sDrop fa ρ = bnd (fa ρ) Fl.err fun _ ρ1 => some (.nx ρ1) := (rfl)
@[simp] theorem u_sSet : sSet i fa ρ = bnd (fa ρ) Fl.err fun d ρ1 => some (.nx (ρ1.set i (some d))) := (rfl)
@[simp] theorem u_sRet : sRet fa ρ = bnd (fa ρ) Fl.err fun d ρ1 => some (.ret d ρ1) := (rfl)
@[simp] theorem u_sRetN : sRetN ρ = some (.ret .none ρ) := (rfl)
@[simp] theorem u_sRetR : sRetR i ρ = match ρ[i]? with | some (some d) => some (.ret d (ρ.set i none)) | _ => none := (rfl)
@[simp] theorem u_sIf : sIf ta f g ρ = bnd (ta ρ) Fl.err fun b ρ1 => if b = true then f ρ1 else g ρ1 := (rfl)
@[simp] theorem u_sPar : sPar i j fr ρ = bnd (fr ρ) Fl.err fun ds ρ1 => match ds with | [x, y] => some (.nx ((ρ1.set i (some x)).set j (some y))) | _ => none := (rfl)
@[simp] theorem u_sPar3 : sPar3 i j k fr ρ = bnd (fr ρ) Fl.err fun ds ρ1 => match ds with | [x, y, z] => some (.nx (((ρ1.set i (some x)).set j (some y)).set k (some z))) | _ => none := (rfl)
@[simp] theorem u_gNm : gNm i d ρ = some (ρ.set i (some d)) := (rfl)
@[simp] theorem u_gTp {t : List D → Env → Option Env} {ds : List D} : gTp t (.tuple ds) ρ = t ds ρ := (rfl)
@[simp] theorem u_gsN : gsNil [] ρ = some ρ := (rfl)
@[simp] theorem u_sAsg {t : D → Env → Option Env} : sAsg t fa ρ = bnd (fa ρ) Fl.err fun d ρ1 => (t d ρ1).map Fl.nx := (rfl)
@[simp] theorem u_iSeq : iSeq fa ρ = bnd (fa ρ) Out.err fun x ρ1 => match x with | .list ds => some (.ok ds ρ1) | .tuple ds => some (.ok ds ρ1) | .str z => some (.ok (chD z) ρ1) | _ => none := (rfl)
@[simp] theorem u_iScr : iScr i ρ = match ρ[i]? with | some (some (.list ds)) => some (.ok ds ρ) | _ => none := (rfl)
@[simp] theorem u_iZip : iZip fa fb ρ = bnd (fa ρ) Out.err fun x ρ1 => bnd (fb ρ1) Out.err fun y ρ2 => match x, y with | .list ds, .list es => some (.ok (zipD ds es) ρ2) | .tuple ds, .tuple es => some (.ok (zipD ds es) ρ2) | _, _ => none := (rfl)
theorem u_sFor {fi : M (List D)} {ft : D → Env → Option Env} : sFor fi ft f ρ = bnd (fi ρ) Fl.err fun ds ρ1 => forL ft f ds ρ1 := (rfl)
theorem u_fLc {vs : List Nat} {fi : M (List D)} {ft : D → Env → Option Env} {tt : M Bool} {fe : M D} : fLc vs fi ft tt fe ρ = bnd (fi ρ) Out.err fun ds ρ1 => bnd (compL vs ft tt fe ds [] ρ1) Out.err fun r ρ2 => some (.ok (.list r) ρ2) := (rfl)
@[simp] theorem u_tYes : tYesF ρ = some (.ok true ρ) := (rfl)
@[simp] theorem u_fM1 {op : Str → D → Option D} : fM1 ma op fb fa ρ = bnd (fb ρ) Out.err fun x ρ1 => match x with
  | .str s => bnd (fa ρ1) Out.err fun y ρ2 => match rd ma y ρ2 with | some y => (op s y).map fun z => .ok z ρ2 | none => none
  | _ => none := (rfl)
/-- a comprehension without test over a plain name whose elements leave the rest as it is -/
theorem compL_pure {i : Nat} {fe : M D} {ρ : Env} {F : D → D} : ∀ (ds acc : List D), acc.length + ds.length ≤ sizeLine → (∀ d ∈ ds, fe ((ρ.set i none).set i (some d)) = some (.ok (F d) ((ρ.set i none).set i (some d)))) → compL [i] (gNm i) tYesF fe ds acc ρ = some (.ok (acc ++ ds.map F) (ρ.set i none))
  | [], acc, _, _ => by
    simp [compL, wipeE]
  | d :: ds, acc, hl, h => by
    have h1 := h d List.mem_cons_self
    have l1 : acc.length < sizeLine := by
      rw [List.length_cons] at hl
      omega
    unfold compL
    simp only [wipeE, u_gNm, u_tYes]
    rw [h1]
    simp only [l1, if_true]
    have e : (List.set (List.set (List.set ρ i none) i (some d)) i none) = ρ.set i none := by
      rw [List.set_set, List.set_set]
    rw [e]
    have r := compL_pure (i := i) (fe := fe) (ρ := ρ.set i none) (F := F) ds (acc ++ [F d]) (by simp at hl ⊢; omega) (fun d' hd => by
      rw [List.set_set, List.set_set]
      have := h d' (List.mem_cons_of_mem _ hd)
      rw [List.set_set] at this
      exact this)
    rw [r, List.set_set]
    simp
end
end FN
set_option Elab.async false
set_option linter.all false
set_option maxRecDepth 100000
set_option maxHeartbeats 4000000
/-! FT1: texts: split, join, whole numbers as texts (plain Lean). -/
namespace FN
open PySem PySem.Spec PyProof.Rows L2
open Builtin.Str
abbrev cs (x : Str) : List Nat := x.cps.toList
theorem str_ext {a b : Str} (h : cs a = cs b) : a = b := Str.ext' (Array.toList_inj.mp h)
theorem cs_len (x : Str) : (cs x).length = x.length := by simp [cs, Str.length]
theorem cs_app (a b : Str) : cs (a ++ b) = cs a ++ cs b := by
  show (a ++ b).cps.toList = _
  rw [Str.cps_append, Array.toList_append]
/-! ### split, over lists of signs -/
def spl (s : List Nat) : Nat → List Nat → List (List Nat)
  | 0, l => [l]
  | n + 1, l => if s.isPrefixOf l then [] :: spl s n (l.drop s.length) else match l with
    | [] => [[]]
    | c :: r => match spl s n r with
      | [] => [[c]]
      | p :: q => (c :: p) :: q
theorem spl_ne (s : List Nat) : ∀ (n : Nat) (l : List Nat), ∃ p q, spl s n l = p :: q
  | 0, l => ⟨_, _, rfl⟩
  | n + 1, l => by
    unfold spl
    split
    · exact ⟨_, _, rfl⟩
    · split
      · exact ⟨_, _, rfl⟩
      · split
        · exact ⟨_, _, rfl⟩
        · exact ⟨_, _, rfl⟩
/-- y lies in x at i -/
theorem at_iff {x y : Str} {i : Nat} (hi : i ≤ x.length) : StrLaws.At x y x.length i ↔ (cs y).isPrefixOf ((cs x).drop i) = true := by
  have hn : (cs x).length = x.length := cs_len x
  have hy : (cs y).length = y.length := cs_len y
  rw [List.isPrefixOf_iff_prefix]
  constructor
  · intro h
    have h2 := h.2
    rw [StrLaws.subAt_eq] at h2
    have e : ((cs x).drop i).take y.length = cs y := eq_of_beq h2
    rw [← e]
    exact List.take_prefix _ _
  · intro h
    obtain ⟨t, e⟩ := h
    refine ⟨?_, ?_⟩
    · have l := congrArg List.length e
      rw [List.length_append, List.length_drop, hn, hy] at l
      omega
    · rw [StrLaws.subAt_eq]
      show ((cs x).drop i).take y.length == cs y
      rw [← e, ← hy, List.take_left']
      · simp
      · rfl
theorem sub_at {x : Str} {a b : Nat} : cs (strSub x a b) = ((cs x).drop a).take (b - a) := StrLaws.strSub_toList x a b
theorem parts_spl {x y : Str} (hw : 1 ≤ y.length) : ∀ (n a : Nat) (cuts : List Nat) (f : Nat), a ≤ x.length → StrLaws.ChainG x y x.length a cuts f → (∀ k, f ≤ k → ¬ StrLaws.At x y x.length k) → x.length - a < n →
    (StrLaws.partsFrom x y.length a cuts).map cs = spl (cs y) n ((cs x).drop a)
  | 0, a, cuts, f, _, _, _, hn => by omega
  | n + 1, a, cuts, f, ha, hc, hf, hn => by
    have lx : (cs x).length = x.length := cs_len x
    have ly : (cs y).length = y.length := cs_len y
    unfold spl
    by_cases hA : StrLaws.At x y x.length a
    · rw [if_pos ((at_iff ha).mp hA)]
      cases cuts with
      | nil =>
        have e : f = a := hc
        exact absurd hA (hf a (by omega))
      | cons c r =>
        obtain ⟨h1, h2, h3, h4⟩ := hc
        have e : c = a := by
          rcases Nat.lt_or_ge a c with q | q
          · exact absurd hA (h3 a (Nat.le_refl _) q)
          · omega
        subst e
        have hb := hA.1
        show cs (strSub x c c) :: (StrLaws.partsFrom x y.length (c + y.length) r).map cs = _
        rw [parts_spl hw n (c + y.length) r f hb h4 hf (by omega), sub_at, Nat.sub_self, List.take_zero, List.drop_drop, ly]
    · rw [if_neg (fun z => hA ((at_iff ha).mpr z))]
      by_cases hl : a = x.length
      · subst hl
        have e0 : (cs x).drop x.length = [] := List.drop_of_length_le (by omega)
        rw [e0]
        cases cuts with
        | nil =>
          show [cs (strSub x x.length x.length)] = [[]]
          rw [sub_at, e0, List.take_nil]
        | cons c r =>
          obtain ⟨h1, h2, _⟩ := hc
          have := h2.1
          omega
      · have hlt : a < (cs x).length := by omega
        rw [List.drop_eq_getElem_cons hlt]
        have IH : ∀ f', StrLaws.ChainG x y x.length (a + 1) cuts f' → (∀ k, f' ≤ k → ¬ StrLaws.At x y x.length k) → (StrLaws.partsFrom x y.length (a + 1) cuts).map cs = spl (cs y) n ((cs x).drop (a + 1)) := fun f' h1 h2 => parts_spl hw n (a + 1) cuts f' (by omega) h1 h2 (by omega)
        cases cuts with
        | nil =>
          have e : f = a := hc
          have r := IH (a + 1) rfl (fun k hk => hf k (by omega))
          show [cs (strSub x a x.length)] = _
          have r' : [cs (strSub x (a + 1) x.length)] = spl (cs y) n ((cs x).drop (a + 1)) := r
          dsimp only
          rw [← r']
          dsimp only
          rw [sub_at, sub_at, List.drop_eq_getElem_cons hlt]
          have e1 : x.length - a = (x.length - (a + 1)) + 1 := by omega
          rw [e1, List.take_succ_cons]
        | cons c r =>
          obtain ⟨h1, h2, h3, h4⟩ := hc
          have hca : a + 1 ≤ c := by
            rcases Nat.lt_or_ge a c with q | q
            · exact q
            · have e : c = a := by omega
              rw [e] at h2
              exact absurd h2 hA
          have r' := IH f ⟨hca, h2, fun k k1 k2 => h3 k (by omega) k2, h4⟩ hf
          have r2 : cs (strSub x (a + 1) c) :: (StrLaws.partsFrom x y.length (c + y.length) r).map cs = spl (cs y) n ((cs x).drop (a + 1)) := r'
          show cs (strSub x a c) :: (StrLaws.partsFrom x y.length (c + y.length) r).map cs = _
          dsimp only
          rw [← r2]
          dsimp only
          rw [sub_at, sub_at, List.drop_eq_getElem_cons hlt]
          have e1 : c - a = (c - (a + 1)) + 1 := by omega
          rw [e1, List.take_succ_cons]
theorem kind_pos (x : Str) : 1 ≤ Builtin.Str.strKind x := by
  unfold Builtin.Str.strKind
  split
  · exact Nat.le_refl _
  · split <;> decide
def sp (s l : List Nat) : List (List Nat) := spl s (l.length + 1) l
theorem split_sp {x y : Str} (hk : Builtin.Str.strKind y = 1) (hw : 1 ≤ y.length) : (Txt.split x y).map cs = sp (cs y) (cs x) := by
  have lx : (cs x).length = x.length := cs_len x
  have none : (∀ k, ¬ StrLaws.At x y x.length k) → ([x] : List Str).map cs = sp (cs y) (cs x) := fun h => by
    have := parts_spl hw (x.length + 1) 0 [] 0 (Nat.zero_le _) rfl (fun k _ => h k) (by omega)
    unfold sp
    rw [lx]
    rw [List.drop_zero] at this
    rw [← this]
    show [cs x] = [cs (strSub x 0 x.length)]
    rw [StrLaws.sub_whole]
  unfold Txt.split
  split
  · rename_i h
    rw [Bool.or_eq_true, decide_eq_true_eq, decide_eq_true_eq] at h
    rcases h with h | h
    · exact none fun k z => by
        have := z.1
        omega
    · have := kind_pos x
      omega
  · obtain ⟨f, hc, hf⟩ := StrLaws.occ_tight x y hw
    split
    · rename_i h
      rw [List.isEmpty_iff] at h
      rw [h] at hc
      have e : f = 0 := hc
      exact none fun k => hf k (by omega)
    · rw [StrLaws.partsBetween_eq]
      have := parts_spl hw (x.length + 1) 0 _ f (Nat.zero_le _) hc hf (by omega)
      unfold sp
      rw [lx, this, List.drop_zero]
/-! ### joined pieces are split again -/
theorem spl_fuel (s : List Nat) (hs : s ≠ []) : ∀ (n m : Nat) (l : List Nat), l.length < n → l.length < m → spl s n l = spl s m l
  | 0, _, _, h, _ => by omega
  | _ + 1, 0, _, _, h => by omega
  | n + 1, m + 1, l, h1, h2 => by
    have hl : 0 < s.length := List.length_pos_iff.mpr hs
    unfold spl
    by_cases q : s.isPrefixOf l = true
    · rw [if_pos q, if_pos q]
      have : (l.drop s.length).length < l.length := by
        have p := (List.isPrefixOf_iff_prefix.mp q).length_le
        rw [List.length_drop]
        omega
      rw [spl_fuel s hs n m _ (by omega) (by omega)]
    · rw [if_neg q, if_neg q]
      cases l with
      | nil => rfl
      | cons c r =>
        dsimp only
        rw [spl_fuel s hs n m r (by simp at h1; omega) (by simp at h2; omega)]
theorem sp_pre {s b : List Nat} (hs : s ≠ []) : sp s (s ++ b) = [] :: sp s b := by
  have h : s.isPrefixOf (s ++ b) = true := List.isPrefixOf_iff_prefix.mpr (List.prefix_append _ _)
  show spl s ((s ++ b).length + 1) (s ++ b) = _
  unfold spl
  rw [if_pos h, List.drop_left]
  unfold sp
  rw [spl_fuel s hs _ (b.length + 1) b (by rw [List.length_append]; have := List.length_pos_iff.mpr hs; omega) (by omega)]
theorem sp_cons {s r : List Nat} {c : Nat} (hs : s ≠ []) (h : ¬ s.isPrefixOf (c :: r) = true) : sp s (c :: r) = match sp s r with
    | [] => [[c]]
    | p :: q => (c :: p) :: q := by
  show spl s ((c :: r).length + 1) (c :: r) = _
  unfold spl
  rw [if_neg h]
  rfl
/-- a separator with a sign c at place o that stands not ahead of it -/
structure Mark (s : List Nat) (c o : Nat) : Prop where
  here : s[o]? = some c
  first : c ∉ s.take o
theorem Mark.ne {s : List Nat} {c o : Nat} (m : Mark s c o) : s ≠ [] := fun z => by
  have := m.here
  rw [z] at this
  simp at this
/-- not at the head of a piece free of c -/
theorem Mark.no {s : List Nat} {c o : Nat} (m : Mark s c o) {a b : List Nat} (ha : a ≠ []) (hc : c ∉ a) : ¬ s.isPrefixOf (a ++ (s ++ b)) = true := fun z => by
  obtain ⟨t, e⟩ := List.isPrefixOf_iff_prefix.mp z
  have h1 : (s ++ t)[o]? = some c := by
    rw [List.getElem?_append_left (List.getElem?_eq_some_iff.mp m.here).1]
    exact m.here
  rw [e] at h1
  have la : 0 < a.length := List.length_pos_iff.mpr ha
  by_cases q : o < a.length
  · rw [List.getElem?_append_left q] at h1
    exact hc (List.mem_of_getElem? h1)
  · rw [List.getElem?_append_right (by omega)] at h1
    have lo := (List.getElem?_eq_some_iff.mp m.here).1
    rw [List.getElem?_append_left (by omega)] at h1
    refine m.first (List.mem_of_getElem? (i := o - a.length) ?_)
    rw [List.getElem?_take_of_lt (by omega)]
    exact h1
theorem Mark.free {s : List Nat} {c o : Nat} (m : Mark s c o) {a : List Nat} (hc : c ∉ a) : ¬ s.isPrefixOf a = true := fun z => by
  obtain ⟨t, e⟩ := List.isPrefixOf_iff_prefix.mp z
  refine hc (List.mem_of_getElem? (i := o) ?_)
  rw [← e, List.getElem?_append_left (List.getElem?_eq_some_iff.mp m.here).1]
  exact m.here
theorem sp_free {s : List Nat} {c o : Nat} (m : Mark s c o) : ∀ a : List Nat, c ∉ a → sp s a = [a]
  | [], h => by
    show spl s 1 [] = _
    unfold spl
    rw [if_neg (m.free h)]
  | d :: a, h => by
    rw [sp_cons m.ne (m.free h), sp_free m a (fun z => h (List.mem_cons_of_mem _ z))]
theorem sp_cut {s : List Nat} {c o : Nat} (m : Mark s c o) (b : List Nat) : ∀ a : List Nat, c ∉ a → sp s (a ++ (s ++ b)) = a :: sp s b
  | [], _ => sp_pre m.ne
  | d :: a, h => by
    have q := sp_cons (r := a ++ (s ++ b)) (c := d) m.ne (m.no (a := d :: a) (by simp) h)
    show sp s (d :: (a ++ (s ++ b))) = _
    rw [q, sp_cut m b a (fun z => h (List.mem_cons_of_mem _ z))]
def jn (s : List Nat) : List (List Nat) → List Nat
  | [] => []
  | [x] => x
  | x :: y :: r => x ++ (s ++ jn s (y :: r))
theorem sp_jn {s : List Nat} {c o : Nat} (m : Mark s c o) : ∀ ps : List (List Nat), ps ≠ [] → (∀ p ∈ ps, c ∉ p) → sp s (jn s ps) = ps
  | [], h, _ => absurd rfl h
  | [x], _, h => sp_free m x (h x List.mem_cons_self)
  | x :: y :: r, _, h => by
    show sp s (x ++ (s ++ jn s (y :: r))) = _
    rw [sp_cut m _ x (h x List.mem_cons_self), sp_jn m (y :: r) (by simp) fun p hp => h p (List.mem_cons_of_mem _ hp)]
theorem cs_join (y : Str) : ∀ ps : List Str, cs (Txt.join y ps) = jn (cs y) (ps.map cs) := fun ps => by
  show cs (glued y ps) = _
  rw [StrLaws.glued_eq_join]
  have key : ∀ ps : List Str, cs (Str.join y ps) = jn (cs y) (ps.map cs) := fun ps => by
    induction ps with
    | nil => rfl
    | cons x r ih =>
      cases r with
      | nil => rfl
      | cons z r =>
        show cs (x ++ y ++ Str.join y (z :: r)) = cs x ++ (cs y ++ jn (cs y) ((z :: r).map cs))
        rw [cs_app, cs_app, ih, List.append_assoc]
  exact key ps
theorem map_cs_inj : ∀ {a b : List Str}, a.map cs = b.map cs → a = b
  | [], [], _ => rfl
  | x :: a, y :: b, h => by
    have h' := List.cons.inj h
    rw [str_ext h'.1, map_cs_inj h'.2]
  | [], _ :: _, h => by cases h
  | _ :: _, [], h => by cases h
/-- joined pieces that hold not the mark are split again -/
theorem split_join {y : Str} {c o : Nat} (m : Mark (cs y) c o) (hk : Builtin.Str.strKind y = 1) {ps : List Str} (hp : ps ≠ []) (hc : ∀ p ∈ ps, c ∉ cs p) : Txt.split (Txt.join y ps) y = ps := by
  have hw : 1 ≤ y.length := by
    rw [← cs_len]
    exact List.length_pos_iff.mpr m.ne
  refine map_cs_inj ?_
  rw [split_sp hk hw, cs_join, sp_jn m _ (by simpa using hp)]
  intro p h
  obtain ⟨q, hq, rfl⟩ := List.mem_map.mp h
  exact hc q hq
theorem join_split (x y : Str) : Txt.join y (Txt.split x y) = x := by
  show glued y _ = x
  rw [StrLaws.glued_eq_join]
  exact StrLaws.join_split x y
theorem split_ne (x y : Str) (hk : Builtin.Str.strKind y = 1) (hw : 1 ≤ y.length) : Txt.split x y ≠ [] := fun z => by
  have := split_sp (x := x) hk hw
  rw [z] at this
  obtain ⟨p, q, e⟩ := spl_ne (cs y) ((cs x).length + 1) (cs x)
  unfold sp at this
  rw [e] at this
  cases this
/-! ### whole numbers as texts -/
def dstr (n : Int) : Str := Str.ofString (toString n)
/-- the number of a word without zeros ahead, of at most 30 digits -/
def intL (l : List Nat) : Option Int :=
  let ds := if l.head? = some 45 then l.tail else l
  if ds.length = 0 ∨ 30 < ds.length ∨ ¬ (∀ c ∈ ds, 48 ≤ c ∧ c ≤ 57) then none
  else if ds.head? = some 48 ∧ l ≠ [48] then none
  else some (if l.head? = some 45 then -((NumText.digitsVal ds : Nat) : Int) else ((NumText.digitsVal ds : Nat) : Int))
theorem cs_nat (m : Nat) : cs (dstr (m : Int)) = (Nat.toDigits 10 m).map Char.toNat := PySem.W.KIN.signs_num m
theorem cs_neg (m : Nat) (h : 0 < m) : cs (dstr (-(m : Int))) = 45 :: (Nat.toDigits 10 m).map Char.toNat := by
  obtain ⟨k, rfl⟩ : ∃ k, m = k + 1 := ⟨m - 1, by omega⟩
  unfold dstr cs
  rw [PyProof.Rows.signs_ofString]
  show (("-" ++ Nat.repr (k + 1)).toList).map Char.toNat = _
  rw [String.toList_append, Nat.toList_repr]
  rfl
/-- the figures of m -/
def figs (m : Nat) : List Nat := (Nat.toDigits 10 m).map Char.toNat
theorem figs_small {m : Nat} (h : m < 10) : figs m = [48 + m] := by
  unfold figs
  rw [Nat.toDigits_of_lt_base h]
  have : ∀ d : Nat, d < 10 → [d.digitChar].map Char.toNat = [48 + d] := by decide
  exact this m h
theorem figs_big {m : Nat} (h : 10 ≤ m) : figs m = figs (m / 10) ++ [48 + m % 10] := by
  have t : Nat.toDigits 10 (m / 10) ++ Nat.toDigits 10 (m % 10) = Nat.toDigits 10 (10 * (m / 10) + m % 10) := Nat.toDigits_append_toDigits (by decide) (by omega) (Nat.mod_lt _ (by decide))
  rw [Nat.div_add_mod] at t
  have e : figs m = figs (m / 10) ++ figs (m % 10) := by
    unfold figs
    rw [← t, List.map_append]
  rw [e, figs_small (m := m % 10) (Nat.mod_lt _ (by decide))]
theorem figs_all : ∀ (n m : Nat), m < n → ∀ c ∈ figs m, 48 ≤ c ∧ c ≤ 57
  | 0, _, h => by omega
  | n + 1, m, h => by
    by_cases q : m < 10
    · rw [figs_small q]
      intro c hc
      rw [List.mem_singleton] at hc
      omega
    · rw [figs_big (by omega)]
      intro c hc
      rcases List.mem_append.mp hc with hc | hc
      · exact figs_all n (m / 10) (by omega) c hc
      · rw [List.mem_singleton] at hc
        have := Nat.mod_lt m (show 0 < 10 by decide)
        omega
theorem figs_len : ∀ (k m : Nat), m < 10 ^ (k + 1) → (figs m).length ≤ k + 1
  | 0, m, h => by
    rw [figs_small (by simpa using h)]
    simp
  | k + 1, m, h => by
    by_cases q : m < 10
    · rw [figs_small q]
      simp
    · rw [figs_big (by omega), List.length_append]
      have := figs_len k (m / 10) (by rw [Nat.div_lt_iff_lt_mul (by decide)]; rw [Nat.pow_succ] at h; omega)
      simp only [List.length_singleton]
      omega
theorem figs_ne (m : Nat) : figs m ≠ [] := by
  by_cases q : m < 10
  · rw [figs_small q]
    simp
  · rw [figs_big (by omega)]
    simp
theorem figs_head : ∀ (n m : Nat), m < n → 0 < m → (figs m).head? ≠ some 48
  | 0, _, h, _ => by omega
  | n + 1, m, h, h0 => by
    by_cases q : m < 10
    · rw [figs_small q]
      simp
      omega
    · rw [figs_big (by omega), List.head?_append]
      have := figs_head n (m / 10) (by omega) (by omega)
      cases e : (figs (m / 10)).head? with
      | none => exact absurd (List.head?_eq_none_iff.mp e) (figs_ne _)
      | some c =>
        rw [e] at this
        simpa using this
theorem figs_val (m : Nat) : NumText.digitsVal (figs m) = m := PySem.W.KIN.val_back m
theorem figs_45 (m : Nat) : (figs m).head? ≠ some 45 := fun z => by
  have h : 45 ∈ figs m := List.mem_of_mem_head? z
  have := figs_all (m + 1) m (by omega) 45 h
  omega
theorem map_back : ∀ {l : List Nat}, (∀ c ∈ l, 48 ≤ c ∧ c ≤ 57) → (l.map Char.ofNat).map Char.toNat = l
  | [], _ => rfl
  | c :: l, h => by
    have hc := h c List.mem_cons_self
    have e : (Char.ofNat c).toNat = c := by
      have : ∀ d : Nat, d < 58 → (Char.ofNat d).toNat = d := by decide
      exact this c (by omega)
    rw [List.map_cons, List.map_cons, e, map_back fun d hd => h d (List.mem_cons_of_mem _ hd)]
theorem figs_of {ds : List Nat} (h0 : ds ≠ []) (h : ∀ c ∈ ds, 48 ≤ c ∧ c ≤ 57) (hz : ds.head? ≠ some 48 ∨ ds = [48]) : figs (NumText.digitsVal ds) = ds := by
  unfold figs
  have hl : ds.length = (ds.length - 1) + 1 := by
    have := List.length_pos_iff.mpr h0
    omega
  rw [NumText.toDigits_digitsVal (ds.length - 1) ds hl h ?_, map_back h]
  rcases hz with hz | hz
  · right
    cases ds with
    | nil => exact absurd rfl h0
    | cons c r =>
      have hc := h c List.mem_cons_self
      have : c ≠ 48 := fun e => hz (by rw [e]; rfl)
      exact ⟨c, r, rfl, by omega⟩
  · left
    rw [hz]
    rfl
theorem intL_dstr {n : Int} (h : n.natAbs < 10 ^ 30) : intL (cs (dstr n)) = some n := by
  rcases (show n < 0 ∨ 0 ≤ n by omega) with hn | hn
  · obtain ⟨m, rfl⟩ : ∃ m : Nat, n = -(m : Int) := ⟨n.natAbs, by omega⟩
    have hm : 0 < m := by omega
    have hb : m < 10 ^ 30 := by
      rw [Int.natAbs_neg, Int.natAbs_natCast] at h
      exact h
    rw [cs_neg m hm]
    show intL (45 :: figs m) = _
    unfold intL
    have h1 : (figs m).length ≠ 0 := fun z => figs_ne m (List.length_eq_zero_iff.mp z)
    have h2 := figs_len 29 m hb
    have h3 : ∀ c ∈ figs m, 48 ≤ c ∧ c ≤ 57 := figs_all (m + 1) m (by omega)
    have h4 := figs_head (m + 1) m (by omega) hm
    simp only [List.head?_cons, List.tail_cons, if_true]
    rw [if_neg (by intro z; rcases z with z | z | z; exact h1 z; omega; exact z h3), if_neg (fun z => h4 z.1), figs_val]
  · obtain ⟨m, rfl⟩ := Int.eq_ofNat_of_zero_le hn
    have hb : m < 10 ^ 30 := by simpa using h
    rw [cs_nat m]
    show intL (figs m) = _
    unfold intL
    have h1 : (figs m).length ≠ 0 := fun z => figs_ne m (List.length_eq_zero_iff.mp z)
    have h2 := figs_len 29 m hb
    have h3 : ∀ c ∈ figs m, 48 ≤ c ∧ c ≤ 57 := figs_all (m + 1) m (by omega)
    simp only [figs_45, if_false]
    rw [if_neg (by intro z; rcases z with z | z | z; exact h1 z; omega; exact z h3), figs_val]
    by_cases h0 : m = 0
    · subst h0
      rw [if_neg (fun z => z.2 (figs_small (by decide)))]
    · rw [if_neg (fun z => figs_head (m + 1) m (by omega) (by omega) z.1)]
theorem dstr_intL {l : List Nat} {n : Int} (h : intL l = some n) : cs (dstr n) = l := by
  unfold intL at h
  by_cases h45 : l.head? = some 45
  · simp only [h45, if_true] at h
    split at h
    · cases h
    · rename_i q
      split at h
      · cases h
      · rename_i q2
        cases h
        have h0 : l.tail ≠ [] := fun z => q (.inl (by rw [z]; rfl))
        have h3 : ∀ c ∈ l.tail, 48 ≤ c ∧ c ≤ 57 := Classical.byContradiction fun z => q (.inr (.inr z))
        have hh : l.tail.head? ≠ some 48 := fun z => q2 ⟨z, fun e => by rw [e] at h45; cases h45⟩
        have e := figs_of h0 h3 (.inl hh)
        have hp : 0 < NumText.digitsVal l.tail := by
          cases hl : l.tail with
          | nil => exact absurd hl h0
          | cons c r =>
            have hc := h3 c (by rw [hl]; exact List.mem_cons_self)
            refine NumText.digitsVal_pos ?_
            have : c ≠ 48 := fun e => hh (by rw [hl, e]; rfl)
            omega
        rw [cs_neg _ hp]
        show 45 :: figs _ = l
        rw [e]
        cases l with
        | nil => cases h45
        | cons c r =>
          cases h45
          rfl
  · simp only [h45, if_false] at h
    split at h
    · cases h
    · rename_i q
      split at h
      · cases h
      · rename_i q2
        cases h
        have h0 : l ≠ [] := fun z => q (.inl (by rw [z]; rfl))
        have h3 : ∀ c ∈ l, 48 ≤ c ∧ c ≤ 57 := Classical.byContradiction fun z => q (.inr (.inr z))
        rw [cs_nat]
        refine figs_of h0 h3 ?_
        by_cases e : l = [48]
        · exact .inr e
        · exact .inl fun z => q2 ⟨z, e⟩
/-- .. bounds -/
theorem intL_bound {l : List Nat} {n : Int} (h : intL l = some n) : l.length ≤ 31 ∧ ∀ c ∈ l, c = 45 ∨ (48 ≤ c ∧ c ≤ 57) := by
  unfold intL at h
  by_cases h45 : l.head? = some 45
  · simp only [h45, if_true] at h
    split at h
    · cases h
    · rename_i q
      cases l with
      | nil => cases h45
      | cons c r =>
        cases h45
        refine ⟨?_, fun d hd => ?_⟩
        · have : ¬ 30 < r.length := fun z => q (.inr (.inl z))
          rw [List.length_cons]
          omega
        · rcases List.mem_cons.mp hd with rfl | hd
          · exact .inl rfl
          · exact .inr ((Classical.byContradiction fun z => q (.inr (.inr z)) : ∀ c ∈ r, 48 ≤ c ∧ c ≤ 57) d hd)
  · simp only [h45, if_false] at h
    split at h
    · cases h
    · rename_i q
      refine ⟨?_, fun d hd => .inr ((Classical.byContradiction fun z => q (.inr (.inr z)) : ∀ c ∈ l, 48 ≤ c ∧ c ≤ 57) d hd)⟩
      have : ¬ 30 < l.length := fun z => q (.inr (.inl z))
      omega
end FN
set_option Elab.async false
set_option linter.all false
set_option maxRecDepth 100000
set_option maxHeartbeats 4000000
/-! FN19: plain data in mirrors (no program). -/
namespace FN
open PySem PySem.Spec PyProof.Rows L2
open PySem.PyData (eqv eqvAll strOk)
@[simp] theorem eqv_nn : eqv .none .none = true := by unfold eqv; rfl
@[simp] theorem eqv_ii (i j : Int) : eqv (.int i) (.int j) = decide (i = j) := by unfold eqv; rfl
@[simp] theorem eqv_bb (i j : Bool) : eqv (.bool i) (.bool j) = (i == j) := by unfold eqv; rfl
@[simp] theorem eqv_ss (i j : Str) : eqv (.str i) (.str j) = decide (i = j) := by unfold eqv; by_cases h : i = j <;> simp [h]
@[simp] theorem eqv_ll (i j : List D) : eqv (.list i) (.list j) = eqvAll i j := by rw [eqv]
@[simp] theorem eqv_tt (i j : List D) : eqv (.tuple i) (.tuple j) = eqvAll i j := by rw [eqv]
@[simp] theorem eqv_in (i : Int) : eqv (.int i) .none = false := by unfold eqv; rfl
@[simp] theorem eqv_tn (i : List D) : eqv (.tuple i) .none = false := by unfold eqv; rfl
@[simp] theorem eqv_ln (i : List D) : eqv (.list i) .none = false := by unfold eqv; rfl
@[simp] theorem eqv_sn (i : Str) : eqv (.str i) .none = false := by unfold eqv; rfl
@[simp] theorem eqv_bn (i : Bool) : eqv (.bool i) .none = false := by unfold eqv; rfl
@[simp] theorem eqv_xn (d : D) : eqv d .none = isNone d := by cases d <;> simp [isNone] <;> (unfold eqv; rfl)
@[simp] theorem eqvA_nn : eqvAll [] [] = true := by rw [eqvAll]
@[simp] theorem eqvA_cc (x y : D) (xs ys : List D) : eqvAll (x :: xs) (y :: ys) = (eqv x y && eqvAll xs ys) := by rw [eqvAll]
@[simp] theorem eqvA_nc (y : D) (ys : List D) : eqvAll [] (y :: ys) = false := by rw [eqvAll]
@[simp] theorem eqvA_cn (x : D) (xs : List D) : eqvAll (x :: xs) [] = false := by rw [eqvAll]
/-- data of the depth n at most, its texts in order -/
def okD : Nat → D → Bool
  | _, .none => true
  | _, .bool _ => true
  | _, .int _ => true
  | _, .str x => strOk x
  | n + 1, .list ds => ds.all (okD n)
  | n + 1, .tuple ds => ds.all (okD n)
  | _, _ => false
theorem okD_all {n : Nat} (h : ∀ d, okD n d = true → d.canLay0 = true ∧ d.depth ≤ n) : ∀ ds : List D, ds.all (okD n) = true → PyData.canLayAll0 ds = true ∧ PyData.depthAll ds ≤ n
  | [], _ => ⟨by rw [PyData.canLayAll0], by rw [PyData.depthAll]; omega⟩
  | d :: ds, z => by
    rw [List.all_cons, Bool.and_eq_true] at z
    have a := h d z.1
    have b := okD_all h ds z.2
    exact ⟨by rw [PyData.canLayAll0, a.1, b.1]; rfl, by rw [PyData.depthAll]; omega⟩
theorem okD_lay : ∀ (n : Nat) (d : D), okD n d = true → d.canLay0 = true ∧ d.depth ≤ n
  | n, .none, _ => ⟨by rw [PyData.canLay0], by rw [PyData.depth]; omega⟩
  | n, .bool _, _ => ⟨by rw [PyData.canLay0], by rw [PyData.depth]; omega⟩
  | n, .int _, _ => ⟨by rw [PyData.canLay0], by rw [PyData.depth]; omega⟩
  | n, .str x, h => ⟨by rw [PyData.canLay0]; unfold okD at h; exact h, by rw [PyData.depth]; omega⟩
  | n + 1, .list ds, h => by
    unfold okD at h
    have := okD_all (okD_lay n) ds h
    exact ⟨by rw [PyData.canLay0]; exact this.1, by rw [PyData.depth]; omega⟩
  | n + 1, .tuple ds, h => by
    unfold okD at h
    have := okD_all (okD_lay n) ds h
    exact ⟨by rw [PyData.canLay0]; exact this.1, by rw [PyData.depth]; omega⟩
  | 0, .list ds, h => by unfold okD at h; cases h
  | 0, .tuple ds, h => by unfold okD at h; cases h
  | n, .dict _, h => by unfold okD at h; cases h
theorem shaped_ok {n : Nat} {d : D} (h : okD n d = true) (hn : n ≤ 64 := by omega) : SeqAt.shaped d = true := by
  have := okD_lay n d h
  unfold SeqAt.shaped
  rw [this.1, Bool.true_and]
  exact decide_eq_true (by omega)
@[simp] theorem shaped_i (i : Int) : SeqAt.shaped (.int i) = true := shaped_ok (n := 0) (by unfold okD; rfl)
@[simp] theorem shaped_b (i : Bool) : SeqAt.shaped (.bool i) = true := shaped_ok (n := 0) (by unfold okD; rfl)
@[simp] theorem shaped_n : SeqAt.shaped .none = true := shaped_ok (n := 0) (by unfold okD; rfl)
theorem shaped_s {x : Str} (h : strOk x = true) : SeqAt.shaped (.str x) = true := shaped_ok (n := 0) (by unfold okD; exact h)
@[simp] theorem dEq_ii (i j : Int) : dEq (.int i) (.int j) = some (.bool (decide (i = j))) := by simp [dEq]
@[simp] theorem dNe_ii (i j : Int) : dNe (.int i) (.int j) = some (.bool (!decide (i = j))) := by simp [dNe]
@[simp] theorem dNe_bb (i j : Bool) : dNe (.bool i) (.bool j) = some (.bool (!(i == j))) := by simp [dNe]
@[simp] theorem dEq_bb (i j : Bool) : dEq (.bool i) (.bool j) = some (.bool (i == j)) := by simp [dEq]
theorem dEq_ss {x y : Str} (hx : strOk x = true) (hy : strOk y = true) : dEq (.str x) (.str y) = some (.bool (decide (x = y))) := by simp [dEq, shaped_s hx, shaped_s hy]
theorem dNe_ss {x y : Str} (hx : strOk x = true) (hy : strOk y = true) : dNe (.str x) (.str y) = some (.bool (!decide (x = y))) := by simp [dNe, shaped_s hx, shaped_s hy]
@[simp] theorem bools_map {α : Type} (q : α → Bool) : ∀ l : List α, bools? (l.map fun x => .bool (q x)) = some (l.map q)
  | [] => rfl
  | x :: l => by
    rw [List.map_cons]
    unfold bools?
    rw [bools_map q l]
    rfl
@[simp] theorem dAll_map {α : Type} (q : α → Bool) (l : List α) : dAll (.list (l.map fun x => .bool (q x))) = some (.bool (l.all q)) := by
  simp [dAll]
@[simp] theorem strs_map {α : Type} (q : α → Str) : ∀ l : List α, strsOf (l.map fun x => .str (q x)) = some (l.map q)
  | [] => rfl
  | x :: l => by
    rw [List.map_cons]
    unfold strsOf
    rw [strs_map q l]
    rfl
@[simp] theorem strs_str (l : List Str) : strsOf (l.map .str) = some l := by
  have := strs_map (fun x => x) l
  simpa using this
@[simp] theorem ints_int : ∀ l : List Int, intsOf (l.map .int) = some l
  | [] => rfl
  | x :: l => by
    rw [List.map_cons]
    unfold intsOf
    rw [ints_int l]
    rfl
theorem dJoin_list {α : Type} {s : Str} {q : α → Str} {l : List α} (h : ((l.map q).map (·.length)).sum + (l.map q).length * s.length ≤ 16777216) : dJoin s (.list (l.map fun x => .str (q x))) = some (.str (Txt.join s (l.map q))) := by
  unfold dJoin
  simp only [strs_map]
  exact if_pos h
theorem atI_nat {α : Type} (xs : List α) (n : Nat) : atI xs (n : Int) = xs[n]? := by
  unfold atI ixN
  rw [if_pos (by omega)]
  by_cases h : n < xs.length
  · rw [if_pos (by omega)]
    simp
  · rw [if_neg (by omega)]
    rw [List.getElem?_eq_none (by omega)]
    rfl
@[simp] theorem atI_0 {α : Type} (xs : List α) : atI xs 0 = xs.head? := by
  have := atI_nat xs 0
  rw [show ((0 : Nat) : Int) = 0 from rfl] at this
  rw [this]
  cases xs <;> rfl
@[simp] theorem atI_1 {α : Type} (xs : List α) : atI xs 1 = xs[1]? := atI_nat xs 1
@[simp] theorem atI_2 {α : Type} (xs : List α) : atI xs 2 = xs[2]? := atI_nat xs 2
/-- a comprehension over one plain name -/
theorem lc_pure {i : Nat} {fi : M (List D)} {fe : M D} {ρ ρ1 : Env} {ds : List D} {F : D → D} (hi : fi ρ = some (.ok ds ρ1)) (hl : ds.length ≤ sizeLine) (h : ∀ d ∈ ds, fe ((ρ1.set i none).set i (some d)) = some (.ok (F d) ((ρ1.set i none).set i (some d)))) : fLc [i] fi (gNm i) tYesF fe ρ = some (.ok (.list (ds.map F)) (ρ1.set i none)) := by
  rw [u_fLc, hi]
  simp only [u_ok]
  rw [compL_pure (F := F) ds [] (by simpa using hl) h]
  simp
theorem lc_same {i : Nat} {fi : M (List D)} {fe : M D} {ρ : Env} {ds : List D} (F : D → D) (hl : ds.length ≤ sizeLine) (hi : fi ρ = some (.ok ds ρ)) (h : ∀ d ∈ ds, fe ((ρ.set i none).set i (some d)) = some (.ok (F d) ((ρ.set i none).set i (some d)))) : fLc [i] fi (gNm i) tYesF fe ρ = some (.ok (.list (ds.map F)) (ρ.set i none)) := lc_pure hi hl h
theorem compL_map {α : Type} {i : Nat} {fe : M D} {g : α → D} (F : α → D) : ∀ (xs : List α) (acc : List D) (ρ : Env), acc.length + xs.length ≤ sizeLine → (∀ d ∈ xs, fe ((ρ.set i none).set i (some (g d))) = some (.ok (F d) ((ρ.set i none).set i (some (g d))))) → compL [i] (gNm i) tYesF fe (xs.map g) acc ρ = some (.ok (acc ++ xs.map F) (ρ.set i none)) := by
  intro xs
  induction xs with
  | nil =>
    intro acc ρ _ _
    simp [compL, wipeE]
  | cons x xs ih =>
    intro acc ρ hl h
    have h1 := h x List.mem_cons_self
    have l1 : acc.length < sizeLine := by
      rw [List.length_cons] at hl
      omega
    rw [List.map_cons]
    unfold compL
    simp only [wipeE, u_gNm, u_tYes]
    rw [h1]
    simp only [l1, if_true]
    rw [List.set_set, List.set_set]
    rw [ih (acc ++ [F x]) (ρ.set i none) (by simp at hl ⊢; omega) (fun d' hd => by
      rw [List.set_set, List.set_set]
      have := h d' (List.mem_cons_of_mem _ hd)
      rw [List.set_set] at this
      exact this), List.set_set]
    simp
/-- the same, the elements the images of xs -/
theorem lc_map {α : Type} {i : Nat} {fi : M (List D)} {fe : M D} {ρ : Env} {xs : List α} {g : α → D} (F : α → D) (hl : xs.length ≤ sizeLine) (hi : fi ρ = some (.ok (xs.map g) ρ)) (h : ∀ d ∈ xs, fe ((ρ.set i none).set i (some (g d))) = some (.ok (F d) ((ρ.set i none).set i (some (g d))))) : fLc [i] fi (gNm i) tYesF fe ρ = some (.ok (.list (xs.map F)) (ρ.set i none)) := by
  rw [u_fLc, hi]
  simp only [u_ok]
  rw [compL_map F xs [] ρ (by simpa using hl) h]
  simp
theorem wipe2 {i j : Nat} (hij : i ≠ j) (ρ : Env) : wipeE ρ [i, j] = (ρ.set i none).set j none := by
  simp only [wipeE]
  exact List.set_comm _ _ (by omega)
theorem compL2_map {α β : Type} {i j : Nat} {fi1 : M (List D)} {fe : M D} {g : α → D} {g1 : β → D} {ys : α → List β} (F : α → β → D) (hij : i ≠ j) : ∀ (xs : List α) (acc : List D) (ρ : Env), acc.length + (xs.flatMap ys).length ≤ sizeLine → (∀ d ∈ xs, fi1 (((ρ.set i none).set j none).set i (some (g d))) = some (.ok ((ys d).map g1) (((ρ.set i none).set j none).set i (some (g d)))) ∧ ∀ e ∈ ys d, fe ((((ρ.set i none).set j none).set i (some (g d))).set j (some (g1 e))) = some (.ok (F d e) ((((ρ.set i none).set j none).set i (some (g d))).set j (some (g1 e))))) → compL2 [i, j] [j] (gNm i) tYesF fi1 (gNm j) tYesF fe (xs.map g) acc ρ = some (.ok (acc ++ xs.flatMap fun x => (ys x).map (F x)) ((ρ.set i none).set j none)) := by
  intro xs
  induction xs with
  | nil =>
    intro acc ρ _ _
    simp [compL2, wipe2 hij]
  | cons x xs ih =>
    intro acc ρ hl h
    obtain ⟨h1, h2⟩ := h x List.mem_cons_self
    rw [List.flatMap_cons, List.length_append] at hl
    rw [List.map_cons]
    unfold compL2
    simp only [wipe2 hij, u_gNm, u_tYes]
    rw [h1]
    have ex : ∀ v : Option D, ((((ρ.set i none).set j none).set i v).set j none) = ((ρ.set i none).set j none).set i v := fun v => by
      rw [List.set_comm _ _ (by omega : i ≠ j), List.set_set]
    simp only
    rw [compL_map (F x) (ys x) acc _ (by omega) (fun e he => by rw [ex]; exact h2 e he)]
    simp only
    have ey : ∀ v : Option D, ((((((ρ.set i none).set j none).set i v).set j none).set i none).set j none) = (ρ.set i none).set j none := fun v => by
      rw [ex, List.set_set, List.set_comm _ _ (by omega : j ≠ i), List.set_set, List.set_set]
    rw [ey]
    have ez : ((((ρ.set i none).set j none).set i none).set j none) = (ρ.set i none).set j none := by
      rw [List.set_comm _ _ (by omega : j ≠ i), List.set_set, List.set_set]
    rw [ih (acc ++ (ys x).map (F x)) ((ρ.set i none).set j none) (by rw [List.length_append, List.length_map]; omega) (fun d hd => by
      rw [ez]
      exact h d (List.mem_cons_of_mem _ hd)), ez, List.flatMap_cons, List.append_assoc]
theorem lc2_map {α β : Type} {i j : Nat} {fi fi1 : M (List D)} {fe : M D} {g : α → D} {g1 : β → D} {ys : α → List β} {xs : List α} {ρ : Env} (F : α → β → D) (hij : i ≠ j) (hl : (xs.flatMap ys).length ≤ sizeLine) (hi : fi ρ = some (.ok (xs.map g) ρ)) (h : ∀ d ∈ xs, fi1 (((ρ.set i none).set j none).set i (some (g d))) = some (.ok ((ys d).map g1) (((ρ.set i none).set j none).set i (some (g d)))) ∧ ∀ e ∈ ys d, fe ((((ρ.set i none).set j none).set i (some (g d))).set j (some (g1 e))) = some (.ok (F d e) ((((ρ.set i none).set j none).set i (some (g d))).set j (some (g1 e))))) : fLc2 [i, j] [j] fi (gNm i) tYesF fi1 (gNm j) tYesF fe ρ = some (.ok (.list (xs.flatMap fun x => (ys x).map (F x))) ((ρ.set i none).set j none)) := by
  show bnd (fi ρ) Out.err (fun ds ρ1 => bnd (compL2 [i, j] [j] (gNm i) tYesF fi1 (gNm j) tYesF fe ds [] ρ1) Out.err fun r ρ2 => some (Out.ok (PyData.list r) ρ2)) = _
  rw [hi]
  simp only [u_ok]
  rw [compL2_map F hij xs [] ρ (by simpa using hl) h]
  simp
/-! ### slices of texts -/
theorem cs_mk (l : List Nat) : cs ⟨l.toArray⟩ = l := by simp [cs]
theorem cs_cut (z : Str) (lo hi : Option Int) : cs (cutS z lo hi) = ((cs z).drop (HT.sIx z.length 0 lo)).take (HT.sIx z.length z.length hi - HT.sIx z.length 0 lo) := by
  unfold cutS
  rw [cs_mk]
theorem cs_to (z : Str) (n : Nat) : cs (cutS z none (some (n : Int))) = (cs z).take n := by
  rw [cs_cut, HT.sIx_none, HT.sIx_nat, ← cs_len]
  simp
theorem cs_from (z : Str) (n : Nat) : cs (cutS z (some (n : Int)) none) = (cs z).drop n := by
  rw [cs_cut, HT.sIx_none, HT.sIx_nat, ← cs_len]
  by_cases h : n ≤ (cs z).length
  · rw [Nat.min_eq_left h]
    exact List.take_of_length_le (by simp)
  · rw [Nat.min_eq_right (by omega), List.drop_eq_nil_of_le (Nat.le_refl _), List.drop_eq_nil_of_le (by omega), List.take_nil]
end FN
set_option Elab.async false
set_option linter.all false
set_option maxRecDepth 100000
set_option maxHeartbeats 4000000
/-! FT2: all or none; rows and tables of numbers as texts (no program). -/
namespace FN
open PySem PySem.Spec PyProof.Rows L2
open PySem.PyData (strOk)
section
variable {α β γ : Type}
def mapO (f : α → Option β) : List α → Option (List β)
  | [] => some []
  | a :: r => match f a with
    | none => none
    | some b => (mapO f r).map fun l => b :: l
theorem mapO_some {f : α → Option β} : ∀ {l : List α} {l' : List β}, mapO f l = some l' ↔ l.map f = l'.map some
  | [], l' => by
    cases l' <;> simp [mapO]
  | a :: r, l' => by
    unfold mapO
    cases h : f a with
    | none => cases l' <;> simp [h]
    | some b =>
      cases l' with
      | nil => simp [h]
      | cons c l' =>
        simp [h, Option.map_eq_some_iff]
        constructor
        · rintro ⟨z, e⟩
          exact ⟨e, mapO_some.mp z⟩
        · rintro ⟨e, z⟩
          exact ⟨mapO_some.mpr z, e⟩
theorem mapO_none {f : α → Option β} : ∀ {l : List α}, mapO f l = none ↔ l.any (fun a => (f a).isNone) = true
  | [] => by simp [mapO]
  | a :: r => by
    unfold mapO
    cases h : f a with
    | none => simp [h]
    | some b => simp only [List.any_cons, h, Option.isNone_some, Bool.false_or, Option.map_eq_none_iff]; exact mapO_none
theorem mapO_length {f : α → Option β} {l : List α} {l' : List β} (h : mapO f l = some l') : l'.length = l.length := by
  have := congrArg List.length (mapO_some.mp h)
  simpa using this.symm
theorem mapO_back {f : α → Option β} {g : β → α} (h : ∀ a b, f a = some b → g b = a) : ∀ {l : List α} {l' : List β}, mapO f l = some l' → l'.map g = l
  | [], l', z => by
    rw [mapO_some] at z
    cases l' with
    | nil => rfl
    | cons => simp at z
  | a :: r, l', z => by
    rw [mapO_some] at z
    cases l' with
    | nil => simp at z
    | cons b l' =>
      simp at z
      rw [List.map_cons, h a b z.1, mapO_back h (mapO_some.mpr (by simpa using z.2))]
theorem mapO_fore {f : α → Option β} {g : β → α} {l : List β} (h : ∀ b ∈ l, f (g b) = some b) : mapO f (l.map g) = some l := by
  rw [mapO_some, List.map_map]
  exact List.map_congr_left h
theorem mapO_mem {f : α → Option β} : ∀ {l : List α} {l' : List β}, mapO f l = some l' → ∀ b ∈ l', ∃ a ∈ l, f a = some b
  | [], l', z, b, hb => by
    rw [mapO_some] at z
    cases l' with
    | nil => cases hb
    | cons => simp at z
  | a :: r, l', z, b, hb => by
    rw [mapO_some] at z
    cases l' with
    | nil => cases hb
    | cons c l' =>
      simp at z
      rcases List.mem_cons.mp hb with rfl | hb
      · exact ⟨a, List.mem_cons_self, z.1⟩
      · obtain ⟨x, hx, e⟩ := mapO_mem (mapO_some.mpr (by simpa using z.2)) b hb
        exact ⟨x, List.mem_cons_of_mem _ hx, e⟩
end
/-! ### numbers as texts, once more -/
theorem val_lt0 : ∀ (ds : List Nat) (acc : Nat), (∀ c ∈ ds, 48 ≤ c ∧ c ≤ 57) → ds.foldl (fun acc c => acc * 10 + (c - 48)) acc < (acc + 1) * 10 ^ ds.length
  | [], acc, _ => by simp
  | c :: ds, acc, h => by
    have h1 := val_lt0 ds (acc * 10 + (c - 48)) fun d hd => h d (List.mem_cons_of_mem _ hd)
    have h2 := h c List.mem_cons_self
    rw [List.foldl_cons, List.length_cons, Nat.pow_succ]
    refine Nat.lt_of_lt_of_le h1 ?_
    rw [Nat.mul_comm (10 ^ ds.length) 10, ← Nat.mul_assoc]
    exact Nat.mul_le_mul_right _ (by omega)
theorem val_lt (ds : List Nat) (h : ∀ c ∈ ds, 48 ≤ c ∧ c ≤ 57) : NumText.digitsVal ds < 10 ^ ds.length := by
  have := val_lt0 ds 0 h
  rw [Nat.zero_add, Nat.one_mul] at this
  exact this
theorem intL_small {l : List Nat} {n : Int} (h : intL l = some n) : n.natAbs < 10 ^ 30 := by
  have key : ∀ ds : List Nat, ¬ (ds.length = 0 ∨ 30 < ds.length ∨ ¬ (∀ c ∈ ds, 48 ≤ c ∧ c ≤ 57)) → NumText.digitsVal ds < 10 ^ 30 := fun ds q => by
    have q2 : ¬ 30 < ds.length := fun z => q (.inr (.inl z))
    have q4 := val_lt _ (Classical.byContradiction fun z => q (.inr (.inr z)) : ∀ c ∈ ds, 48 ≤ c ∧ c ≤ 57)
    exact Nat.lt_of_lt_of_le q4 (Nat.pow_le_pow_right (by decide) (by omega))
  unfold intL at h
  by_cases h45 : l.head? = some 45
  · simp only [h45, if_true] at h
    by_cases q : l.tail.length = 0 ∨ 30 < l.tail.length ∨ ¬ (∀ c ∈ l.tail, 48 ≤ c ∧ c ≤ 57)
    · rw [if_pos q] at h
      cases h
    · rw [if_neg q] at h
      have k := key _ q
      by_cases q2 : l.tail.head? = some 48 ∧ l ≠ [48]
      · rw [if_pos q2] at h
        cases h
      · rw [if_neg q2] at h
        have e := Option.some.inj h
        omega
  · simp only [h45, if_false] at h
    by_cases q : l.length = 0 ∨ 30 < l.length ∨ ¬ (∀ c ∈ l, 48 ≤ c ∧ c ≤ 57)
    · rw [if_pos q] at h
      cases h
    · rw [if_neg q] at h
      have k := key _ q
      by_cases q2 : l.head? = some 48 ∧ l ≠ [48]
      · rw [if_pos q2] at h
        cases h
      · rw [if_neg q2] at h
        have e := Option.some.inj h
        omega
theorem log_small {n : Int} (h : n.natAbs < 10 ^ 30) : n.natAbs.log2 < 1920 := by
  by_cases h0 : n.natAbs = 0
  · rw [h0]; decide
  · rw [Nat.log2_lt h0]
    exact Nat.lt_of_lt_of_le h (by decide +kernel)
theorem dstr_bound {n : Int} (h : n.natAbs < 10 ^ 30) : (cs (dstr n)).length ≤ 31 ∧ ∀ c ∈ cs (dstr n), c = 45 ∨ (48 ≤ c ∧ c ≤ 57) := intL_bound (intL_dstr h)
theorem strOk_of {x : Str} (h : ∀ c ∈ cs x, c < 0x110000) : strOk x = true := by
  unfold PyData.strOk
  rw [Array.all_eq_true']
  intro c hc
  exact decide_eq_true (h c (Array.mem_toList_iff.mpr hc))
theorem of_strOk {x : Str} (h : strOk x = true) : ∀ c ∈ cs x, c < 0x110000 := by
  unfold PyData.strOk at h
  rw [Array.all_eq_true'] at h
  intro c hc
  exact of_decide_eq_true (h c (Array.mem_toList_iff.mp hc))
/-! ### words: numbers, and '-' -/
def wS : Option Int → Str
  | none => "-"
  | some i => dstr i
def Sm : Option Int → Prop
  | none => True
  | some i => i.natAbs < 10 ^ 30
/-- a word's meaning; '-' only where b lets it -/
def itm (b : Bool) (w : Str) : Option (Option Int) := if b = true ∧ cs w = [45] then some none else (intL (cs w)).map some
theorem cs_dash : cs ("-" : Str) = [45] := by decide +kernel
theorem itm_back {b : Bool} {w : Str} {o : Option Int} (h : itm b w = some o) : wS o = w := by
  unfold itm at h
  split at h
  · rename_i z
    cases h
    exact str_ext (by rw [z.2]; exact cs_dash)
  · rw [Option.map_eq_some_iff] at h
    obtain ⟨i, e, rfl⟩ := h
    exact str_ext (dstr_intL e)
theorem itm_sm {b : Bool} {w : Str} {o : Option Int} (h : itm b w = some o) : Sm o ∧ (b = false → o.isSome = true) := by
  unfold itm at h
  split at h
  · rename_i z
    cases h
    exact ⟨True.intro, fun q => by rw [q] at z; cases z.1⟩
  · rw [Option.map_eq_some_iff] at h
    obtain ⟨i, e, rfl⟩ := h
    exact ⟨intL_small e, fun _ => rfl⟩
theorem intL_dash : intL [45] = none := by decide +kernel
theorem itm_fore {b : Bool} {o : Option Int} (h : Sm o) (hb : b = false → o.isSome = true) : itm b (wS o) = some o := by
  unfold itm
  cases o with
  | none =>
    cases b with
    | true => rw [if_pos ⟨rfl, cs_dash⟩]
    | false => cases hb rfl
  | some i =>
    have e := intL_dstr (show i.natAbs < 10 ^ 30 from h)
    show (if b = true ∧ cs (dstr i) = [45] then _ else _) = _
    rw [if_neg]
    · show Option.map some (intL (cs (dstr i))) = _
      rw [e]
      rfl
    · intro z
      rw [z.2, intL_dash] at e
      cases e
theorem wS_bound {o : Option Int} (h : Sm o) : (cs (wS o)).length ≤ 31 ∧ ∀ c ∈ cs (wS o), c = 45 ∨ (48 ≤ c ∧ c ≤ 57) := by
  cases o with
  | none =>
    show (cs ("-" : Str)).length ≤ 31 ∧ _
    rw [show cs (wS none) = [45] from cs_dash, cs_dash]
    exact ⟨by decide, fun c hc => .inl (by simpa using hc)⟩
  | some i => exact dstr_bound h
/-! ### rows -/
abbrev sp1 : Str := " "
abbrev sp3 : Str := " ; "
abbrev bar3 : Str := " | "
theorem cs_sp1 : cs sp1 = [32] := by decide +kernel
theorem cs_sp3 : cs sp3 = [32, 59, 32] := by decide +kernel
theorem cs_bar3 : cs bar3 = [32, 124, 32] := by decide +kernel
theorem mark1 : Mark (cs sp1) 32 0 := by rw [cs_sp1]; exact ⟨rfl, by decide⟩
theorem mark3 : Mark (cs sp3) 59 1 := by rw [cs_sp3]; exact ⟨rfl, by decide⟩
theorem markb : Mark (cs bar3) 124 1 := by rw [cs_bar3]; exact ⟨rfl, by decide⟩
theorem kind1 : Builtin.Str.strKind sp1 = 1 := by decide +kernel
theorem kind3 : Builtin.Str.strKind sp3 = 1 := by decide +kernel
theorem kindb : Builtin.Str.strKind bar3 = 1 := by decide +kernel
theorem len1 : sp1.length = 1 := by decide +kernel
theorem len3 : sp3.length = 3 := by decide +kernel
theorem lenb : bar3.length = 3 := by decide +kernel
def rowS (l : List (Option Int)) : Str := Txt.join sp1 (l.map wS)
def tabS (l : List (List (Option Int))) : Str := Txt.join sp3 (l.map rowS)
def rowP (b : Bool) (x : Str) : Option (List (Option Int)) := mapO (itm b) (Txt.split x sp1)
def tabP (b : Bool) (x : Str) : Option (List (List (Option Int))) := mapO (rowP b) (Txt.split x sp3)
theorem rowP_back {b : Bool} {x : Str} {l : List (Option Int)} (h : rowP b x = some l) : rowS l = x := by
  unfold rowS
  rw [mapO_back (fun _ _ => itm_back) h, join_split]
theorem rowP_ne {b : Bool} {x : Str} {l : List (Option Int)} (h : rowP b x = some l) : l ≠ [] := fun z => by
  have := mapO_length h
  rw [z] at this
  exact split_ne x sp1 kind1 (by rw [len1]; decide) (List.length_eq_zero_iff.mp this.symm)
theorem rowP_sm {b : Bool} {x : Str} {l : List (Option Int)} (h : rowP b x = some l) : ∀ o ∈ l, Sm o ∧ (b = false → o.isSome = true) := fun o ho => by
  obtain ⟨w, _, e⟩ := mapO_mem h o ho
  exact itm_sm e
theorem rowP_fore {b : Bool} {l : List (Option Int)} (hl : l ≠ []) (h : ∀ o ∈ l, Sm o ∧ (b = false → o.isSome = true)) : rowP b (rowS l) = some l := by
  unfold rowP rowS
  rw [split_join mark1 kind1 (by simpa using hl)]
  · exact mapO_fore fun o ho => itm_fore (h o ho).1 (h o ho).2
  · intro p hp
    obtain ⟨o, ho, rfl⟩ := List.mem_map.mp hp
    intro z
    rcases (wS_bound (h o ho).1).2 32 z with q | q <;> omega
theorem tabP_back {b : Bool} {x : Str} {l : List (List (Option Int))} (h : tabP b x = some l) : tabS l = x := by
  unfold tabS
  rw [mapO_back (fun _ _ => rowP_back) h, join_split]
theorem tabP_ne {b : Bool} {x : Str} {l : List (List (Option Int))} (h : tabP b x = some l) : l ≠ [] := fun z => by
  have := mapO_length h
  rw [z] at this
  exact split_ne x sp3 kind3 (by rw [len3]; decide) (List.length_eq_zero_iff.mp this.symm)
/-- the signs of a row's text -/
theorem rowS_cs {l : List (Option Int)} (h : ∀ o ∈ l, Sm o) : ∀ c ∈ cs (rowS l), c = 32 ∨ c = 45 ∨ (48 ≤ c ∧ c ≤ 57) := by
  unfold rowS
  rw [cs_join, cs_sp1]
  induction l with
  | nil => intro c hc; simp [jn] at hc
  | cons o l ih =>
    intro c hc
    cases l with
    | nil =>
      exact .inr ((wS_bound (h o List.mem_cons_self)).2 c (by simpa [jn] using hc))
    | cons o2 l =>
      simp only [List.map_cons] at hc ih
      unfold jn at hc
      rcases List.mem_append.mp hc with hc | hc
      · exact .inr ((wS_bound (h o List.mem_cons_self)).2 c hc)
      · rcases List.mem_append.mp hc with hc | hc
        · exact .inl (by simpa using hc)
        · exact ih (fun o ho => h o (List.mem_cons_of_mem _ ho)) c hc
theorem tabP_fore {b : Bool} {l : List (List (Option Int))} (hl : l ≠ []) (h : ∀ r ∈ l, r ≠ [] ∧ ∀ o ∈ r, Sm o ∧ (b = false → o.isSome = true)) : tabP b (tabS l) = some l := by
  unfold tabP tabS
  rw [split_join mark3 kind3 (by simpa using hl)]
  · exact mapO_fore fun o ho => rowP_fore (h o ho).1 (h o ho).2
  · intro p hp
    obtain ⟨o, ho, rfl⟩ := List.mem_map.mp hp
    intro z
    rcases rowS_cs (fun q hq => ((h o ho).2 q hq).1) 59 z with q | q | q <;> omega
/-! ### lengths -/
theorem jn_len (s : List Nat) : ∀ ps : List (List Nat), ps ≠ [] → (jn s ps).length + s.length = (ps.map (·.length)).sum + ps.length * s.length
  | [], h => absurd rfl h
  | [p], _ => by simp [jn]
  | p :: q :: ps, _ => by
    have ih := jn_len s (q :: ps) (by simp)
    unfold jn
    rw [List.length_append, List.length_append, List.map_cons, List.sum_cons, List.length_cons, Nat.succ_mul]
    omega
theorem join_len (s : Str) (ps : List Str) (h : ps ≠ []) : (Txt.join s ps).length + s.length = (ps.map (·.length)).sum + ps.length * s.length := by
  have := jn_len (cs s) (ps.map cs) (by simpa using h)
  rw [← cs_join, List.length_map, List.map_map, cs_len, cs_len] at this
  rw [this]
  congr 2
theorem dJoin_txt {α : Type} {s : Str} {q : α → Str} {l : List α} (h : (Txt.join s (l.map q)).length ≤ 1000000) (hs : s.length ≤ 1000) : dJoin s (.list (l.map fun x => .str (q x))) = some (.str (Txt.join s (l.map q))) := by
  refine dJoin_list ?_
  by_cases e : l.map q = []
  · rw [e]
    simp
  · have := join_len s (l.map q) e
    omega
theorem split_len (x s : Str) (hk : Builtin.Str.strKind s = 1) (hw : 1 ≤ s.length) : (Txt.split x s).length ≤ x.length + 1 := by
  have e := join_len s (Txt.split x s) (split_ne x s hk hw)
  rw [join_split] at e
  have h1 : (Txt.split x s).length - 1 ≤ ((Txt.split x s).length - 1) * s.length := Nat.le_mul_of_pos_right _ hw
  have h2 : ((Txt.split x s).length - 1) * s.length + s.length = (Txt.split x s).length * s.length := by
    have : 0 < (Txt.split x s).length := List.length_pos_iff.mpr (split_ne x s hk hw)
    rw [← Nat.succ_mul]
    congr 1
    omega
  omega
theorem mem_sum {l : List Nat} {n : Nat} (h : n ∈ l) : n ≤ l.sum := by
  induction l with
  | nil => cases h
  | cons a l ih =>
    rw [List.sum_cons]
    rcases List.mem_cons.mp h with rfl | h
    · omega
    · have := ih h
      omega
theorem join_piece {s p : Str} {ps : List Str} (h : p ∈ ps) : p.length ≤ (Txt.join s ps).length := by
  have e := join_len s ps (List.ne_nil_of_mem h)
  have h1 : p.length ≤ (ps.map (·.length)).sum := mem_sum (List.mem_map.mpr ⟨p, h, rfl⟩)
  have h2 : s.length ≤ ps.length * s.length := Nat.le_mul_of_pos_left _ (List.length_pos_of_mem h)
  have h3 : (Txt.split (Txt.join s ps) s).length = (Txt.split (Txt.join s ps) s).length := rfl
  obtain ⟨n, hn⟩ : ∃ n, ps.length = n + 1 := ⟨ps.length - 1, by have := List.length_pos_of_mem h; omega⟩
  rw [hn, Nat.succ_mul] at e
  omega
theorem sum_le {l : List Nat} {n : Nat} (h : ∀ a ∈ l, a ≤ n) : l.sum ≤ l.length * n := by
  induction l with
  | nil => simp
  | cons a l ih =>
    rw [List.sum_cons, List.length_cons, Nat.succ_mul]
    have := h a List.mem_cons_self
    have := ih fun b hb => h b (List.mem_cons_of_mem _ hb)
    omega
theorem join_le {s : Str} {ps : List Str} {n : Nat} (h : ∀ p ∈ ps, p.length ≤ n) : (Txt.join s ps).length ≤ ps.length * (n + s.length) := by
  by_cases e : ps = []
  · subst e
    have : cs (Txt.join s []) = [] := by rw [cs_join]; rfl
    rw [← cs_len, this]
    simp
  · have q := join_len s ps e
    have h1 : (ps.map (·.length)).sum ≤ (ps.map (·.length)).length * n := sum_le fun a ha => by
      obtain ⟨p, hp, rfl⟩ := List.mem_map.mp ha
      exact h p hp
    rw [List.length_map] at h1
    rw [Nat.mul_add]
    omega
theorem rowS_le {l : List (Option Int)} (h : ∀ o ∈ l, Sm o) : (rowS l).length ≤ l.length * 32 := by
  unfold rowS
  have := join_le (s := sp1) (ps := l.map wS) (n := 31) fun p hp => by
    obtain ⟨o, ho, rfl⟩ := List.mem_map.mp hp
    rw [← cs_len]
    exact (wS_bound (h o ho)).1
  rw [len1, List.length_map] at this
  exact this
end FN
set_option Elab.async false
set_option linter.all false
set_option maxRecDepth 100000
set_option maxHeartbeats 4000000
/-! FN20: loops and comprehensions by invariants; the bag that laws draw from (no program). -/
namespace FN
open PySem PySem.Spec PyProof.Rows L2
open PySem.PyData (eqv eqvAll strOk)
/-! ### invariants -/
/-- a comprehension over one plain name, G at each turn (slot i is free in it), P of each element -/
theorem compL_inv {i : Nat} {fe : M D} (G : Nat → Env → Prop) (P : D → Prop) : ∀ (ds acc : List D) (n : Nat) (ρ : Env), acc.length + ds.length ≤ sizeLine → G n (ρ.set i none) → (∀ k d ρ, ds[k]? = some d → G (n + k) ρ → ∃ v ρ', fe (ρ.set i (some d)) = some (.ok v ρ') ∧ P v ∧ G (n + k + 1) (ρ'.set i none)) → ∃ vs ρ', compL [i] (gNm i) tYesF fe ds acc ρ = some (.ok (acc ++ vs) ρ') ∧ vs.length = ds.length ∧ (∀ v ∈ vs, P v) ∧ G (n + ds.length) ρ'
  | [], acc, n, ρ, _, hG, _ => ⟨[], ρ.set i none, by simp [compL, wipeE], rfl, fun _ z => by simp at z, by simpa using hG⟩
  | d :: ds, acc, n, ρ, hl, hG, h => by
    obtain ⟨v, ρ', e, p, g⟩ := h 0 d (ρ.set i none) rfl (by simpa using hG)
    have l1 : acc.length < sizeLine := by
      rw [List.length_cons] at hl
      omega
    obtain ⟨vs, ρ2, e2, l2, p2, g2⟩ := compL_inv (i := i) (fe := fe) G P ds (acc ++ [v]) (n + 1) (ρ'.set i none) (by simp at hl ⊢; omega) (by rw [List.set_set]; simpa using g) (fun k d' ρ3 hk hg => by
      have := h (k + 1) d' ρ3 (by simpa using hk) (by rw [show n + (k + 1) = n + 1 + k by omega]; exact hg)
      rw [show n + (k + 1) + 1 = n + 1 + k + 1 by omega] at this
      exact this)
    refine ⟨v :: vs, ρ2, ?_, by simp [l2], ?_, by rw [List.length_cons, show n + (ds.length + 1) = n + 1 + ds.length by omega]; exact g2⟩
    · unfold compL
      simp only [wipeE, u_gNm, u_tYes]
      rw [e]
      simp only [l1, if_true]
      rw [e2]
      simp
    · intro x hx
      rcases List.mem_cons.mp hx with rfl | hx
      · exact p
      · exact p2 x hx
theorem lc_inv {i : Nat} {fi : M (List D)} {fe : M D} {ρ ρ1 : Env} {ds : List D} (G : Nat → Env → Prop) (P : D → Prop) (hl : ds.length ≤ sizeLine) (hi : fi ρ = some (.ok ds ρ1)) (h0 : G 0 (ρ1.set i none)) (h : ∀ k d ρ, ds[k]? = some d → G k ρ → ∃ v ρ', fe (ρ.set i (some d)) = some (.ok v ρ') ∧ P v ∧ G (k + 1) (ρ'.set i none)) : ∃ vs ρ', fLc [i] fi (gNm i) tYesF fe ρ = some (.ok (.list vs) ρ') ∧ vs.length = ds.length ∧ (∀ v ∈ vs, P v) ∧ G ds.length ρ' := by
  obtain ⟨vs, ρ', e, l, p, g⟩ := compL_inv (i := i) (fe := fe) G P ds [] 0 ρ1 (by simpa using hl) h0 (fun k d ρ hk hg => by
    rw [Nat.zero_add] at hg ⊢
    exact h k d ρ hk hg)
  refine ⟨vs, ρ', ?_, l, p, by simpa using g⟩
  rw [u_fLc, hi]
  simp only [u_ok]
  rw [e]
  simp
/-- a for loop without break, return -/
theorem forL_inv {ft : D → Env → Option Env} {f : Env → Option Fl} (G : Nat → Env → Prop) : ∀ (ds : List D) (n : Nat) (ρ : Env), G n ρ → (∀ k d ρ, ds[k]? = some d → G (n + k) ρ → ∃ ρ1 ρ2, ft d ρ = some ρ1 ∧ (f ρ1 = some (.nx ρ2) ∨ f ρ1 = some (.ct ρ2)) ∧ G (n + k + 1) ρ2) → ∃ ρ', forL ft f ds ρ = some (.nx ρ') ∧ G (n + ds.length) ρ'
  | [], n, ρ, hG, _ => ⟨ρ, rfl, hG⟩
  | d :: ds, n, ρ, hG, h => by
    obtain ⟨ρ1, ρ2, e1, e2, g⟩ := h 0 d ρ rfl hG
    obtain ⟨ρ', e3, g3⟩ := forL_inv (ft := ft) (f := f) G ds (n + 1) ρ2 g (fun k d' ρ3 hk hg => by
      have := h (k + 1) d' ρ3 (by simpa using hk) (by rw [show n + (k + 1) = n + 1 + k by omega]; exact hg)
      rw [show n + (k + 1) + 1 = n + 1 + k + 1 by omega] at this
      exact this)
    refine ⟨ρ', ?_, by rw [List.length_cons, show n + (ds.length + 1) = n + 1 + ds.length by omega]; exact g3⟩
    unfold forL
    rw [e1]
    rcases e2 with e2 | e2
    · simp only [e2]; exact e3
    · simp only [e2]; exact e3
theorem for_inv {fi : M (List D)} {ft : D → Env → Option Env} {f : Env → Option Fl} {ρ ρ1 : Env} {ds : List D} (G : Nat → Env → Prop) (hi : fi ρ = some (.ok ds ρ1)) (h0 : G 0 ρ1) (h : ∀ k d ρ, ds[k]? = some d → G k ρ → ∃ ρ1 ρ2, ft d ρ = some ρ1 ∧ (f ρ1 = some (.nx ρ2) ∨ f ρ1 = some (.ct ρ2)) ∧ G (k + 1) ρ2) : ∃ ρ', sFor fi ft f ρ = some (.nx ρ') ∧ G ds.length ρ' := by
  obtain ⟨ρ', e, g⟩ := forL_inv (ft := ft) (f := f) G ds 0 ρ1 h0 (fun k d ρ hk hg => by
    rw [Nat.zero_add] at hg ⊢
    exact h k d ρ hk hg)
  refine ⟨ρ', ?_, by simpa using g⟩
  rw [u_sFor, hi]
  exact e
/-! ### comprehensions in general -/
theorem compL_fm {vs : List Nat} {ft : D → Env → Option Env} {tt : M Bool} {fe : M D} {ρw : Env} (F : D → Option D) (hw : wipeE ρw vs = ρw) : ∀ (ds acc : List D), acc.length + ds.length ≤ sizeLine → (∀ d ∈ ds, ∃ ρ1 ρ2 ρ3, ft d ρw = some ρ1 ∧ ((F d = none ∧ tt ρ1 = some (.ok false ρ2) ∧ wipeE ρ2 vs = ρw) ∨ ∃ y, F d = some y ∧ tt ρ1 = some (.ok true ρ2) ∧ fe ρ2 = some (.ok y ρ3) ∧ wipeE ρ3 vs = ρw)) → compL vs ft tt fe ds acc ρw = some (.ok (acc ++ ds.filterMap F) ρw)
  | [], acc, _, _ => by simp [compL, hw]
  | d :: ds, acc, hl, h => by
    obtain ⟨ρ1, ρ2, ρ3, e1, h1⟩ := h d List.mem_cons_self
    rw [List.length_cons] at hl
    unfold compL
    rw [hw, e1]
    rcases h1 with ⟨f, e2, w2⟩ | ⟨y, f, e2, e3, w3⟩
    · simp only [e2]
      rw [w2, compL_fm F hw ds acc (by omega) fun d' hd => h d' (List.mem_cons_of_mem _ hd), List.filterMap_cons, f]
    · have l1 : acc.length < sizeLine := by omega
      simp only [e2, e3, l1, if_true]
      rw [w3, compL_fm F hw ds (acc ++ [y]) (by simp; omega) fun d' hd => h d' (List.mem_cons_of_mem _ hd), List.filterMap_cons, f]
      simp
theorem lc_fm {vs : List Nat} {fi : M (List D)} {ft : D → Env → Option Env} {tt : M Bool} {fe : M D} {ρ ρw : Env} {ds : List D} (F : D → Option D) (hl : ds.length ≤ sizeLine) (hi : fi ρ = some (.ok ds ρw)) (hw : wipeE ρw vs = ρw) (h : ∀ d ∈ ds, ∃ ρ1 ρ2 ρ3, ft d ρw = some ρ1 ∧ ((F d = none ∧ tt ρ1 = some (.ok false ρ2) ∧ wipeE ρ2 vs = ρw) ∨ ∃ y, F d = some y ∧ tt ρ1 = some (.ok true ρ2) ∧ fe ρ2 = some (.ok y ρ3) ∧ wipeE ρ3 vs = ρw)) : fLc vs fi ft tt fe ρ = some (.ok (.list (ds.filterMap F)) ρw) := by
  rw [u_fLc, hi]
  simp only [u_ok]
  rw [compL_fm F hw ds [] (by simpa using hl) h]
  simp
/-- without a test -/
theorem lc_all {vs : List Nat} {fi : M (List D)} {ft : D → Env → Option Env} {fe : M D} {ρ ρw : Env} {ds : List D} (F : D → D) (hl : ds.length ≤ sizeLine) (hi : fi ρ = some (.ok ds ρw)) (hw : wipeE ρw vs = ρw) (h : ∀ d ∈ ds, ∃ ρ1 ρ3, ft d ρw = some ρ1 ∧ fe ρ1 = some (.ok (F d) ρ3) ∧ wipeE ρ3 vs = ρw) : fLc vs fi ft tYesF fe ρ = some (.ok (.list (ds.map F)) ρw) := by
  have := lc_fm (vs := vs) (ft := ft) (tt := tYesF) (fe := fe) (fun d => some (F d)) hl hi hw (fun d hd => by
    obtain ⟨ρ1, ρ3, e1, e3, w⟩ := h d hd
    exact ⟨ρ1, ρ1, ρ3, e1, .inr ⟨F d, rfl, rfl, e3, w⟩⟩)
  rw [this, show (fun d => some (F d)) = some ∘ F from rfl, List.filterMap_eq_map]
/-! ### range -/
theorem rgD_len (i j : Int) : (rgD i j).length = (j - i).toNat := by simp [rgD]
theorem rgD_get {i j : Int} {k : Nat} {d : D} (h : (rgD i j)[k]? = some d) : d = .int (i + (k : Nat)) ∧ k < (j - i).toNat := by
  unfold rgD at h
  rw [List.getElem?_map] at h
  have hk : k < (j - i).toNat := by
    apply Classical.byContradiction
    intro z
    rw [List.getElem?_eq_none (by simp; omega)] at h
    cases h
  rw [List.getElem?_range hk] at h
  cases h
  exact ⟨rfl, hk⟩
@[simp] theorem u_iRg1 {m : Md} {fa : M D} {ρ : Env} : iRg1 m fa ρ = bnd (fa ρ) Out.err fun x ρ1 => match rd m x ρ1 with
  | some (.int j) => if okR j = true then some (.ok (rgD 0 j) ρ1) else none
  | _ => none := (rfl)
@[simp] theorem u_iRg2 {ma mb : Md} {fa fb : M D} {ρ : Env} : iRg2 ma mb fa fb ρ = bnd (fa ρ) Out.err fun x ρ1 => bnd (fb ρ1) Out.err fun y ρ2 => match rd ma x ρ2, rd mb y ρ2 with
  | some (.int i), some (.int j) => if okR i && okR j then some (.ok (rgD i j) ρ2) else none
  | _, _ => none := (rfl)
theorem okR_of {i : Int} (h1 : -(2 ^ 62) ≤ i) (h2 : i < 2 ^ 62) : okR i = true := decide_eq_true ⟨h1, h2⟩
@[simp] theorem u_sPut {i : Nat} {fi fa : M D} {ρ : Env} : sPut i fi fa ρ = bnd (fa ρ) Fl.err fun d ρ1 => match ρ1[i]? with
  | some (some (.list _)) => bnd (fi ρ1) Fl.err fun k ρ2 => match ρ2[i]?, k with
    | some (some (.list ds)), .int k => (ixN ds.length k).map fun j => .nx (ρ2.set i (some (.list (ds.set j d))))
    | _, _ => none
  | _ => none := (rfl)
@[simp] theorem u_fMt {i : Nat} {op : List D → D → Option (D × List D)} {fa : M D} {ρ : Env} : fMt i op fa ρ = match ρ[i]? with
  | some (some (.list _)) => bnd (fa ρ) Out.err fun d ρ1 => match ρ1[i]? with
    | some (some (.list ds)) => (op ds d).map fun r => .ok r.1 (ρ1.set i (some (.list r.2)))
    | _ => none
  | _ => none := (rfl)
@[simp] theorem u_fMt0 {i : Nat} {op : List D → Option (D × List D)} {ρ : Env} : fMt0 i op ρ = match ρ[i]? with
  | some (some (.list ds)) => (op ds).map fun r => .ok r.1 (ρ.set i (some (.list r.2)))
  | _ => none := (rfl)
@[simp] theorem u_sAug {i : Nat} {op : D → D → Option D} {fa : M D} {ρ : Env} : sAug i op fa ρ = match ρ[i]? with
  | some (some x) => bnd (fa ρ) Fl.err fun y ρ1 => (op x y).map fun z => .nx (ρ1.set i (some z))
  | _ => none := (rfl)
@[simp] theorem dAdd_ii (i j : Int) : dAdd (.int i) (.int j) = some (.int (i + j)) := (rfl)
@[simp] theorem dSub_ii (i j : Int) : dSub (.int i) (.int j) = some (.int (i - j)) := (rfl)
@[simp] theorem dLt_ii (i j : Int) : dLt (.int i) (.int j) = some (.bool (decide (i < j))) := (rfl)
@[simp] theorem dLe_ii (i j : Int) : dLe (.int i) (.int j) = some (.bool (decide (i ≤ j))) := (rfl)
@[simp] theorem dGt_ii (i j : Int) : dGt (.int i) (.int j) = some (.bool (decide (j < i))) := (rfl)
@[simp] theorem dGe_ii (i j : Int) : dGe (.int i) (.int j) = some (.bool (decide (j ≤ i))) := (rfl)
@[simp] theorem dInt_i (i : Int) : dInt (.int i) = some (.int i) := (rfl)
theorem dMod_ii {i j : Int} (h : 0 < j) : dMod (.int i) (.int j) = some (.int (i % j)) := by simp [dMod, oI, h]
theorem dDiv_ii {i j : Int} (h : 0 < j) (h2 : j < 2 ^ 8000) : dDiv (.int i) (.int j) = some (.int (i / j)) := by
  have : j.natAbs.log2 < 8000 := (Nat.log2_lt (by omega)).mpr (by omega)
  simp [dDiv, oI, h, show j.natAbs.log2 < 9000 by omega]
@[simp] theorem dMax2_ii (i j : Int) : dMax2 (.int i) (.int j) = some (.int (if j > i then j else i)) := (rfl)
@[simp] theorem dMin2_ii (i j : Int) : dMin2 (.int i) (.int j) = some (.int (if j < i then j else i)) := (rfl)
@[simp] theorem dNeg_i (i : Int) : dNeg (.int i) = some (.int (-i)) := (rfl)
@[simp] theorem dLen_l (ds : List D) : dLen (.list ds) = some (.int ds.length) := (rfl)
@[simp] theorem dLen_t (ds : List D) : dLen (.tuple ds) = some (.int ds.length) := (rfl)
@[simp] theorem dIx_l (ds : List D) (i : Int) : dIx (.list ds) (.int i) = atI ds i := (rfl)
@[simp] theorem dIx_t (ds : List D) (i : Int) : dIx (.tuple ds) (.int i) = atI ds i := (rfl)
@[simp] theorem tru_b (b : Bool) : truD (.bool b) = some b := (rfl)
theorem u_try_err {sel : Str → Option Bool} {i : Nat} {fb fs : Env → Option Fl} {ρ ρ' : Env} {n : Str} {d : D} (h : fb ρ = some (.err n d ρ')) (hs : sel n = some true) : sTry sel i fb fs ρ = match fs (ρ'.set i (some (.dict [(.none, d)]))) with
      | some (.nx ρ2) => some (.nx (ρ2.set i none))
      | some (.ret d ρ2) => some (.ret d ρ2)
      | _ => none := by
  unfold sTry
  rw [h]
  simp only [hs]
  try rfl
theorem u_try_ok {sel : Str → Option Bool} {i : Nat} {fb fs : Env → Option Fl} {ρ ρ' : Env} (h : fb ρ = some (.nx ρ')) : sTry sel i fb fs ρ = some (.nx ρ') := by
  unfold sTry
  rw [h]
@[simp] theorem u_fXv {i : Nat} {ρ : Env} : fXv i ρ = match ρ[i]? with
  | some (some (.dict [(.none, d)])) => some (.ok d ρ)
  | _ => none := (rfl)
@[simp] theorem u_fIsX {i : Nat} {ρ : Env} : fIsX i ρ = match ρ[i]? with
  | some (some (.dict [(.none, _)])) => some (.ok (.bool true) ρ)
  | _ => none := (rfl)
/-- a call with the object of slot i and one datum -/
theorem call_r1 {i : Nat} {g : M D} {fx : M D} {ρ : Env} {b b' : Option D} {x bv v : D} {t : Kind} (h0 : ρ[i]? = some (some bv)) (hx : fx ρ = some (.ok x ρ)) (hg : g [some bv, some x] = some (.ok v [b', b])) : fCall [.r i, .t t] (noErr g) (aCons (fRef i) (aCons fx aNil)) ρ = some (.ok v (ρ.set i b')) := by
  rw [u_fCall]
  simp [h0, hx, u_noErr, hg]
theorem call_r1x {i : Nat} {g : M D} {fx : M D} {ρ : Env} {b b' : Option D} {x bv v : D} {t : Kind} (h0 : ρ[i]? = some (some bv)) (hx : fx ρ = some (.ok x ρ)) (hg : g [some bv, some x] = some (.ok v [b', b])) : fCall [.r i, .t t] g (aCons (fRef i) (aCons fx aNil)) ρ = some (.ok v (ρ.set i b')) := by
  rw [u_fCall]
  simp [h0, hx, hg]
theorem map_of {α : Type} {g : α → D} {p : α → Prop} : ∀ {vs : List D}, (∀ v ∈ vs, ∃ a, v = g a ∧ p a) → ∃ l : List α, vs = l.map g ∧ (∀ a ∈ l, p a) ∧ l.length = vs.length
  | [], _ => ⟨[], rfl, (fun _ h => by cases h), rfl⟩
  | v :: vs, h => by
    obtain ⟨a, e, q⟩ := h v List.mem_cons_self
    obtain ⟨l, e2, q2, l2⟩ := map_of (vs := vs) fun v hv => h v (List.mem_cons_of_mem _ hv)
    exact ⟨a :: l, by rw [e, e2]; rfl, fun b hb => by
      rcases List.mem_cons.mp hb with rfl | hb
      · exact q
      · exact q2 b hb, by simp [l2]⟩
end FN
/-! ### what laws share -/
namespace FNL
open PySem PySem.Spec PyProof.Rows L2 FN
noncomputable def b_bag : FN.Env → Option Fl :=
  (sSeq (sSet 2 (fIf (fTst (f2 (.t (.v true)) (.t (.v true)) dLt (fVar 1) (f1 (.r 0) dLen (fRef 0)))) (f2 (.t (.v true)) (.t (.v true)) dMod (f1 (.t (.v true)) dInt (f2 (.r 0) (.t (.v true)) dIx (fRef 0) (fVar 1))) (f2 (.t (.v true)) (.t (.v true)) dPow (fC (.int 10)) (fC (.int 60)))) (f2 (.t (.v true)) (.t (.v true)) dAdd (f2 (.t (.v true)) (.t (.v true)) dMul (fC (.int 41)) (fVar 1)) (fC (.int 7)))))
  (sRet (fLst (aCons (f2 (.t (.v true)) (.t (.v true)) dMax2 (fC (.int 0)) (f2 (.t (.v true)) (.t (.v true)) dSub (fVar 2) (f2 (.t (.v true)) (.t (.v true)) dPow (fC (.int 10)) (fC (.int 18))))) (aCons (f2 (.t (.v true)) (.t (.v true)) dAdd (f2 (.t (.v true)) (.t (.v true)) dMod (f1 (.t (.v true)) dInt (fVar 2)) (fC (.int 1000003))) (f2 (.t (.v true)) (.t (.v true)) dMul (fC (.int 31)) (fVar 1))) (aCons (fC (.int 0)) aNil))))))
noncomputable def m_bag : M D := runF [.scr, (.v true)] (.lst (.v true)) 1 b_bag
noncomputable def b_take : FN.Env → Option Fl :=
  (sSeq (sIf (fTst (f2 (.t (.v true)) (.t (.v true)) dGt (f2 (.r 0) (.t (.v true)) dIx (fRef 0) (fC (.int 0))) (fC (.int 0))))
  (sSeq (sSet 3 (f2 (.t (.v true)) (.t (.v true)) dMod (f1 (.t (.v true)) dInt (f2 (.r 0) (.t (.v true)) dIx (fRef 0) (fC (.int 0)))) (fVar 1)))
  (sSeq (sPut 0 (fC (.int 0)) (f2 (.t (.v true)) (.t (.v true)) dDiv (f2 (.r 0) (.t (.v true)) dIx (fRef 0) (fC (.int 0))) (fVar 1)))
  (sRet (fVar 3))))
  sNx)
  (sSeq (sPut 0 (fC (.int 2)) (f2 (.t (.v true)) (.t (.v true)) dAdd (f2 (.r 0) (.t (.v true)) dIx (fRef 0) (fC (.int 2))) (fC (.int 1))))
  (sSeq (sSet 2 (f2 (.t (.v true)) (.t (.v true)) dMod (f1 (.t (.v true)) dInt (f2 (.t (.v true)) (.t (.v true)) dAdd (f2 (.t (.v true)) (.t (.v true)) dPow (f2 (.t (.v true)) (.t (.v true)) dAdd (f2 (.r 0) (.t (.v true)) dIx (fRef 0) (fC (.int 1))) (f2 (.t (.v true)) (.t (.v true)) dMul (fC (.int 7919)) (f2 (.r 0) (.t (.v true)) dIx (fRef 0) (fC (.int 2))))) (fC (.int 3))) (f2 (.r 0) (.t (.v true)) dIx (fRef 0) (fC (.int 2))))) (f2 (.t (.v true)) (.t (.v true)) dAdd (f2 (.t (.v true)) (.t (.v true)) dPow (fC (.int 10)) (fC (.int 28))) (fC (.int 331)))))
  (sSeq (sSet 2 (f2 (.t (.v true)) (.t (.v true)) dMod (f1 (.t (.v true)) dInt (f2 (.t (.v true)) (.t (.v true)) dAdd (f2 (.t (.v true)) (.t (.v true)) dAdd (f2 (.t (.v true)) (.t (.v true)) dMul (fVar 2) (fVar 2)) (f2 (.t (.v true)) (.t (.v true)) dMul (fC (.int 104729)) (f2 (.r 0) (.t (.v true)) dIx (fRef 0) (fC (.int 1))))) (f2 (.r 0) (.t (.v true)) dIx (fRef 0) (fC (.int 2))))) (f2 (.t (.v true)) (.t (.v true)) dAdd (f2 (.t (.v true)) (.t (.v true)) dPow (fC (.int 10)) (fC (.int 27))) (fC (.int 103)))))
  (sRet (f2 (.t (.v true)) (.t (.v true)) dMod (f1 (.t (.v true)) dInt (f2 (.t (.v true)) (.t (.v true)) dDiv (fVar 2) (fC (.int 15485863)))) (fVar 1)))))))
noncomputable def m_take : M D := runF [(.lst (.v true)), (.v true)] (.v true) 2 b_take
noncomputable def b_one_of : FN.Env → Option Fl :=
  (sRet (f2 (.t (.v true)) (.t (.v true)) dIx (fVar 1) (fCall [.r 0, .t (.v true)] (noErr m_take) (aCons (fRef 0) (aCons (f1 (.t (.v true)) dLen (fVar 1)) aNil)))))
noncomputable def m_one_of : M D := runF [(.lst (.v true)), (.v true)] (.v true) 0 b_one_of
/-- what is drawn from, behind at most n mixed draws -/
def Bag (n : Nat) (d : FN.D) : Prop := ∃ a b c : Int, d = .list [.int a, .int b, .int c] ∧ 0 ≤ a ∧ a < 10 ^ 60 ∧ 0 ≤ b ∧ b ≤ 2000000 ∧ 0 ≤ c ∧ c ≤ n
theorem Bag.mono {n m : Nat} {d : FN.D} (h : Bag n d) (l : n ≤ m) : Bag m d := by
  obtain ⟨a, b, c, e, h1, h2, h3, h4, h5, h6⟩ := h
  exact ⟨a, b, c, e, h1, h2, h3, h4, h5, by omega⟩
theorem log_lt {i : Int} {k : Nat} (h : i.natAbs < 2 ^ k) (hk : 0 < k) : i.natAbs.log2 < k := by
  by_cases z : i.natAbs = 0
  · rw [z]; simpa using hk
  · exact (Nat.log2_lt z).mpr h
theorem ixN3 : ixN 3 0 = some 0 ∧ ixN 3 2 = some 2 := by decide
theorem mod_in (i j : Int) (h : 0 < j) : 0 ≤ i % j ∧ i % j < j := ⟨Int.emod_nonneg _ (by omega), Int.emod_lt_of_pos _ h⟩
theorem e_take {n : Nat} {bag : FN.D} {many : Int} (hb : Bag n bag) (hn : n ≤ 1000000) (h1 : 1 ≤ many) (h2 : many ≤ 2 ^ 62) : ∃ i bag', m_take [some bag, some (.int many)] = some (.ok (.int i) [some bag', none]) ∧ Bag (n + 1) bag' ∧ 0 ≤ i ∧ i < many := by
  obtain ⟨a, b, c, rfl, ha, ha2, hb1, hb2, hc1, hc2⟩ := hb
  have lm : many.natAbs.log2 < 9000 := Nat.lt_of_lt_of_le (log_lt (k := 63) (by omega) (by decide)) (by decide)
  by_cases hp : 0 < a
  · refine ⟨a % many, .list [.int (a / many), .int b, .int c], ?_, ⟨a / many, b, c, rfl, Int.ediv_nonneg ha (by omega), ?_, hb1, hb2, hc1, by omega⟩, (mod_in a many (by omega)).1, (mod_in a many (by omega)).2⟩
    · simp [m_take, u_runF, b_take, hp, dMod_ii (show 0 < many by omega), dDiv_ii (show 0 < many by omega) (show many < 2 ^ 8000 by omega), ixN3]
    · exact Int.lt_of_le_of_lt (Int.ediv_le_self _ ha) ha2
  · have ec : (b + 7919 * (c + 1)).natAbs < 2 ^ 64 := by omega
    have lc : Nat.log2 7919 + (c + 1).natAbs.log2 < 1000000 := by
      have := log_lt (i := c + 1) (k := 63) (by omega) (by decide)
      have : Nat.log2 7919 = 12 := by decide +kernel
      omega
    have lb : Nat.log2 104729 + b.natAbs.log2 < 1000000 := by
      have := log_lt (i := b) (k := 63) (by omega) (by decide)
      have : Nat.log2 104729 = 16 := by decide +kernel
      omega
    have m1 := mod_in ((b + 7919 * (c + 1)) ^ 3 + (c + 1)) 10000000000000000000000000331 (by decide)
    have l1 : (((b + 7919 * (c + 1)) ^ 3 + (c + 1)) % 10000000000000000000000000331).natAbs.log2 < 200 := log_lt (by omega) (by decide)
    have l2 : Nat.log2 15485863 < 9000 := by decide +kernel
    generalize e1 : ((b + 7919 * (c + 1)) ^ 3 + (c + 1)) % 10000000000000000000000000331 = x1 at m1 l1
    generalize e2 : ((x1 * x1 + 104729 * b + (c + 1)) % 1000000000000000000000000103) = x2
    refine ⟨(x2 / 15485863) % many, .list [.int a, .int b, .int (c + 1)], ?_, ⟨a, b, c + 1, rfl, ha, ha2, hb1, hb2, by omega, by omega⟩, (mod_in _ many (by omega)).1, (mod_in _ many (by omega)).2⟩
    have p28 : dPow (.int 10) (.int 28) = some (.int 10000000000000000000000000000) := by simp [dPow, oI]
    have p27 : dPow (.int 10) (.int 27) = some (.int 1000000000000000000000000000) := by simp [dPow, oI]
    have p3 : dPow (.int (b + 7919 * (c + 1))) (.int 3) = some (.int ((b + 7919 * (c + 1)) ^ 3)) := by simp [dPow, oI, ec]
    have md : ∀ i : Int, dMod (.int i) (.int 10000000000000000000000000331) = some (.int (i % 10000000000000000000000000331)) := fun i => dMod_ii (by decide)
    have md2 : ∀ i : Int, dMod (.int i) (.int 1000000000000000000000000103) = some (.int (i % 1000000000000000000000000103)) := fun i => dMod_ii (by decide)
    have dv : ∀ i : Int, dDiv (.int i) (.int 15485863) = some (.int (i / 15485863)) := fun i => dDiv_ii (by decide) (by decide)
    simp [m_take, u_runF, b_take, hp, dMod_ii (show 0 < many by omega), ixN3, dMul, lc, lb, p28, p27, p3, md, md2, dv, e1, e2, show x1.natAbs.log2 + x1.natAbs.log2 < 1000000 by omega]
theorem atI_in {α : Type} {xs : List α} {i : Int} (h0 : 0 ≤ i) (h1 : i < xs.length) : ∃ x, atI xs i = some x ∧ x ∈ xs := by
  have e : i = ((i.toNat : Nat) : Int) := by omega
  have hl : i.toNat < xs.length := by omega
  refine ⟨xs[i.toNat], ?_, List.getElem_mem hl⟩
  have := atI_nat xs i.toNat
  rw [← e] at this
  rw [this, List.getElem?_eq_getElem hl]
theorem e_one_of {n : Nat} {bag : FN.D} {ds : List FN.D} (hb : Bag n bag) (hn : n ≤ 1000000) (h1 : ds ≠ []) (h2 : ds.length ≤ 1000000) : ∃ d bag', m_one_of [some bag, some (.list ds)] = some (.ok d [some bag', none]) ∧ Bag (n + 1) bag' ∧ d ∈ ds := by
  have hl : 0 < ds.length := List.length_pos_iff.mpr h1
  obtain ⟨i, bag', e, b', i0, i1⟩ := e_take (many := (ds.length : Int)) hb hn (by omega) (by omega)
  obtain ⟨x, ex, hx⟩ := atI_in i0 i1
  refine ⟨x, bag', ?_, b', hx⟩
  have hbag : ∃ l, bag = .list l := by obtain ⟨a, b, c, e, _⟩ := hb; exact ⟨_, e⟩
  obtain ⟨l, rfl⟩ := hbag
  simp [m_one_of, u_runF, b_one_of, u_fCall, u_noErr, dLen, e, dIx, ex]
noncomputable def b_same (rec : M D) : FN.Env → Option Fl :=
  (sSeq (sIf (fTru (.t (.v true)) (f1b (.t (.v true)) (fun d => isTuple d || isList d) (fVar 1)))
  (sSeq (sIf (tOrF (fTst (f2 (.t (.v true)) (.t (.v true)) dNe (f1b (.t (.v true)) isTuple (fVar 1)) (f1b (.t (.v true)) isTuple (fVar 0)))) (fTst (f2 (.t (.v true)) (.t (.v true)) dNe (f1b (.t (.v true)) isList (fVar 1)) (f1b (.t (.v true)) isList (fVar 0)))))
  (sRet (fC (.bool false)))
  sNx)
  (sRet (fAnd (f2 (.t (.v true)) (.t (.v true)) dEq (f1 (.t (.v true)) dLen (fVar 0)) (f1 (.t (.v true)) dLen (fVar 1))) (f1 (.t (.v true)) dAll (fLc [2, 3] (iZip (fVar 0) (fVar 1)) (gTp (gsCons (gNm 2) (gsCons (gNm 3) gsNil))) tYesF (fCall [.t (.v true), .t (.v true)] (noErr rec) (aCons (fVar 2) (aCons (fVar 3) aNil))))))))
  sNx)
  (sSeq (sIf (tOrF (fTst (f2 (.t (.v true)) (.t (.v true)) dIs (fVar 1) (fC .none))) (fTru (.t (.v true)) (f1b (.t (.v true)) isBool (fVar 1))))
  (sRet (fIf (fTst (f2 (.t (.v true)) (.t (.v true)) dIs (fVar 1) (fC .none))) (f2 (.t (.v true)) (.t (.v true)) dIs (fVar 0) (fC .none)) (fAnd (f1b (.t (.v true)) isBool (fVar 0)) (f2 (.t (.v true)) (.t (.v true)) dEq (fVar 0) (fVar 1)))))
  sNx)
  (sSeq (sIf (tOrF (fTru (.t (.v true)) (f1b (.t (.v true)) isBool (fVar 0))) (fTst (f2 (.t (.v true)) (.t (.v true)) dNe (f1b (.t (.v true)) isInt (fVar 1)) (f1b (.t (.v true)) isInt (fVar 0)))))
  (sRet (fC (.bool false)))
  sNx)
  (sRet (fAnd (f2 (.t (.v true)) (.t (.v true)) dEq (f1b (.t (.v true)) isStr (fVar 1)) (f1b (.t (.v true)) isStr (fVar 0))) (f2 (.t (.v true)) (.t (.v true)) dEq (fVar 0) (fVar 1)))))))
noncomputable def m_same : Nat → M D
  | 0 => fun _ => none
  | n + 1 => runF [(.v true), (.v true)] (.v true) 2 (b_same (m_same n))
theorem zip_self (ds : List FN.D) : zipD ds ds = ds.map fun d => .tuple [d, d] := by
  unfold zipD
  induction ds with
  | nil => rfl
  | cons d ds ih => rw [List.zip_cons_cons, List.map_cons, List.map_cons, ih]
theorem okD_mono : ∀ {n : Nat} {d : FN.D}, okD n d = true → okD (n + 1) d = true
  | n, .none, _ => by unfold okD; rfl
  | n, .bool _, _ => by unfold okD; rfl
  | n, .int _, _ => by unfold okD; rfl
  | n, .str x, h => by unfold okD at h ⊢; exact h
  | n + 1, .list ds, h => by
    unfold okD at h ⊢
    rw [List.all_eq_true] at h ⊢
    exact fun d hd => okD_mono (h d hd)
  | n + 1, .tuple ds, h => by
    unfold okD at h ⊢
    rw [List.all_eq_true] at h ⊢
    exact fun d hd => okD_mono (h d hd)
  | 0, .list ds, h => by unfold okD at h; cases h
  | 0, .tuple ds, h => by unfold okD at h; cases h
  | n, .dict _, h => by unfold okD at h; cases h
/-- data of the depth n at most, no list of it too long -/
def smD : Nat → FN.D → Bool
  | _, .none => true
  | _, .bool _ => true
  | _, .int _ => true
  | _, .str x => PyData.strOk x
  | n + 1, .list ds => decide (ds.length ≤ 1000000) && ds.all (smD n)
  | n + 1, .tuple ds => decide (ds.length ≤ 1000000) && ds.all (smD n)
  | _, _ => false
theorem smD_mono : ∀ {n : Nat} {d : FN.D}, smD n d = true → smD (n + 1) d = true
  | n, .none, _ => by unfold smD; rfl
  | n, .bool _, _ => by unfold smD; rfl
  | n, .int _, _ => by unfold smD; rfl
  | n, .str x, h => by unfold smD at h ⊢; exact h
  | n + 1, .list ds, h => by
    unfold smD at h ⊢
    rw [Bool.and_eq_true, List.all_eq_true] at h ⊢
    exact ⟨h.1, fun d hd => smD_mono (h.2 d hd)⟩
  | n + 1, .tuple ds, h => by
    unfold smD at h ⊢
    rw [Bool.and_eq_true, List.all_eq_true] at h ⊢
    exact ⟨h.1, fun d hd => smD_mono (h.2 d hd)⟩
  | 0, .list ds, h => by unfold smD at h; cases h
  | 0, .tuple ds, h => by unfold smD at h; cases h
  | n, .dict _, h => by unfold smD at h; cases h
theorem smD_le {n m : Nat} {d : FN.D} (h : smD n d = true) (l : n ≤ m) : smD m d = true := by
  induction l with
  | refl => exact h
  | step _ ih => exact smD_mono ih
theorem dAll_true {α : Type} (l : List α) : dAll (.list (l.map fun _ => .bool true)) = some (.bool true) := by
  rw [dAll_map (fun _ => true) l]
  simp
theorem same_lc {n : Nat} {x y : Option FN.D} {ds : List FN.D} {fi : M (List FN.D)} (hl : ds.length ≤ 1000000) (hi : fi [x, y, none, none] = some (.ok (zipD ds ds) [x, y, none, none])) (h : ∀ d ∈ ds, m_same n [some d, some d] = some (.ok (.bool true) [none, none])) : fLc [2, 3] fi (gTp (gsCons (gNm 2) (gsCons (gNm 3) gsNil))) tYesF (fCall [.t (.v true), .t (.v true)] (noErr (m_same n)) (aCons (fVar 2) (aCons (fVar 3) aNil))) [x, y, none, none] = some (.ok (.list (ds.map fun _ => .bool true)) [x, y, none, none]) := by
  rw [lc_all (ds := zipD ds ds) (ρw := [x, y, none, none]) (fun _ => .bool true) (by rw [zip_self, List.length_map]; unfold sizeLine; omega) hi rfl ?_]
  · rw [zip_self, List.map_map]
    rfl
  · intro d hd
    rw [zip_self] at hd
    obtain ⟨e, he, rfl⟩ := List.mem_map.mp hd
    refine ⟨[x, y, some e, some e], [x, y, some e, some e], ?_, ?_, rfl⟩
    · simp [gsCons]
    · simp [u_fCall, u_noErr, h e he]
theorem e_same : ∀ (n : Nat) (d : FN.D), smD n d = true → m_same (n + 1) [some d, some d] = some (.ok (.bool true) [none, none])
  | n, .none, _ => by simp [m_same, u_runF, b_same, isTuple, FN.isList, dIs, isNone, isBool]
  | n, .bool b, _ => by cases b <;> simp [m_same, u_runF, b_same, isTuple, FN.isList, dIs, isNone, isBool]
  | n, .int i, _ => by simp [m_same, u_runF, b_same, isTuple, FN.isList, dIs, isNone, isBool, FN.isInt, isStr]
  | n, .str x, h => by
    unfold smD at h
    simp [m_same, u_runF, b_same, isTuple, FN.isList, dIs, isNone, isBool, FN.isInt, isStr, dEq_ss h h]
  | n + 1, .list ds, h => by
    unfold smD at h
    rw [Bool.and_eq_true, List.all_eq_true] at h
    have ih := same_lc (n := n + 1) (x := some (.list ds)) (y := some (.list ds)) (ds := ds) (fi := iZip (fVar 0) (fVar 1)) (of_decide_eq_true h.1) (by simp) fun d hd => e_same n d (h.2 d hd)
    rw [m_same, u_runF, b_same]
    simp [isTuple, FN.isList, dIs, isNone, isBool, FN.isInt, isStr, dLen, ih, dAll_true]
  | n + 1, .tuple ds, h => by
    unfold smD at h
    rw [Bool.and_eq_true, List.all_eq_true] at h
    have ih := same_lc (n := n + 1) (x := some (.tuple ds)) (y := some (.tuple ds)) (ds := ds) (fi := iZip (fVar 0) (fVar 1)) (of_decide_eq_true h.1) (by simp) fun d hd => e_same n d (h.2 d hd)
    rw [m_same, u_runF, b_same]
    simp [isTuple, FN.isList, dIs, isNone, isBool, FN.isInt, isStr, dLen, ih, dAll_true]
  | 0, .list ds, h => by unfold smD at h; cases h
  | 0, .tuple ds, h => by unfold smD at h; cases h
  | n, .dict _, h => by unfold smD at h; cases h
/-- a comprehension over a range that draws an item a turn -/
theorem lc_draw {i : Nat} {fi : M (List FN.D)} {ρ0 ρ : FN.Env} {bag : FN.D} {ds its : List FN.D} {n : Nat} {t : FN.Kind} {fs : M FN.D} (hi0 : i ≠ 0) (hb : Bag n bag) (h0 : ρ[0]? = some (some bag)) (hfs : ∀ b d, fs (((ρ.set 0 (some b)).set i none).set i (some d)) = some (.ok (.list its) (((ρ.set 0 (some b)).set i none).set i (some d)))) (hfi : fi ρ0 = some (.ok ds ρ)) (hn : n + ds.length ≤ 1000000) (h1 : its ≠ []) (h2 : its.length ≤ 1000000) : ∃ vs bag', fLc [i] fi (gNm i) tYesF (fCall [.r 0, .t t] (noErr m_one_of) (aCons (fRef 0) (aCons fs aNil))) ρ0 = some (.ok (.list vs) ((ρ.set 0 (some bag')).set i none)) ∧ vs.length = ds.length ∧ (∀ v ∈ vs, v ∈ its) ∧ Bag (n + ds.length) bag' := by
  have l0 : 0 < ρ.length := (List.getElem?_eq_some_iff.mp h0).1
  have e0 : ρ.set 0 (some bag) = ρ := List.ext_getElem? fun j => by
    rw [List.getElem?_set]
    by_cases z : 0 = j
    · subst z
      rw [if_pos rfl, if_pos l0, h0]
    · rw [if_neg z]
  obtain ⟨vs, ρ', e, l, p, bag', rfl, hb'⟩ := lc_inv (i := i) (fi := fi) (fe := fCall [.r 0, .t t] (noErr m_one_of) (aCons (fRef 0) (aCons fs aNil))) (ds := ds) (fun k ρ' => ∃ bag', ρ' = (ρ.set 0 (some bag')).set i none ∧ Bag (n + k) bag') (fun v => v ∈ its) (by unfold sizeLine; omega) hfi ⟨bag, by rw [e0], by simpa using hb⟩ (fun k d ρ1 hk hg => by
    obtain ⟨b1, rfl, hb1⟩ := hg
    have hk2 : k < ds.length := (List.getElem?_eq_some_iff.mp hk).1
    obtain ⟨v, b2, ev, hb2, hv⟩ := e_one_of hb1 (by omega) h1 h2
    refine ⟨v, _, call_r1 (b := none) (bv := b1) ?_ (hfs b1 d) ev, hv, b2, ?_, hb2⟩
    · rw [List.set_set, List.getElem?_set, if_neg hi0, List.getElem?_set, if_pos rfl, if_pos l0]
    · rw [List.set_set, List.set_comm _ _ hi0, List.set_set, List.set_set])
  exact ⟨vs, bag', e, l, p, hb'⟩
theorem atI_ints (ns : List Int) (k : Int) (h0 : 0 ≤ k) (h1 : k < ns.length) : ∃ i, atI (ns.map PyData.int) k = some (.int i) := by
  obtain ⟨x, e, hx⟩ := atI_in (xs := ns.map PyData.int) h0 (by rw [List.length_map]; exact h1)
  obtain ⟨i, _, rfl⟩ := List.mem_map.mp hx
  exact ⟨i, e⟩
theorem p60 : dPow (.int 10) (.int 60) = some (.int (10 ^ 60)) := by simp [dPow, oI]
theorem p18 : dPow (.int 10) (.int 18) = some (.int (10 ^ 18)) := by simp [dPow, oI]
theorem e_bag (ns : List Int) (k : Int) (h0 : 0 ≤ k) (h1 : k ≤ 100) : ∃ bag, m_bag [some (.list (ns.map .int)), some (.int k)] = some (.ok bag [some (.list (ns.map .int)), none]) ∧ Bag 0 bag := by
  have l41 : Nat.log2 41 + k.natAbs.log2 < 1000000 := by
    have := log_lt (i := k) (k := 63) (by omega) (by decide)
    have : Nat.log2 41 = 5 := by decide +kernel
    omega
  have l31 : Nat.log2 31 + k.natAbs.log2 < 1000000 := by
    have := log_lt (i := k) (k := 63) (by omega) (by decide)
    have : Nat.log2 31 = 4 := by decide +kernel
    omega
  have d60 : ∀ i : Int, dMod (.int i) (.int (10 ^ 60)) = some (.int (i % 10 ^ 60)) := fun i => dMod_ii (by decide)
  have d1m : ∀ i : Int, dMod (.int i) (.int 1000003) = some (.int (i % 1000003)) := fun i => dMod_ii (by decide)
  have key : ∃ cell : Int, 0 ≤ cell ∧ cell < 10 ^ 60 ∧ (fIf (fTst (f2 (.t (.v true)) (.t (.v true)) dLt (fVar 1) (f1 (.r 0) dLen (fRef 0)))) (f2 (.t (.v true)) (.t (.v true)) dMod (f1 (.t (.v true)) dInt (f2 (.r 0) (.t (.v true)) dIx (fRef 0) (fVar 1))) (f2 (.t (.v true)) (.t (.v true)) dPow (fC (.int 10)) (fC (.int 60)))) (f2 (.t (.v true)) (.t (.v true)) dAdd (f2 (.t (.v true)) (.t (.v true)) dMul (fC (.int 41)) (fVar 1)) (fC (.int 7)))) [some (.list (ns.map .int)), some (.int k), none] = some (.ok (.int cell) [some (.list (ns.map .int)), some (.int k), none]) := by
    by_cases h : k < ns.length
    · obtain ⟨i, e⟩ := atI_ints ns k h0 h
      have m := mod_in i (10 ^ 60) (by decide)
      refine ⟨i % 10 ^ 60, m.1, m.2, ?_⟩
      rw [u_fIf, u_fTst, u_f2]
      simp only [u_fVar, List.getElem?_cons_succ, List.getElem?_cons_zero, u_ok, u_f1, u_fRef, u_rdr, u_rdv, dLen_l, Option.map_some, dLt_ii, List.length_map, decide_eq_true h, if_true]
      rw [u_f2, u_f1, u_f2]
      simp only [u_fVar, List.getElem?_cons_succ, List.getElem?_cons_zero, u_ok, u_fRef, u_rdr, u_rdv, dIx_l, e, Option.map_some, dInt_i, u_f2, u_fC, p60, d60]
    · refine ⟨41 * k + 7, by omega, by omega, ?_⟩
      simp [h, dMul, l41]
  obtain ⟨cell, c0, c1, ec⟩ := key
  have m := mod_in cell 1000003 (by decide)
  refine ⟨.list [.int (if cell - 10 ^ 18 > 0 then cell - 10 ^ 18 else 0), .int (cell % 1000003 + 31 * k), .int 0], ?_, _, _, _, rfl, by split <;> omega, by split <;> omega, by omega, by omega, by omega, by omega⟩
  rw [m_bag, u_runF, b_bag]
  simp only [List.replicate, List.cons_append, List.nil_append]
  rw [u_sSeq, u_sSet, ec]
  simp only [u_ok, List.set_cons_zero, List.set_cons_succ]
  rw [u_sRet, u_fLst, u_aCons, u_f2]
  simp only [u_fC, u_ok, u_f2, u_fVar, List.getElem?_cons_succ, List.getElem?_cons_zero, u_rdv, p18, Option.map_some, dSub_ii, dMax2_ii, u_aCons, u_f1, dInt_i, d1m, dMul, dAdd_ii]
  simp [l31, sizeLine]
end FNL
set_option Elab.async false
set_option linter.all false
set_option maxRecDepth 100000
set_option maxHeartbeats 4000000
namespace K82
open PySem PySem.Spec PyProof.Rows L2 FN
def topS (i : Nat) : Stmt := PySem.Challenge.pw_choirstands_k82_texts_of_tables.main.body.getD i (.Pass ⟨0, 0, 0, 0⟩)
structure Bt (mg : Str → Option Value) : Prop where
  «all» : mg "all" = none
  «bool» : mg "bool" = none
  «int» : mg "int" = none
  «isinstance» : mg "isinstance" = none
  «len» : mg "len" = none
  «list» : mg "list" = none
  «max» : mg "max" = none
  «min» : mg "min" = none
  «range» : mg "range" = none
  «str» : mg "str" = none
  «tuple» : mg "tuple" = none
  «zip» : mg "zip" = none
structure Cs (mg : Str → Option Value) : Prop where
  FIGURES : ∃ u, mg "FIGURES" = some u ∧ RelV (.str "0123456789") u
  MOST_COLUMNS : ∃ u, mg "MOST_COLUMNS" = some u ∧ RelV (.int 8) u
  MOST_DIGITS : ∃ u, mg "MOST_DIGITS" = some u ∧ RelV (.int 30) u
  MOST_LINES : ∃ u, mg "MOST_LINES" = some u ∧ RelV (.int 5) u
  MOST_NUMBERS : ∃ u, mg "MOST_NUMBERS" = some u ∧ RelV (.int 20) u
  MOST_PLACES_placings : ∃ u, mg "MOST_PLACES_placings" = some u ∧ RelV (.int 8) u
  MOST_PLACES_prices : ∃ u, mg "MOST_PLACES_prices" = some u ∧ RelV (.int 7) u
  MOST_ROWS : ∃ u, mg "MOST_ROWS" = some u ∧ RelV (.int 7) u
  MOST_SINGERS_placings : ∃ u, mg "MOST_SINGERS_placings" = some u ∧ RelV (.int 7) u
  MOST_SINGERS_prices : ∃ u, mg "MOST_SINGERS_prices" = some u ∧ RelV (.int 6) u
  NONE_finding : ∃ u, mg "NONE_finding" = some u ∧ RelV (.str "-") u
  NONE_halltexts : ∃ u, mg "NONE_halltexts" = some u ∧ RelV (.str "-") u
structure Er (P : Program) (K : PySem.W.Frag) (mg : Str → Option Value) (DE fI C_StandError C_Unreadable : Addr) : Prop where
  T : ErrTxt P K mg DE fI
  m_StandError : mg "StandError" = some (.ref C_StandError)
  m_Unreadable : mg "Unreadable" = some (.ref C_Unreadable)
  c_Unreadable : ErrCls K DE fI C_Unreadable
  x_Unreadable : XfC K C_Unreadable
  e_Unreadable : ExcC K C_Unreadable
  k_Unreadable : PySem.W.kitOne K (.ref C_Unreadable) (.ref C_StandError) = some true
  h_Unreadable_Unreadable : PySem.W.exmOne K (.ref C_Unreadable) (.ref C_Unreadable) = some true
def sel_Unreadable (n : Str) : Option Bool := if n = "Unreadable" then some true else none
theorem selk_Unreadable {P : Program} {K : PySem.W.Frag} {mg : Str → Option Value} {DE fI C_StandError C_Unreadable : Addr} (ER : Er P K mg DE fI C_StandError C_Unreadable) : Sel K mg (.ref C_Unreadable) (RE K C_StandError) sel_Unreadable := by
  intro n b h Ca hm
  unfold sel_Unreadable at h
  split at h
  · rename_i e
    subst e
    rw [ER.m_Unreadable] at hm
    cases hm
    cases h
    exact ⟨ER.x_Unreadable, ER.c_Unreadable.no, ER.h_Unreadable_Unreadable, ER.e_Unreadable, ER.k_Unreadable⟩
  · cases h
section
variable {P : Program} {w : World} {K : PySem.W.Frag} {mg : Str → Option Value} {base : Heap} {DE fI C_StandError C_Unreadable : Addr}
abbrev s_is_integer : Stmt := topS 4
abbrev N_is_integer : List Str := ["value"]
theorem sc_is_integer : FnScope N_is_integer ["value"] (defScope s_is_integer) := ⟨rfl, rfl, rfl, by decide +kernel, rfl, by decide +kernel, by decide +kernel⟩
noncomputable def b_is_integer : FN.Env → Option Fl :=
  (sRet (fAnd (f1b (.t (.v true)) isInt (fVar 0)) (fNot (f1b (.t (.v true)) isBool (fVar 0)))))
noncomputable def m_is_integer : M D := runF [(.v true)] (.v true) 0 b_is_integer
theorem ok_is_integer (B : Bt mg) (a : At K mg "is_integer" s_is_integer ["value"])  : Kn P w K mg base CX0 1 "is_integer" ["value"] (spF K mg [(.v true)] (.v true) (noErr m_is_integer)) := by
  refine fn_ok0 (κl := []) a sc_is_integer rfl ⟨True.intro, True.intro⟩ True.intro rfl fun f cdv A outer s H vs E hv hr => ?_
  match vs, hv with
  | [v0], _ =>
  refine ⟨[(.v true)], (RetK.oth rfl RetK.nil), ?_⟩
  show FSs _ _ _ [(.v true)] _ _ _
  exact (fss_one (fs_ret (κn := _) (fe_and (fe_isi isi_int (by exact rfl) B.isinstance (fe_var 0) (cls1 (by exact rfl) B.int (by decide +kernel))) (fe_one (fe_not (k := true) (fe_isi isi_bool (by exact rfl) B.isinstance (fe_var 0) (cls1 (by exact rfl) B.bool (by decide +kernel)))))) (RetK.oth rfl RetK.nil)))
abbrev s_is_between : Stmt := topS 5
abbrev N_is_between : List Str := ["value", "low", "high"]
theorem sc_is_between : FnScope N_is_between ["value", "low", "high"] (defScope s_is_between) := ⟨rfl, rfl, rfl, by decide +kernel, rfl, by decide +kernel, by decide +kernel⟩
noncomputable def b_is_between : FN.Env → Option Fl :=
  (sRet (fAnd (fCall [.t (.v true)] (noErr m_is_integer) (aCons (fVar 0) aNil)) (fAnd (f2 (.t (.v true)) (.t (.v true)) dLe (fVar 1) (fVar 0)) (fOr (f2 (.t (.v true)) (.t (.v true)) dIs (fVar 2) (fC .none)) (f2 (.t (.v true)) (.t (.v true)) dLe (fVar 0) (fVar 2))))))
noncomputable def m_is_between : M D := runF [(.v true), (.v true), (.v true)] (.v true) 0 b_is_between
theorem ok_is_between (B : Bt mg) (a : At K mg "is_between" s_is_between ["value", "low", "high"]) (G_is_integer : Kn P w K mg base CX0 1 "is_integer" ["value"] (spF K mg [(.v true)] (.v true) (noErr m_is_integer))) : Kn P w K mg base CX0 2 "is_between" ["value", "low", "high"] (spF K mg [(.v true), (.v true), (.v true)] (.v true) (noErr m_is_between)) := by
  refine fn_ok0 (κl := []) a sc_is_between rfl ⟨True.intro, True.intro, True.intro, True.intro⟩ True.intro rfl fun f cdv A outer s H vs E hv hr => ?_
  match vs, hv with
  | [v0, v1, v2], _ =>
  refine ⟨[(.v true), (.v true), (.v true)], (RetK.oth rfl (RetK.oth rfl (RetK.oth rfl RetK.nil))), ?_⟩
  show FSs _ _ _ [(.v true), (.v true), (.v true)] _ _ _
  exact (fss_one (fs_ret (κn := _) (fe_and (fe_fn G_is_integer (hr.mono (by decide)) (Fits.t (nofix_ne True.intro) Fits.nil) (fa_cons (fe_var 0) fa_nil)) (fe_and (fe_cmp op_le s_le (fe_var 1) (fe_var 0) (nomark _)) (fe_one (fe_or (fe_cmp op_isA s_is (fe_var 2) fe_non (nomark _)) (fe_one (fe_cmp op_le s_le (fe_var 0) (fe_var 2) (nomark _))))))) (RetK.oth rfl (RetK.oth rfl (RetK.oth rfl RetK.nil)))))
abbrev s_is_tuple : Stmt := topS 6
abbrev N_is_tuple : List Str := ["value", "low", "high"]
theorem sc_is_tuple : FnScope N_is_tuple ["value", "low", "high"] (defScope s_is_tuple) := ⟨rfl, rfl, rfl, by decide +kernel, rfl, by decide +kernel, by decide +kernel⟩
noncomputable def b_is_tuple : FN.Env → Option Fl :=
  (sRet (fAnd (f1b (.t (.v true)) isTuple (fVar 0)) (fCh (.t (.v true)) (.t (.v true)) (.t (.v true)) dLe dLe (fVar 1) (f1 (.t (.v true)) dLen (fVar 0)) (fVar 2))))
noncomputable def m_is_tuple : M D := runF [(.v true), (.v true), (.v true)] (.v true) 0 b_is_tuple
theorem ok_is_tuple (B : Bt mg) (a : At K mg "is_tuple" s_is_tuple ["value", "low", "high"])  : Kn P w K mg base CX0 1 "is_tuple" ["value", "low", "high"] (spF K mg [(.v true), (.v true), (.v true)] (.v true) (noErr m_is_tuple)) := by
  refine fn_ok0 (κl := []) a sc_is_tuple rfl ⟨True.intro, True.intro, True.intro, True.intro⟩ True.intro rfl fun f cdv A outer s H vs E hv hr => ?_
  match vs, hv with
  | [v0, v1, v2], _ =>
  refine ⟨[(.v true), (.v true), (.v true)], (RetK.oth rfl (RetK.oth rfl (RetK.oth rfl RetK.nil))), ?_⟩
  show FSs _ _ _ [(.v true), (.v true), (.v true)] _ _ _
  exact (fss_one (fs_ret (κn := _) (fe_and (fe_isi isi_tuple (by exact rfl) B.isinstance (fe_var 0) (cls1 (by exact rfl) B.tuple (by decide +kernel))) (fe_one (fe_ch op_le s_le op_le s_le (fe_var 1) (fe_len (by exact rfl) B.len (fe_var 0)) (fe_var 2)))) (RetK.oth rfl (RetK.oth rfl (RetK.oth rfl RetK.nil)))))
abbrev s_are_integers : Stmt := topS 7
abbrev N_are_integers : List Str := ["value", "low", "high", "item"]
theorem sc_are_integers : FnScope N_are_integers ["value", "low", "high"] (defScope s_are_integers) := ⟨rfl, rfl, rfl, by decide +kernel, rfl, by decide +kernel, by decide +kernel⟩
noncomputable def b_are_integers : FN.Env → Option Fl :=
  (sRet (fAnd (f1b (.t (.v true)) isTuple (fVar 0)) (f1 (.t (.v true)) dAll (fLc [3] (iSeq (fVar 0)) (gNm 3) tYesF (fCall [.t (.v true), .t (.v true), .t (.v true)] (noErr m_is_between) (aCons (fVar 3) (aCons (fVar 1) (aCons (fVar 2) aNil))))))))
noncomputable def m_are_integers : M D := runF [(.v true), (.v true), (.v true)] (.v true) 1 b_are_integers
theorem ok_are_integers (B : Bt mg) (a : At K mg "are_integers" s_are_integers ["value", "low", "high"]) (G_is_between : Kn P w K mg base CX0 2 "is_between" ["value", "low", "high"] (spF K mg [(.v true), (.v true), (.v true)] (.v true) (noErr m_is_between))) : Kn P w K mg base CX0 3 "are_integers" ["value", "low", "high"] (spF K mg [(.v true), (.v true), (.v true)] (.v true) (noErr m_are_integers)) := by
  refine fn_ok0 (κl := [(.v true)]) a sc_are_integers rfl ⟨True.intro, True.intro, True.intro, True.intro⟩ ⟨True.intro, True.intro⟩ rfl fun f cdv A outer s H vs E hv hr => ?_
  match vs, hv with
  | [v0, v1, v2], _ =>
  refine ⟨[(.v true), (.v true), (.v true), (.v true)], (RetK.oth rfl (RetK.oth rfl (RetK.oth rfl RetK.nil))), ?_⟩
  show FSs _ _ _ [(.v true), (.v true), (.v true), (.v true)] _ _ _
  exact (fss_one (fs_ret (κn := _) (fe_and (fe_isi isi_tuple (by exact rfl) B.isinstance (fe_var 0) (cls1 (by exact rfl) B.tuple (by decide +kernel))) (fe_one (fe_all rfl (by exact rfl) B.all (fe_lc (kd := (.v _)) (own := [("item", 3)]) (sl := [3]) rfl rfl sc_are_integers.nd (fi_seq (fe_var 0)) (blkOk_by (N := N_are_integers) (sc := defScope s_are_integers) (by decide +kernel)) (by repeat (first | exact True.intro | refine And.intro True.intro ?_)) (by decide) (fun _ _ _ _ _ => (fg_nameK (i := 3) sc_are_integers.nd)) (fun _ _ _ _ _ => fts_nil) (fun _ _ _ _ _ => (fe_fn G_is_between (hr.mono (by decide)) (Fits.t (nofix_ne True.intro) (Fits.t (nofix_ne True.intro) (Fits.t (nofix_ne True.intro) Fits.nil))) (fa_cons (fe_var 3) (fa_cons (fe_var 1) (fa_cons (fe_var 2) fa_nil))))))))) (RetK.oth rfl (RetK.oth rfl (RetK.oth rfl RetK.nil)))))
abbrev s_joined : Stmt := topS 10
abbrev N_joined : List Str := ["parts", "between"]
theorem sc_joined : FnScope N_joined ["parts", "between"] (defScope s_joined) := ⟨rfl, rfl, rfl, by decide +kernel, rfl, by decide +kernel, by decide +kernel⟩
noncomputable def b_joined : FN.Env → Option Fl :=
  (sRet (fIf (fTst (f2 (.t (.v true)) (.t (.v true)) dGt (f1 (.t (.v true)) dLen (fVar 0)) (fC (.int 0)))) (fM1 (.t (.v true)) dJoin (fVar 1) (fVar 0)) (fC (.str ("-" : Str)))))
noncomputable def m_joined : M D := runF [(.v true), (.v true)] (.v true) 0 b_joined
theorem ok_joined (B : Bt mg) (a : At K mg "joined" s_joined ["parts", "between"]) (CN : Cs mg) : Kn P w K mg base CX0 1 "joined" ["parts", "between"] (spF K mg [(.v true), (.v true)] (.v true) (noErr m_joined)) := by
  refine fn_ok0 (κl := []) a sc_joined rfl ⟨True.intro, True.intro, True.intro⟩ True.intro rfl fun f cdv A outer s H vs E hv hr => ?_
  match vs, hv with
  | [v0, v1], _ =>
  refine ⟨[(.v true), (.v true)], (RetK.oth rfl (RetK.oth rfl RetK.nil)), ?_⟩
  show FSs _ _ _ [(.v true), (.v true)] _ _ _
  exact (fss_one (fs_ret (κn := _) (fe_if (ft_cmp op_gt s_gt (fe_len (by exact rfl) B.len (fe_var 0)) fe_int (nomark _)) (fe_join (k := true) (fe_var 1) (fe_var 0)) (fe_cst CN.NONE_halltexts (fun _ => .str _))) (RetK.oth rfl (RetK.oth rfl RetK.nil))))
abbrev s_show_item : Stmt := topS 11
abbrev N_show_item : List Str := ["item"]
theorem sc_show_item : FnScope N_show_item ["item"] (defScope s_show_item) := ⟨rfl, rfl, rfl, by decide +kernel, rfl, by decide +kernel, by decide +kernel⟩
noncomputable def b_show_item : FN.Env → Option Fl :=
  (sRet (fIf (fTst (f2 (.t (.v true)) (.t (.v true)) dIs (fVar 0) (fC .none))) (fC (.str ("-" : Str))) (f1 (.t (.v true)) dStr (fVar 0))))
noncomputable def m_show_item : M D := runF [(.v true)] (.v true) 0 b_show_item
theorem ok_show_item (B : Bt mg) (a : At K mg "show_item" s_show_item ["item"]) (CN : Cs mg) : Kn P w K mg base CX0 1 "show_item" ["item"] (spF K mg [(.v true)] (.v true) (noErr m_show_item)) := by
  refine fn_ok0 (κl := []) a sc_show_item rfl ⟨True.intro, True.intro⟩ True.intro rfl fun f cdv A outer s H vs E hv hr => ?_
  match vs, hv with
  | [v0], _ =>
  refine ⟨[(.v true)], (RetK.oth rfl RetK.nil), ?_⟩
  show FSs _ _ _ [(.v true)] _ _ _
  exact (fss_one (fs_ret (κn := _) (fe_if (ft_cmp op_isA s_is (fe_var 0) fe_non (nomark _)) (fe_cst CN.NONE_halltexts (fun _ => .str _)) (fe_strI (by exact rfl) B.str (fe_var 0))) (RetK.oth rfl RetK.nil)))
abbrev s_show_numbers : Stmt := topS 12
abbrev N_show_numbers : List Str := ["numbers", "number"]
theorem sc_show_numbers : FnScope N_show_numbers ["numbers"] (defScope s_show_numbers) := ⟨rfl, rfl, rfl, by decide +kernel, rfl, by decide +kernel, by decide +kernel⟩
noncomputable def b_show_numbers : FN.Env → Option Fl :=
  (sRet (fCall [.t (.v true), .t (.v true)] (noErr m_joined) (aCons (fLc [1] (iSeq (fVar 0)) (gNm 1) tYesF (f1 (.t (.v true)) dStr (fVar 1))) (aCons (fC (.str (" " : Str))) aNil))))
noncomputable def m_show_numbers : M D := runF [(.v true)] (.v true) 1 b_show_numbers
theorem ok_show_numbers (B : Bt mg) (a : At K mg "show_numbers" s_show_numbers ["numbers"]) (G_joined : Kn P w K mg base CX0 1 "joined" ["parts", "between"] (spF K mg [(.v true), (.v true)] (.v true) (noErr m_joined))) : Kn P w K mg base CX0 2 "show_numbers" ["numbers"] (spF K mg [(.v true)] (.v true) (noErr m_show_numbers)) := by
  refine fn_ok0 (κl := [(.v true)]) a sc_show_numbers rfl ⟨True.intro, True.intro⟩ ⟨True.intro, True.intro⟩ rfl fun f cdv A outer s H vs E hv hr => ?_
  match vs, hv with
  | [v0], _ =>
  refine ⟨[(.v true), (.v true)], (RetK.oth rfl RetK.nil), ?_⟩
  show FSs _ _ _ [(.v true), (.v true)] _ _ _
  exact (fss_one (fs_ret (κn := _) (fe_fn G_joined (hr.mono (by decide)) (Fits.t (nofix_ne True.intro) (Fits.t (nofix_ne True.intro) Fits.nil)) (fa_cons (fe_lc (kd := (.v _)) (own := [("number", 1)]) (sl := [1]) rfl rfl sc_show_numbers.nd (fi_seq (fe_var 0)) (blkOk_by (N := N_show_numbers) (sc := defScope s_show_numbers) (by decide +kernel)) (by repeat (first | exact True.intro | refine And.intro True.intro ?_)) (by decide) (fun _ _ _ _ _ => (fg_nameK (i := 1) sc_show_numbers.nd)) (fun _ _ _ _ _ => fts_nil) (fun _ _ _ _ _ => (fe_strI (by exact rfl) B.str (fe_var 1)))) (fa_cons fe_str fa_nil))) (RetK.oth rfl RetK.nil)))
abbrev s_show_placing : Stmt := topS 13
abbrev N_show_placing : List Str := ["placing", "item"]
theorem sc_show_placing : FnScope N_show_placing ["placing"] (defScope s_show_placing) := ⟨rfl, rfl, rfl, by decide +kernel, rfl, by decide +kernel, by decide +kernel⟩
noncomputable def b_show_placing : FN.Env → Option Fl :=
  (sRet (fCall [.t (.v true), .t (.v true)] (noErr m_joined) (aCons (fLc [1] (iSeq (fVar 0)) (gNm 1) tYesF (fCall [.t (.v true)] (noErr m_show_item) (aCons (fVar 1) aNil))) (aCons (fC (.str (" " : Str))) aNil))))
noncomputable def m_show_placing : M D := runF [(.v true)] (.v true) 1 b_show_placing
theorem ok_show_placing (B : Bt mg) (a : At K mg "show_placing" s_show_placing ["placing"]) (G_joined : Kn P w K mg base CX0 1 "joined" ["parts", "between"] (spF K mg [(.v true), (.v true)] (.v true) (noErr m_joined))) (G_show_item : Kn P w K mg base CX0 1 "show_item" ["item"] (spF K mg [(.v true)] (.v true) (noErr m_show_item))) : Kn P w K mg base CX0 2 "show_placing" ["placing"] (spF K mg [(.v true)] (.v true) (noErr m_show_placing)) := by
  refine fn_ok0 (κl := [(.v true)]) a sc_show_placing rfl ⟨True.intro, True.intro⟩ ⟨True.intro, True.intro⟩ rfl fun f cdv A outer s H vs E hv hr => ?_
  match vs, hv with
  | [v0], _ =>
  refine ⟨[(.v true), (.v true)], (RetK.oth rfl RetK.nil), ?_⟩
  show FSs _ _ _ [(.v true), (.v true)] _ _ _
  exact (fss_one (fs_ret (κn := _) (fe_fn G_joined (hr.mono (by decide)) (Fits.t (nofix_ne True.intro) (Fits.t (nofix_ne True.intro) Fits.nil)) (fa_cons (fe_lc (kd := (.v _)) (own := [("item", 1)]) (sl := [1]) rfl rfl sc_show_placing.nd (fi_seq (fe_var 0)) (blkOk_by (N := N_show_placing) (sc := defScope s_show_placing) (by decide +kernel)) (by repeat (first | exact True.intro | refine And.intro True.intro ?_)) (by decide) (fun _ _ _ _ _ => (fg_nameK (i := 1) sc_show_placing.nd)) (fun _ _ _ _ _ => fts_nil) (fun _ _ _ _ _ => (fe_fn G_show_item (hr.mono (by decide)) (Fits.t (nofix_ne True.intro) Fits.nil) (fa_cons (fe_var 1) fa_nil)))) (fa_cons fe_str fa_nil))) (RetK.oth rfl RetK.nil)))
abbrev s_show_rows : Stmt := topS 14
abbrev N_show_rows : List Str := ["rows", "row"]
theorem sc_show_rows : FnScope N_show_rows ["rows"] (defScope s_show_rows) := ⟨rfl, rfl, rfl, by decide +kernel, rfl, by decide +kernel, by decide +kernel⟩
noncomputable def b_show_rows : FN.Env → Option Fl :=
  (sRet (fM1 (.t (.v true)) dJoin (fC (.str (" ; " : Str))) (fLc [1] (iSeq (fVar 0)) (gNm 1) tYesF (fCall [.t (.v true)] (noErr m_show_placing) (aCons (fVar 1) aNil)))))
noncomputable def m_show_rows : M D := runF [(.v true)] (.v true) 1 b_show_rows
theorem ok_show_rows (B : Bt mg) (a : At K mg "show_rows" s_show_rows ["rows"]) (G_show_placing : Kn P w K mg base CX0 2 "show_placing" ["placing"] (spF K mg [(.v true)] (.v true) (noErr m_show_placing))) : Kn P w K mg base CX0 3 "show_rows" ["rows"] (spF K mg [(.v true)] (.v true) (noErr m_show_rows)) := by
  refine fn_ok0 (κl := [(.v true)]) a sc_show_rows rfl ⟨True.intro, True.intro⟩ ⟨True.intro, True.intro⟩ rfl fun f cdv A outer s H vs E hv hr => ?_
  match vs, hv with
  | [v0], _ =>
  refine ⟨[(.v true), (.v true)], (RetK.oth rfl RetK.nil), ?_⟩
  show FSs _ _ _ [(.v true), (.v true)] _ _ _
  exact (fss_one (fs_ret (κn := _) (fe_join (k := true) fe_str (fe_lc (kd := (.v _)) (own := [("row", 1)]) (sl := [1]) rfl rfl sc_show_rows.nd (fi_seq (fe_var 0)) (blkOk_by (N := N_show_rows) (sc := defScope s_show_rows) (by decide +kernel)) (by repeat (first | exact True.intro | refine And.intro True.intro ?_)) (by decide) (fun _ _ _ _ _ => (fg_nameK (i := 1) sc_show_rows.nd)) (fun _ _ _ _ _ => fts_nil) (fun _ _ _ _ _ => (fe_fn G_show_placing (hr.mono (by decide)) (Fits.t (nofix_ne True.intro) Fits.nil) (fa_cons (fe_var 1) fa_nil))))) (RetK.oth rfl RetK.nil)))
abbrev s_show_table : Stmt := topS 15
abbrev N_show_table : List Str := ["table"]
theorem sc_show_table : FnScope N_show_table ["table"] (defScope s_show_table) := ⟨rfl, rfl, rfl, by decide +kernel, rfl, by decide +kernel, by decide +kernel⟩
noncomputable def b_show_table : FN.Env → Option Fl :=
  (sRet (fCall [.t (.v true)] (noErr m_show_rows) (aCons (fVar 0) aNil)))
noncomputable def m_show_table : M D := runF [(.v true)] (.v true) 0 b_show_table
theorem ok_show_table (B : Bt mg) (a : At K mg "show_table" s_show_table ["table"]) (G_show_rows : Kn P w K mg base CX0 3 "show_rows" ["rows"] (spF K mg [(.v true)] (.v true) (noErr m_show_rows))) : Kn P w K mg base CX0 4 "show_table" ["table"] (spF K mg [(.v true)] (.v true) (noErr m_show_table)) := by
  refine fn_ok0 (κl := []) a sc_show_table rfl ⟨True.intro, True.intro⟩ True.intro rfl fun f cdv A outer s H vs E hv hr => ?_
  match vs, hv with
  | [v0], _ =>
  refine ⟨[(.v true)], (RetK.oth rfl RetK.nil), ?_⟩
  show FSs _ _ _ [(.v true)] _ _ _
  exact (fss_one (fs_ret (κn := _) (fe_fn G_show_rows (hr.mono (by decide)) (Fits.t (nofix_ne True.intro) Fits.nil) (fa_cons (fe_var 0) fa_nil)) (RetK.oth rfl RetK.nil)))
abbrev s_show_frame : Stmt := topS 16
abbrev N_show_frame : List Str := ["frame", "rows", "columns", "limits"]
theorem sc_show_frame : FnScope N_show_frame ["frame"] (defScope s_show_frame) := ⟨rfl, rfl, rfl, by decide +kernel, rfl, by decide +kernel, by decide +kernel⟩
noncomputable def b_show_frame : FN.Env → Option Fl :=
  (sSeq (sAsg (gTp (gsCons (gNm 1) (gsCons (gNm 2) (gsCons (gNm 3) gsNil)))) (fVar 0))
  (sRet (fM1 (.t (.v true)) dJoin (fC (.str (" | " : Str))) (fLst (aCons (fCall [.t (.v true)] (noErr m_show_numbers) (aCons (fVar 1) aNil)) (aCons (fCall [.t (.v true)] (noErr m_show_numbers) (aCons (fVar 2) aNil)) (aCons (fCall [.t (.v true)] (noErr m_show_rows) (aCons (fVar 3) aNil)) aNil)))))))
noncomputable def m_show_frame : M D := runF [(.v true)] (.v true) 3 b_show_frame
theorem ok_show_frame (B : Bt mg) (a : At K mg "show_frame" s_show_frame ["frame"]) (G_show_numbers : Kn P w K mg base CX0 2 "show_numbers" ["numbers"] (spF K mg [(.v true)] (.v true) (noErr m_show_numbers))) (G_show_rows : Kn P w K mg base CX0 3 "show_rows" ["rows"] (spF K mg [(.v true)] (.v true) (noErr m_show_rows))) : Kn P w K mg base CX0 4 "show_frame" ["frame"] (spF K mg [(.v true)] (.v true) (noErr m_show_frame)) := by
  refine fn_ok0 (κl := [(.v true), (.v true), (.v true)]) a sc_show_frame rfl ⟨True.intro, True.intro⟩ ⟨True.intro, True.intro, True.intro, True.intro⟩ rfl fun f cdv A outer s H vs E hv hr => ?_
  match vs, hv with
  | [v0], _ =>
  refine ⟨[(.v true), (.v true), (.v true), (.v true)], (RetK.oth rfl RetK.nil), ?_⟩
  show FSs _ _ _ [(.v true), (.v true), (.v true), (.v true)] _ _ _
  exact (fss_cons (fs_asg (fe_var 0) (fg_tup rfl (gs_lenS (gs_lenS (gs_lenS gs_len0))) (fgs_cons (fg_nameK (i := 1) sc_show_frame.nd) (fgs_cons (fg_nameK (i := 2) sc_show_frame.nd) (fgs_cons (fg_nameK (i := 3) sc_show_frame.nd) fgs_nil)))))
    (fss_one (fs_ret (κn := _) (fe_join (k := true) fe_str (fe_lst (k := true) (kd := (.v _)) (fa_cons (fe_fn G_show_numbers (hr.mono (by decide)) (Fits.t (nofix_ne True.intro) Fits.nil) (fa_cons (fe_var 1) fa_nil)) (fa_cons (fe_fn G_show_numbers (hr.mono (by decide)) (Fits.t (nofix_ne True.intro) Fits.nil) (fa_cons (fe_var 2) fa_nil)) (fa_cons (fe_fn G_show_rows (hr.mono (by decide)) (Fits.t (nofix_ne True.intro) Fits.nil) (fa_cons (fe_var 3) fa_nil)) fa_nil))))) (RetK.oth rfl RetK.nil))))
abbrev s_show_costs : Stmt := topS 17
abbrev N_show_costs : List Str := ["costs"]
theorem sc_show_costs : FnScope N_show_costs ["costs"] (defScope s_show_costs) := ⟨rfl, rfl, rfl, by decide +kernel, rfl, by decide +kernel, by decide +kernel⟩
noncomputable def b_show_costs : FN.Env → Option Fl :=
  (sRet (fCall [.t (.v true)] (noErr m_show_rows) (aCons (fVar 0) aNil)))
noncomputable def m_show_costs : M D := runF [(.v true)] (.v true) 0 b_show_costs
theorem ok_show_costs (B : Bt mg) (a : At K mg "show_costs" s_show_costs ["costs"]) (G_show_rows : Kn P w K mg base CX0 3 "show_rows" ["rows"] (spF K mg [(.v true)] (.v true) (noErr m_show_rows))) : Kn P w K mg base CX0 4 "show_costs" ["costs"] (spF K mg [(.v true)] (.v true) (noErr m_show_costs)) := by
  refine fn_ok0 (κl := []) a sc_show_costs rfl ⟨True.intro, True.intro⟩ True.intro rfl fun f cdv A outer s H vs E hv hr => ?_
  match vs, hv with
  | [v0], _ =>
  refine ⟨[(.v true)], (RetK.oth rfl RetK.nil), ?_⟩
  show FSs _ _ _ [(.v true)] _ _ _
  exact (fss_one (fs_ret (κn := _) (fe_fn G_show_rows (hr.mono (by decide)) (Fits.t (nofix_ne True.intro) Fits.nil) (fa_cons (fe_var 0) fa_nil)) (RetK.oth rfl RetK.nil)))
abbrev s_is_a_board : Stmt := topS 21
abbrev N_is_a_board : List Str := ["value", "row"]
theorem sc_is_a_board : FnScope N_is_a_board ["value"] (defScope s_is_a_board) := ⟨rfl, rfl, rfl, by decide +kernel, rfl, by decide +kernel, by decide +kernel⟩
noncomputable def b_is_a_board : FN.Env → Option Fl :=
  (sSeq (sIf (tOrF (tNotF (fTru (.t (.v true)) (fCall [.t (.v true), .t (.v true), .t (.v true)] (noErr m_is_tuple) (aCons (fVar 0) (aCons (fC (.int 1)) (aCons (fC (.int 7)) aNil)))))) (tNotF (fTru (.t (.v true)) (f1 (.t (.v true)) dAll (fLc [1] (iSeq (fVar 0)) (gNm 1) tYesF (fCall [.t (.v true), .t (.v true), .t (.v true)] (noErr m_is_tuple) (aCons (fVar 1) (aCons (fC (.int 1)) (aCons (fC (.int 8)) aNil)))))))))
  (sRet (fC (.bool false)))
  sNx)
  (sRet (f1 (.t (.v true)) dAll (fLc [1] (iSeq (fVar 0)) (gNm 1) tYesF (fAnd (f2 (.t (.v true)) (.t (.v true)) dEq (f1 (.t (.v true)) dLen (fVar 1)) (f1 (.t (.v true)) dLen (f2 (.t (.v true)) (.t (.v true)) dIx (fVar 0) (fC (.int 0))))) (fCall [.t (.v true), .t (.v true), .t (.v true)] (noErr m_are_integers) (aCons (fVar 1) (aCons (fC (.int 0)) (aCons (fC (.int 1)) aNil)))))))))
noncomputable def m_is_a_board : M D := runF [(.v true)] (.v true) 1 b_is_a_board
theorem ok_is_a_board (B : Bt mg) (a : At K mg "is_a_board" s_is_a_board ["value"]) (CN : Cs mg) (G_are_integers : Kn P w K mg base CX0 3 "are_integers" ["value", "low", "high"] (spF K mg [(.v true), (.v true), (.v true)] (.v true) (noErr m_are_integers))) (G_is_tuple : Kn P w K mg base CX0 1 "is_tuple" ["value", "low", "high"] (spF K mg [(.v true), (.v true), (.v true)] (.v true) (noErr m_is_tuple))) : Kn P w K mg base CX0 4 "is_a_board" ["value"] (spF K mg [(.v true)] (.v true) (noErr m_is_a_board)) := by
  refine fn_ok0 (κl := [(.v true)]) a sc_is_a_board rfl ⟨True.intro, True.intro⟩ ⟨True.intro, True.intro⟩ rfl fun f cdv A outer s H vs E hv hr => ?_
  match vs, hv with
  | [v0], _ =>
  refine ⟨[(.v true), (.v true)], (RetK.oth rfl RetK.nil), ?_⟩
  show FSs _ _ _ [(.v true), (.v true)] _ _ _
  exact (fss_cons (fs_if (ft_w (fw_or (ft_not (ft_tru (fe_fn G_is_tuple (hr.mono (by decide)) (Fits.t (nofix_ne True.intro) (Fits.t (nofix_ne True.intro) (Fits.t (nofix_ne True.intro) Fits.nil))) (fa_cons (fe_var 0) (fa_cons fe_int (fa_cons (fe_cst CN.MOST_SINGERS_placings (fun _ => .int _)) fa_nil)))))) (fw_or1 (ft_not (ft_tru (fe_all rfl (by exact rfl) B.all (fe_lc (kd := (.v _)) (own := [("row", 1)]) (sl := [1]) rfl rfl sc_is_a_board.nd (fi_seq (fe_var 0)) (blkOk_by (N := N_is_a_board) (sc := defScope s_is_a_board) (by decide +kernel)) (by repeat (first | exact True.intro | refine And.intro True.intro ?_)) (by decide) (fun _ _ _ _ _ => (fg_nameK (i := 1) sc_is_a_board.nd)) (fun _ _ _ _ _ => fts_nil) (fun _ _ _ _ _ => (fe_fn G_is_tuple (hr.mono (by decide)) (Fits.t (nofix_ne True.intro) (Fits.t (nofix_ne True.intro) (Fits.t (nofix_ne True.intro) Fits.nil))) (fa_cons (fe_var 1) (fa_cons fe_int (fa_cons (fe_cst CN.MOST_PLACES_placings (fun _ => .int _)) fa_nil))))))))))))
    (fss_one (fs_ret (κn := _) fe_bl (RetK.oth rfl RetK.nil)))
    fss_nil)
    (fss_one (fs_ret (κn := _) (fe_all rfl (by exact rfl) B.all (fe_lc (kd := (.v _)) (own := [("row", 1)]) (sl := [1]) rfl rfl sc_is_a_board.nd (fi_seq (fe_var 0)) (blkOk_by (N := N_is_a_board) (sc := defScope s_is_a_board) (by decide +kernel)) (by repeat (first | exact True.intro | refine And.intro True.intro ?_)) (by decide) (fun _ _ _ _ _ => (fg_nameK (i := 1) sc_is_a_board.nd)) (fun _ _ _ _ _ => fts_nil) (fun _ _ _ _ _ => (fe_and (fe_cmp (op_eqD hr.units) s_eq (fe_len (by exact rfl) B.len (fe_var 1)) (fe_len (by exact rfl) B.len (fe_ix (fe_var 0) fe_int)) (nomark _)) (fe_one (fe_fn G_are_integers (hr.mono (by decide)) (Fits.t (nofix_ne True.intro) (Fits.t (nofix_ne True.intro) (Fits.t (nofix_ne True.intro) Fits.nil))) (fa_cons (fe_var 1) (fa_cons fe_int (fa_cons fe_int fa_nil))))))))) (RetK.oth rfl RetK.nil))))
abbrev s_is_a_costs : Stmt := topS 25
abbrev N_is_a_costs : List Str := ["value", "row", "item"]
theorem sc_is_a_costs : FnScope N_is_a_costs ["value"] (defScope s_is_a_costs) := ⟨rfl, rfl, rfl, by decide +kernel, rfl, by decide +kernel, by decide +kernel⟩
noncomputable def b_is_a_costs : FN.Env → Option Fl :=
  (sSeq (sIf (tOrF (tNotF (fTru (.t (.v true)) (fCall [.t (.v true), .t (.v true), .t (.v true)] (noErr m_is_tuple) (aCons (fVar 0) (aCons (fC (.int 1)) (aCons (fC (.int 6)) aNil)))))) (tNotF (fTru (.t (.v true)) (f1 (.t (.v true)) dAll (fLc [1] (iSeq (fVar 0)) (gNm 1) tYesF (fCall [.t (.v true), .t (.v true), .t (.v true)] (noErr m_is_tuple) (aCons (fVar 1) (aCons (fC (.int 1)) (aCons (fC (.int 7)) aNil)))))))))
  (sRet (fC (.bool false)))
  sNx)
  (sSeq (sIf (tNotF (fTru (.t (.v true)) (f1 (.t (.v true)) dAll (fLc [1] (iSeq (fVar 0)) (gNm 1) tYesF (f2 (.t (.v true)) (.t (.v true)) dEq (f1 (.t (.v true)) dLen (fVar 1)) (f1 (.t (.v true)) dLen (f2 (.t (.v true)) (.t (.v true)) dIx (fVar 0) (fC (.int 0)))))))))
  (sRet (fC (.bool false)))
  sNx)
  (sRet (f1 (.t (.v true)) dAll (fLc2 [1, 2] [2] (iSeq (fVar 0)) (gNm 1) tYesF (iSeq (fVar 1)) (gNm 2) tYesF (fOr (f2 (.t (.v true)) (.t (.v true)) dIs (fVar 2) (fC .none)) (fCall [.t (.v true), .t (.v true), .t (.v true)] (noErr m_is_between) (aCons (fVar 2) (aCons (fC (.int 0)) (aCons (fC .none) aNil))))))))))
noncomputable def m_is_a_costs : M D := runF [(.v true)] (.v true) 2 b_is_a_costs
theorem ok_is_a_costs (B : Bt mg) (a : At K mg "is_a_costs" s_is_a_costs ["value"]) (CN : Cs mg) (G_is_between : Kn P w K mg base CX0 2 "is_between" ["value", "low", "high"] (spF K mg [(.v true), (.v true), (.v true)] (.v true) (noErr m_is_between))) (G_is_tuple : Kn P w K mg base CX0 1 "is_tuple" ["value", "low", "high"] (spF K mg [(.v true), (.v true), (.v true)] (.v true) (noErr m_is_tuple))) : Kn P w K mg base CX0 3 "is_a_costs" ["value"] (spF K mg [(.v true)] (.v true) (noErr m_is_a_costs)) := by
  refine fn_ok0 (κl := [(.v true), (.v true)]) a sc_is_a_costs rfl ⟨True.intro, True.intro⟩ ⟨True.intro, True.intro, True.intro⟩ rfl fun f cdv A outer s H vs E hv hr => ?_
  match vs, hv with
  | [v0], _ =>
  refine ⟨[(.v true), (.v true), (.v true)], (RetK.oth rfl RetK.nil), ?_⟩
  show FSs _ _ _ [(.v true), (.v true), (.v true)] _ _ _
  exact (fss_cons (fs_if (ft_w (fw_or (ft_not (ft_tru (fe_fn G_is_tuple (hr.mono (by decide)) (Fits.t (nofix_ne True.intro) (Fits.t (nofix_ne True.intro) (Fits.t (nofix_ne True.intro) Fits.nil))) (fa_cons (fe_var 0) (fa_cons fe_int (fa_cons (fe_cst CN.MOST_SINGERS_prices (fun _ => .int _)) fa_nil)))))) (fw_or1 (ft_not (ft_tru (fe_all rfl (by exact rfl) B.all (fe_lc (kd := (.v _)) (own := [("row", 1)]) (sl := [1]) rfl rfl sc_is_a_costs.nd (fi_seq (fe_var 0)) (blkOk_by (N := N_is_a_costs) (sc := defScope s_is_a_costs) (by decide +kernel)) (by repeat (first | exact True.intro | refine And.intro True.intro ?_)) (by decide) (fun _ _ _ _ _ => (fg_nameK (i := 1) sc_is_a_costs.nd)) (fun _ _ _ _ _ => fts_nil) (fun _ _ _ _ _ => (fe_fn G_is_tuple (hr.mono (by decide)) (Fits.t (nofix_ne True.intro) (Fits.t (nofix_ne True.intro) (Fits.t (nofix_ne True.intro) Fits.nil))) (fa_cons (fe_var 1) (fa_cons fe_int (fa_cons (fe_cst CN.MOST_PLACES_prices (fun _ => .int _)) fa_nil))))))))))))
    (fss_one (fs_ret (κn := _) fe_bl (RetK.oth rfl RetK.nil)))
    fss_nil)
    (fss_cons (fs_if (ft_not (ft_tru (fe_all rfl (by exact rfl) B.all (fe_lc (kd := (.v _)) (own := [("row", 1)]) (sl := [1]) rfl rfl sc_is_a_costs.nd (fi_seq (fe_var 0)) (blkOk_by (N := N_is_a_costs) (sc := defScope s_is_a_costs) (by decide +kernel)) (by repeat (first | exact True.intro | refine And.intro True.intro ?_)) (by decide) (fun _ _ _ _ _ => (fg_nameK (i := 1) sc_is_a_costs.nd)) (fun _ _ _ _ _ => fts_nil) (fun _ _ _ _ _ => (fe_cmp (op_eqD hr.units) s_eq (fe_len (by exact rfl) B.len (fe_var 1)) (fe_len (by exact rfl) B.len (fe_ix (fe_var 0) fe_int)) (nomark _)))))))
    (fss_one (fs_ret (κn := _) fe_bl (RetK.oth rfl RetK.nil)))
    fss_nil)
    (fss_one (fs_ret (κn := _) (fe_all rfl (by exact rfl) B.all (fe_lc2 (kd := (.v _)) (own := [("row", 1), ("item", 2)]) (vs1 := [2]) (sl := [1]) (sl1 := [2]) rfl rfl sc_is_a_costs.nd (fi_seq (fe_var 0)) (blkOk_by (N := N_is_a_costs) (sc := defScope s_is_a_costs) (by decide +kernel)) (by repeat (first | exact True.intro | refine And.intro True.intro ?_)) (by repeat (first | exact True.intro | refine And.intro True.intro ?_)) (by decide) (by decide) (by decide) (fun _ _ _ _ _ => (fg_nameK (i := 1) sc_is_a_costs.nd)) (fun _ _ _ _ _ => fts_nil) (fun _ _ _ _ _ => (fi_seq (fe_var 1))) (fun _ _ _ _ _ => (fg_nameK (i := 2) sc_is_a_costs.nd)) (fun _ _ _ _ _ => fts_nil) (fun _ _ _ _ _ => (fe_or (fe_cmp op_isA s_is (fe_var 2) fe_non (nomark _)) (fe_one (fe_fn G_is_between (hr.mono (by decide)) (Fits.t (nofix_ne True.intro) (Fits.t (nofix_ne True.intro) (Fits.t (nofix_ne True.intro) Fits.nil))) (fa_cons (fe_var 2) (fa_cons fe_int (fa_cons fe_non fa_nil))))))))) (RetK.oth rfl RetK.nil)))))
abbrev s_are_sums : Stmt := topS 28
abbrev N_are_sums : List Str := ["value"]
theorem sc_are_sums : FnScope N_are_sums ["value"] (defScope s_are_sums) := ⟨rfl, rfl, rfl, by decide +kernel, rfl, by decide +kernel, by decide +kernel⟩
noncomputable def b_are_sums : FN.Env → Option Fl :=
  (sRet (fAnd (fCall [.t (.v true), .t (.v true), .t (.v true)] (noErr m_is_tuple) (aCons (fVar 0) (aCons (fC (.int 1)) (aCons (fC (.int 5)) aNil)))) (fCall [.t (.v true), .t (.v true), .t (.v true)] (noErr m_are_integers) (aCons (fVar 0) (aCons (fC (.int 0)) (aCons (fC .none) aNil))))))
noncomputable def m_are_sums : M D := runF [(.v true)] (.v true) 0 b_are_sums
theorem ok_are_sums (B : Bt mg) (a : At K mg "are_sums" s_are_sums ["value"]) (CN : Cs mg) (G_are_integers : Kn P w K mg base CX0 3 "are_integers" ["value", "low", "high"] (spF K mg [(.v true), (.v true), (.v true)] (.v true) (noErr m_are_integers))) (G_is_tuple : Kn P w K mg base CX0 1 "is_tuple" ["value", "low", "high"] (spF K mg [(.v true), (.v true), (.v true)] (.v true) (noErr m_is_tuple))) : Kn P w K mg base CX0 4 "are_sums" ["value"] (spF K mg [(.v true)] (.v true) (noErr m_are_sums)) := by
  refine fn_ok0 (κl := []) a sc_are_sums rfl ⟨True.intro, True.intro⟩ True.intro rfl fun f cdv A outer s H vs E hv hr => ?_
  match vs, hv with
  | [v0], _ =>
  refine ⟨[(.v true)], (RetK.oth rfl RetK.nil), ?_⟩
  show FSs _ _ _ [(.v true)] _ _ _
  exact (fss_one (fs_ret (κn := _) (fe_and (fe_fn G_is_tuple (hr.mono (by decide)) (Fits.t (nofix_ne True.intro) (Fits.t (nofix_ne True.intro) (Fits.t (nofix_ne True.intro) Fits.nil))) (fa_cons (fe_var 0) (fa_cons fe_int (fa_cons (fe_cst CN.MOST_LINES (fun _ => .int _)) fa_nil)))) (fe_one (fe_fn G_are_integers (hr.mono (by decide)) (Fits.t (nofix_ne True.intro) (Fits.t (nofix_ne True.intro) (Fits.t (nofix_ne True.intro) Fits.nil))) (fa_cons (fe_var 0) (fa_cons fe_int (fa_cons fe_non fa_nil)))))) (RetK.oth rfl RetK.nil)))
abbrev s_are_limits : Stmt := topS 29
abbrev N_are_limits : List Str := ["value", "many", "limit"]
theorem sc_are_limits : FnScope N_are_limits ["value", "many"] (defScope s_are_limits) := ⟨rfl, rfl, rfl, by decide +kernel, rfl, by decide +kernel, by decide +kernel⟩
noncomputable def b_are_limits : FN.Env → Option Fl :=
  (sRet (fAnd (fCall [.t (.v true), .t (.v true), .t (.v true)] (noErr m_is_tuple) (aCons (fVar 0) (aCons (fVar 1) (aCons (fVar 1) aNil)))) (f1 (.t (.v true)) dAll (fLc [2] (iSeq (fVar 0)) (gNm 2) tYesF (fOr (f2 (.t (.v true)) (.t (.v true)) dIs (fVar 2) (fC .none)) (fCall [.t (.v true), .t (.v true), .t (.v true)] (noErr m_is_between) (aCons (fVar 2) (aCons (fC (.int 0)) (aCons (fC .none) aNil)))))))))
noncomputable def m_are_limits : M D := runF [(.v true), (.v true)] (.v true) 1 b_are_limits
theorem ok_are_limits (B : Bt mg) (a : At K mg "are_limits" s_are_limits ["value", "many"]) (G_is_between : Kn P w K mg base CX0 2 "is_between" ["value", "low", "high"] (spF K mg [(.v true), (.v true), (.v true)] (.v true) (noErr m_is_between))) (G_is_tuple : Kn P w K mg base CX0 1 "is_tuple" ["value", "low", "high"] (spF K mg [(.v true), (.v true), (.v true)] (.v true) (noErr m_is_tuple))) : Kn P w K mg base CX0 3 "are_limits" ["value", "many"] (spF K mg [(.v true), (.v true)] (.v true) (noErr m_are_limits)) := by
  refine fn_ok0 (κl := [(.v true)]) a sc_are_limits rfl ⟨True.intro, True.intro, True.intro⟩ ⟨True.intro, True.intro⟩ rfl fun f cdv A outer s H vs E hv hr => ?_
  match vs, hv with
  | [v0, v1], _ =>
  refine ⟨[(.v true), (.v true), (.v true)], (RetK.oth rfl (RetK.oth rfl RetK.nil)), ?_⟩
  show FSs _ _ _ [(.v true), (.v true), (.v true)] _ _ _
  exact (fss_one (fs_ret (κn := _) (fe_and (fe_fn G_is_tuple (hr.mono (by decide)) (Fits.t (nofix_ne True.intro) (Fits.t (nofix_ne True.intro) (Fits.t (nofix_ne True.intro) Fits.nil))) (fa_cons (fe_var 0) (fa_cons (fe_var 1) (fa_cons (fe_var 1) fa_nil)))) (fe_one (fe_all rfl (by exact rfl) B.all (fe_lc (kd := (.v _)) (own := [("limit", 2)]) (sl := [2]) rfl rfl sc_are_limits.nd (fi_seq (fe_var 0)) (blkOk_by (N := N_are_limits) (sc := defScope s_are_limits) (by decide +kernel)) (by repeat (first | exact True.intro | refine And.intro True.intro ?_)) (by decide) (fun _ _ _ _ _ => (fg_nameK (i := 2) sc_are_limits.nd)) (fun _ _ _ _ _ => fts_nil) (fun _ _ _ _ _ => (fe_or (fe_cmp op_isA s_is (fe_var 2) fe_non (nomark _)) (fe_one (fe_fn G_is_between (hr.mono (by decide)) (Fits.t (nofix_ne True.intro) (Fits.t (nofix_ne True.intro) (Fits.t (nofix_ne True.intro) Fits.nil))) (fa_cons (fe_var 2) (fa_cons fe_int (fa_cons fe_non fa_nil))))))))))) (RetK.oth rfl (RetK.oth rfl RetK.nil))))
abbrev s_is_a_frame : Stmt := topS 30
abbrev N_is_a_frame : List Str := ["value", "rows", "columns", "limits", "row"]
theorem sc_is_a_frame : FnScope N_is_a_frame ["value"] (defScope s_is_a_frame) := ⟨rfl, rfl, rfl, by decide +kernel, rfl, by decide +kernel, by decide +kernel⟩
noncomputable def b_is_a_frame : FN.Env → Option Fl :=
  (sSeq (sIf (tOrF (tNotF (fTru (.t (.v true)) (fCall [.t (.v true), .t (.v true), .t (.v true)] (noErr m_is_tuple) (aCons (fVar 0) (aCons (fC (.int 3)) (aCons (fC (.int 3)) aNil)))))) (tOrF (tNotF (fTru (.t (.v true)) (fCall [.t (.v true)] (noErr m_are_sums) (aCons (f2 (.t (.v true)) (.t (.v true)) dIx (fVar 0) (fC (.int 0))) aNil)))) (tNotF (fTru (.t (.v true)) (fCall [.t (.v true)] (noErr m_are_sums) (aCons (f2 (.t (.v true)) (.t (.v true)) dIx (fVar 0) (fC (.int 1))) aNil))))))
  (sRet (fC (.bool false)))
  sNx)
  (sSeq (sAsg (gTp (gsCons (gNm 1) (gsCons (gNm 2) (gsCons (gNm 3) gsNil)))) (fVar 0))
  (sRet (fAnd (fCall [.t (.v true), .t (.v true), .t (.v true)] (noErr m_is_tuple) (aCons (fVar 3) (aCons (f1 (.t (.v true)) dLen (fVar 1)) (aCons (f1 (.t (.v true)) dLen (fVar 1)) aNil)))) (f1 (.t (.v true)) dAll (fLc [4] (iSeq (fVar 3)) (gNm 4) tYesF (fCall [.t (.v true), .t (.v true)] (noErr m_are_limits) (aCons (fVar 4) (aCons (f1 (.t (.v true)) dLen (fVar 2)) aNil)))))))))
noncomputable def m_is_a_frame : M D := runF [(.v true)] (.v true) 4 b_is_a_frame
theorem ok_is_a_frame (B : Bt mg) (a : At K mg "is_a_frame" s_is_a_frame ["value"]) (G_are_limits : Kn P w K mg base CX0 3 "are_limits" ["value", "many"] (spF K mg [(.v true), (.v true)] (.v true) (noErr m_are_limits))) (G_are_sums : Kn P w K mg base CX0 4 "are_sums" ["value"] (spF K mg [(.v true)] (.v true) (noErr m_are_sums))) (G_is_tuple : Kn P w K mg base CX0 1 "is_tuple" ["value", "low", "high"] (spF K mg [(.v true), (.v true), (.v true)] (.v true) (noErr m_is_tuple))) : Kn P w K mg base CX0 5 "is_a_frame" ["value"] (spF K mg [(.v true)] (.v true) (noErr m_is_a_frame)) := by
  refine fn_ok0 (κl := [(.v true), (.v true), (.v true), (.v true)]) a sc_is_a_frame rfl ⟨True.intro, True.intro⟩ ⟨True.intro, True.intro, True.intro, True.intro, True.intro⟩ rfl fun f cdv A outer s H vs E hv hr => ?_
  match vs, hv with
  | [v0], _ =>
  refine ⟨[(.v true), (.v true), (.v true), (.v true), (.v true)], (RetK.oth rfl RetK.nil), ?_⟩
  show FSs _ _ _ [(.v true), (.v true), (.v true), (.v true), (.v true)] _ _ _
  exact (fss_cons (fs_if (ft_w (fw_or (ft_not (ft_tru (fe_fn G_is_tuple (hr.mono (by decide)) (Fits.t (nofix_ne True.intro) (Fits.t (nofix_ne True.intro) (Fits.t (nofix_ne True.intro) Fits.nil))) (fa_cons (fe_var 0) (fa_cons fe_int (fa_cons fe_int fa_nil)))))) (fw_or (ft_not (ft_tru (fe_fn G_are_sums (hr.mono (by decide)) (Fits.t (nofix_ne True.intro) Fits.nil) (fa_cons (fe_ix (fe_var 0) fe_int) fa_nil)))) (fw_or1 (ft_not (ft_tru (fe_fn G_are_sums (hr.mono (by decide)) (Fits.t (nofix_ne True.intro) Fits.nil) (fa_cons (fe_ix (fe_var 0) fe_int) fa_nil))))))))
    (fss_one (fs_ret (κn := _) fe_bl (RetK.oth rfl RetK.nil)))
    fss_nil)
    (fss_cons (fs_asg (fe_var 0) (fg_tup rfl (gs_lenS (gs_lenS (gs_lenS gs_len0))) (fgs_cons (fg_nameK (i := 1) sc_is_a_frame.nd) (fgs_cons (fg_nameK (i := 2) sc_is_a_frame.nd) (fgs_cons (fg_nameK (i := 3) sc_is_a_frame.nd) fgs_nil)))))
    (fss_one (fs_ret (κn := _) (fe_and (fe_fn G_is_tuple (hr.mono (by decide)) (Fits.t (nofix_ne True.intro) (Fits.t (nofix_ne True.intro) (Fits.t (nofix_ne True.intro) Fits.nil))) (fa_cons (fe_var 3) (fa_cons (fe_len (by exact rfl) B.len (fe_var 1)) (fa_cons (fe_len (by exact rfl) B.len (fe_var 1)) fa_nil)))) (fe_one (fe_all rfl (by exact rfl) B.all (fe_lc (kd := (.v _)) (own := [("row", 4)]) (sl := [4]) rfl rfl sc_is_a_frame.nd (fi_seq (fe_var 3)) (blkOk_by (N := N_is_a_frame) (sc := defScope s_is_a_frame) (by decide +kernel)) (by repeat (first | exact True.intro | refine And.intro True.intro ?_)) (by decide) (fun _ _ _ _ _ => (fg_nameK (i := 4) sc_is_a_frame.nd)) (fun _ _ _ _ _ => fts_nil) (fun _ _ _ _ _ => (fe_fn G_are_limits (hr.mono (by decide)) (Fits.t (nofix_ne True.intro) (Fits.t (nofix_ne True.intro) Fits.nil)) (fa_cons (fe_var 4) (fa_cons (fe_len (by exact rfl) B.len (fe_var 2)) fa_nil)))))))) (RetK.oth rfl RetK.nil)))))
abbrev s_integer_from : Stmt := topS 38
abbrev N_integer_from : List Str := ["word", "digits", "sign"]
theorem sc_integer_from : FnScope N_integer_from ["word"] (defScope s_integer_from) := ⟨rfl, rfl, rfl, by decide +kernel, rfl, by decide +kernel, by decide +kernel⟩
noncomputable def b_integer_from : FN.Env → Option Fl :=
  (sSeq (sSet 1 (fIf (fTst (f2 (.t (.v true)) (.t (.v true)) dEq (f3 (.t (.v true)) (fVar 0) oNone (oSome (fC (.int 1)))) (fC (.str ("-" : Str))))) (f3 (.t (.v true)) (fVar 0) (oSome (fC (.int 1))) oNone) (fVar 0)))
  (sSeq (sIf (tOrF (tNotF (fTst (fCh (.t (.v true)) (.t (.v true)) (.t (.v true)) dLt dLe (fC (.int 0)) (f1 (.t (.v true)) dLen (fVar 1)) (fC (.int 30))))) (tNotF (fTru (.t (.v true)) (f1 (.t (.v true)) dAll (fLc [2] (iSeq (fVar 1)) (gNm 2) tYesF (f2 (.t (.v true)) (.t (.v true)) dIn (fVar 2) (fC (.str ("0123456789" : Str)))))))))
  (sRet (fC .none))
  sNx)
  (sRet (fIf (tAndF (fTst (f2 (.t (.v true)) (.t (.v true)) dEq (f2 (.t (.v true)) (.t (.v true)) dIx (fVar 1) (fC (.int 0))) (fC (.str ("0" : Str))))) (fTst (f2 (.t (.v true)) (.t (.v true)) dNe (fVar 0) (fC (.str ("0" : Str)))))) (fC .none) (f1 (.t (.v true)) dInt (fVar 0))))))
noncomputable def m_integer_from : M D := runF [(.v true)] (.v true) 2 b_integer_from
theorem ok_integer_from (B : Bt mg) (a : At K mg "integer_from" s_integer_from ["word"]) (CN : Cs mg) : Kn P w K mg base CX0 1 "integer_from" ["word"] (spF K mg [(.v true)] (.v true) (noErr m_integer_from)) := by
  refine fn_ok0 (κl := [(.v true), (.v true)]) a sc_integer_from rfl ⟨True.intro, True.intro⟩ ⟨True.intro, True.intro, True.intro⟩ rfl fun f cdv A outer s H vs E hv hr => ?_
  match vs, hv with
  | [v0], _ =>
  refine ⟨[(.v true), (.v true), (.v true)], (RetK.oth rfl RetK.nil), ?_⟩
  show FSs _ _ _ [(.v true), (.v true), (.v true)] _ _ _
  exact (fss_cons (fs_setK (i := 1) (fe_if (ft_cmp (op_eqD hr.units) s_eq (fe_sl (fe_var 0) fo_none (fo_some (k := true) fe_int)) fe_str (nomark _)) (fe_sl (fe_var 0) (fo_some (k := true) fe_int) fo_none) (fe_var 0)) sc_integer_from.nd)
    (fss_cons (fs_if (ft_w (fw_or (ft_not (ft_ch op_lt s_lt op_le s_le fe_int (fe_len (by exact rfl) B.len (fe_var 1)) (fe_cst CN.MOST_DIGITS (fun _ => .int _)))) (fw_or1 (ft_not (ft_tru (fe_all rfl (by exact rfl) B.all (fe_lc (kd := (.v _)) (own := [("sign", 2)]) (sl := [2]) rfl rfl sc_integer_from.nd (fi_seq (fe_var 1)) (blkOk_by (N := N_integer_from) (sc := defScope s_integer_from) (by decide +kernel)) (by repeat (first | exact True.intro | refine And.intro True.intro ?_)) (by decide) (fun _ _ _ _ _ => (fg_nameK (i := 2) sc_integer_from.nd)) (fun _ _ _ _ _ => fts_nil) (fun _ _ _ _ _ => (fe_cmp (op_inA hr) s_in (fe_var 2) (fe_cst CN.FIGURES (fun _ => .str _)) (by rfl))))))))))
    (fss_one (fs_ret (κn := _) fe_non (RetK.oth rfl RetK.nil)))
    fss_nil)
    (fss_one (fs_ret (κn := _) (fe_if (ft_w (fw_and (ft_cmp (op_eqD hr.units) s_eq (fe_ix (fe_var 1) fe_int) fe_str (nomark _)) (fw_and1 (ft_cmp (op_neD hr.units) s_ne (fe_var 0) fe_str (nomark _))))) fe_non (fe_int1 (by exact rfl) B.int (fe_var 0))) (RetK.oth rfl RetK.nil)))))
abbrev s_all_or_none : Stmt := topS 39
abbrev N_all_or_none : List Str := ["found"]
theorem sc_all_or_none : FnScope N_all_or_none ["found"] (defScope s_all_or_none) := ⟨rfl, rfl, rfl, by decide +kernel, rfl, by decide +kernel, by decide +kernel⟩
noncomputable def b_all_or_none : FN.Env → Option Fl :=
  (sRet (fIf (fTst (f2 (.t (.v true)) (.t (.v true)) dIn (fC .none) (fVar 0))) (fC .none) (f1 (.t (.v true)) dTuple (fVar 0))))
noncomputable def m_all_or_none : M D := runF [(.v true)] (.v true) 0 b_all_or_none
theorem ok_all_or_none (B : Bt mg) (a : At K mg "all_or_none" s_all_or_none ["found"])  : Kn P w K mg base CX0 1 "all_or_none" ["found"] (spF K mg [(.v true)] (.v true) (noErr m_all_or_none)) := by
  refine fn_ok0 (κl := []) a sc_all_or_none rfl ⟨True.intro, True.intro⟩ True.intro rfl fun f cdv A outer s H vs E hv hr => ?_
  match vs, hv with
  | [v0], _ =>
  refine ⟨[(.v true)], (RetK.oth rfl RetK.nil), ?_⟩
  show FSs _ _ _ [(.v true)] _ _ _
  exact (fss_one (fs_ret (κn := _) (fe_if (ft_cmp (op_inA hr) s_in fe_non (fe_var 0) (by rfl)) fe_non (fe_tuple (by exact rfl) B.tuple (fe_var 0))) (RetK.oth rfl RetK.nil)))
abbrev s_listed__integer_from : Stmt := topS 40
abbrev N_listed__integer_from : List Str := ["text", "between", "kind", "part"]
theorem sc_listed__integer_from : FnScope N_listed__integer_from ["text", "between", "kind"] (defScope s_listed__integer_from) := ⟨rfl, rfl, rfl, by decide +kernel, rfl, by decide +kernel, by decide +kernel⟩
noncomputable def b_listed__integer_from : FN.Env → Option Fl :=
  (sRet (fCall [.t (.v true)] (noErr m_all_or_none) (aCons (fLc [3] (iSeq (fM1 (.t (.v true)) dSplit (fVar 0) (fVar 1))) (gNm 3) tYesF (fCallL 2 [.t (.v true)] (noErr m_integer_from) (aCons (fVar 3) aNil))) aNil)))
noncomputable def m_listed__integer_from : M D := runF [(.v true), (.v true), (.tok .non)] (.v true) 1 b_listed__integer_from
theorem ok_listed__integer_from (B : Bt mg) (a : At K mg "listed" s_listed__integer_from ["text", "between", "kind"]) {f_integer_from : Addr} (hm_integer_from : mg "integer_from" = some (.ref f_integer_from)) (G_all_or_none : Kn P w K mg base CX0 1 "all_or_none" ["found"] (spF K mg [(.v true)] (.v true) (noErr m_all_or_none))) (G_integer_from : Kn P w K mg base CX0 1 "integer_from" ["word"] (spF K mg [(.v true)] (.v true) (noErr m_integer_from))) : Kn P w K mg base CX0 2 "listed" ["text", "between", "kind"] (spF K mg [(.v true), (.v true), (.tok (.ref f_integer_from))] (.v true) (noErr m_listed__integer_from)) := by
  have e : m_listed__integer_from = runF [(.v true), (.v true), (.tok (.ref f_integer_from))] (.v true) 1 b_listed__integer_from := runF_keep (by rfl) _ _ _
  rw [e]
  refine fn_ok0 (κl := [(.v true)]) a sc_listed__integer_from rfl ⟨True.intro, True.intro, True.intro, True.intro⟩ ⟨True.intro, True.intro⟩ rfl fun f cdv A outer s H vs E hv hr => ?_
  match vs, hv with
  | [v0, v1, v2], _ =>
  refine ⟨[(.v true), (.v true), .fix v2 (.tok (.ref f_integer_from)), (.v true)], (RetK.oth rfl (RetK.oth rfl (RetK.own rfl RetK.nil))), ?_⟩
  show FSs _ _ _ [(.v true), (.v true), .fix v2 (.tok (.ref f_integer_from)), (.v true)] _ _ _
  exact (fss_one (fs_ret (κn := _) (fe_fn G_all_or_none (hr.mono (by decide)) (Fits.t (nofix_ne True.intro) Fits.nil) (fa_cons (fe_lc (kd := (.v _)) (own := [("part", 3)]) (sl := [3]) rfl rfl sc_listed__integer_from.nd (fi_seq (fe_split (b := true) (kd := (.v true)) rfl (fe_var 0) (fe_var 1))) (blkOk_by (N := N_listed__integer_from) (sc := defScope s_listed__integer_from) (by decide +kernel)) (by repeat (first | exact True.intro | refine And.intro True.intro ?_)) (by decide) (fun _ _ _ _ _ => (fg_nameK (i := 3) sc_listed__integer_from.nd)) (fun _ _ _ _ _ => fts_nil) (fun _ _ _ _ _ => (fe_fnL (i := 2) G_integer_from hm_integer_from (by exact rfl) (hr.mono (by decide)) (Fits.t (nofix_ne True.intro) Fits.nil) (fa_cons (fe_var 3) fa_nil)))) fa_nil)) (RetK.oth rfl (RetK.oth rfl (RetK.own rfl RetK.nil)))))
abbrev s_item_from : Stmt := topS 42
abbrev N_item_from : List Str := ["word", "found"]
theorem sc_item_from : FnScope N_item_from ["word"] (defScope s_item_from) := ⟨rfl, rfl, rfl, by decide +kernel, rfl, by decide +kernel, by decide +kernel⟩
noncomputable def b_item_from : FN.Env → Option Fl :=
  (sSeq (sIf (fTst (f2 (.t (.v true)) (.t (.v true)) dEq (fVar 0) (fC (.str ("-" : Str)))))
  (sRet (fTup (aCons (fC .none) aNil)))
  sNx)
  (sSeq (sSet 1 (fCall [.t (.v true)] (noErr m_integer_from) (aCons (fVar 0) aNil)))
  (sRet (fIf (fTst (f2 (.t (.v true)) (.t (.v true)) dIs (fVar 1) (fC .none))) (fC .none) (fTup (aCons (fVar 1) aNil))))))
noncomputable def m_item_from : M D := runF [(.v true)] (.v true) 1 b_item_from
theorem ok_item_from (B : Bt mg) (a : At K mg "item_from" s_item_from ["word"]) (CN : Cs mg) (G_integer_from : Kn P w K mg base CX0 1 "integer_from" ["word"] (spF K mg [(.v true)] (.v true) (noErr m_integer_from))) : Kn P w K mg base CX0 2 "item_from" ["word"] (spF K mg [(.v true)] (.v true) (noErr m_item_from)) := by
  refine fn_ok0 (κl := [(.v true)]) a sc_item_from rfl ⟨True.intro, True.intro⟩ ⟨True.intro, True.intro⟩ rfl fun f cdv A outer s H vs E hv hr => ?_
  match vs, hv with
  | [v0], _ =>
  refine ⟨[(.v true), (.v true)], (RetK.oth rfl RetK.nil), ?_⟩
  show FSs _ _ _ [(.v true), (.v true)] _ _ _
  exact (fss_cons (fs_if (ft_cmp (op_eqD hr.units) s_eq (fe_var 0) (fe_cst CN.NONE_finding (fun _ => .str _)) (nomark _))
    (fss_one (fs_ret (κn := _) (fe_tup (k := true) (fa_cons fe_non fa_nil)) (RetK.oth rfl RetK.nil)))
    fss_nil)
    (fss_cons (fs_setK (i := 1) (fe_fn G_integer_from (hr.mono (by decide)) (Fits.t (nofix_ne True.intro) Fits.nil) (fa_cons (fe_var 0) fa_nil)) sc_item_from.nd)
    (fss_one (fs_ret (κn := _) (fe_if (ft_cmp op_isA s_is (fe_var 1) fe_non (nomark _)) fe_non (fe_tup (k := true) (fa_cons (fe_var 1) fa_nil))) (RetK.oth rfl RetK.nil)))))
abbrev s_listed__item_from : Stmt := topS 40
abbrev N_listed__item_from : List Str := ["text", "between", "kind", "part"]
theorem sc_listed__item_from : FnScope N_listed__item_from ["text", "between", "kind"] (defScope s_listed__item_from) := ⟨rfl, rfl, rfl, by decide +kernel, rfl, by decide +kernel, by decide +kernel⟩
noncomputable def b_listed__item_from : FN.Env → Option Fl :=
  (sRet (fCall [.t (.v true)] (noErr m_all_or_none) (aCons (fLc [3] (iSeq (fM1 (.t (.v true)) dSplit (fVar 0) (fVar 1))) (gNm 3) tYesF (fCallL 2 [.t (.v true)] (noErr m_item_from) (aCons (fVar 3) aNil))) aNil)))
noncomputable def m_listed__item_from : M D := runF [(.v true), (.v true), (.tok .non)] (.v true) 1 b_listed__item_from
theorem ok_listed__item_from (B : Bt mg) (a : At K mg "listed" s_listed__item_from ["text", "between", "kind"]) {f_item_from : Addr} (hm_item_from : mg "item_from" = some (.ref f_item_from)) (G_all_or_none : Kn P w K mg base CX0 1 "all_or_none" ["found"] (spF K mg [(.v true)] (.v true) (noErr m_all_or_none))) (G_item_from : Kn P w K mg base CX0 2 "item_from" ["word"] (spF K mg [(.v true)] (.v true) (noErr m_item_from))) : Kn P w K mg base CX0 3 "listed" ["text", "between", "kind"] (spF K mg [(.v true), (.v true), (.tok (.ref f_item_from))] (.v true) (noErr m_listed__item_from)) := by
  have e : m_listed__item_from = runF [(.v true), (.v true), (.tok (.ref f_item_from))] (.v true) 1 b_listed__item_from := runF_keep (by rfl) _ _ _
  rw [e]
  refine fn_ok0 (κl := [(.v true)]) a sc_listed__item_from rfl ⟨True.intro, True.intro, True.intro, True.intro⟩ ⟨True.intro, True.intro⟩ rfl fun f cdv A outer s H vs E hv hr => ?_
  match vs, hv with
  | [v0, v1, v2], _ =>
  refine ⟨[(.v true), (.v true), .fix v2 (.tok (.ref f_item_from)), (.v true)], (RetK.oth rfl (RetK.oth rfl (RetK.own rfl RetK.nil))), ?_⟩
  show FSs _ _ _ [(.v true), (.v true), .fix v2 (.tok (.ref f_item_from)), (.v true)] _ _ _
  exact (fss_one (fs_ret (κn := _) (fe_fn G_all_or_none (hr.mono (by decide)) (Fits.t (nofix_ne True.intro) Fits.nil) (fa_cons (fe_lc (kd := (.v _)) (own := [("part", 3)]) (sl := [3]) rfl rfl sc_listed__item_from.nd (fi_seq (fe_split (b := true) (kd := (.v true)) rfl (fe_var 0) (fe_var 1))) (blkOk_by (N := N_listed__item_from) (sc := defScope s_listed__item_from) (by decide +kernel)) (by repeat (first | exact True.intro | refine And.intro True.intro ?_)) (by decide) (fun _ _ _ _ _ => (fg_nameK (i := 3) sc_listed__item_from.nd)) (fun _ _ _ _ _ => fts_nil) (fun _ _ _ _ _ => (fe_fnL (i := 2) G_item_from hm_item_from (by exact rfl) (hr.mono (by decide)) (Fits.t (nofix_ne True.intro) Fits.nil) (fa_cons (fe_var 3) fa_nil)))) fa_nil)) (RetK.oth rfl (RetK.oth rfl (RetK.own rfl RetK.nil)))))
abbrev s_integers_from : Stmt := topS 41
abbrev N_integers_from : List Str := ["text"]
theorem sc_integers_from : FnScope N_integers_from ["text"] (defScope s_integers_from) := ⟨rfl, rfl, rfl, by decide +kernel, rfl, by decide +kernel, by decide +kernel⟩
noncomputable def b_integers_from : FN.Env → Option Fl :=
  (sRet (fCall [.t (.v true), .t (.v true), .t (.tok .non)] (noErr m_listed__integer_from) (aCons (fVar 0) (aCons (fC (.str (" " : Str))) (aCons fTok aNil)))))
noncomputable def m_integers_from : M D := runF [(.v true)] (.v true) 0 b_integers_from
theorem ok_integers_from (B : Bt mg) (a : At K mg "integers_from" s_integers_from ["text"]) {f_integer_from : Addr} (hm_integer_from : mg "integer_from" = some (.ref f_integer_from)) (G_listed__integer_from : Kn P w K mg base CX0 2 "listed" ["text", "between", "kind"] (spF K mg [(.v true), (.v true), (.tok (.ref f_integer_from))] (.v true) (noErr m_listed__integer_from))) : Kn P w K mg base CX0 3 "integers_from" ["text"] (spF K mg [(.v true)] (.v true) (noErr m_integers_from)) := by
  refine fn_ok0 (κl := []) a sc_integers_from rfl ⟨True.intro, True.intro⟩ True.intro rfl fun f cdv A outer s H vs E hv hr => ?_
  match vs, hv with
  | [v0], _ =>
  refine ⟨[(.v true)], (RetK.oth rfl RetK.nil), ?_⟩
  show FSs _ _ _ [(.v true)] _ _ _
  exact (fss_one (fs_ret (κn := _) (fe_sh (fe_fn G_listed__integer_from (hr.mono (by decide)) (Fits.t (nofix_ne True.intro) (Fits.t (nofix_ne True.intro) (Fits.t (nofix_ne True.intro) Fits.nil))) (fa_cons (fe_var 0) (fa_cons fe_str (fa_cons (fe_tok hm_integer_from) fa_nil))))) (RetK.oth rfl RetK.nil)))
abbrev s_listed__integers_from : Stmt := topS 40
abbrev N_listed__integers_from : List Str := ["text", "between", "kind", "part"]
theorem sc_listed__integers_from : FnScope N_listed__integers_from ["text", "between", "kind"] (defScope s_listed__integers_from) := ⟨rfl, rfl, rfl, by decide +kernel, rfl, by decide +kernel, by decide +kernel⟩
noncomputable def b_listed__integers_from : FN.Env → Option Fl :=
  (sRet (fCall [.t (.v true)] (noErr m_all_or_none) (aCons (fLc [3] (iSeq (fM1 (.t (.v true)) dSplit (fVar 0) (fVar 1))) (gNm 3) tYesF (fCallL 2 [.t (.v true)] (noErr m_integers_from) (aCons (fVar 3) aNil))) aNil)))
noncomputable def m_listed__integers_from : M D := runF [(.v true), (.v true), (.tok .non)] (.v true) 1 b_listed__integers_from
theorem ok_listed__integers_from (B : Bt mg) (a : At K mg "listed" s_listed__integers_from ["text", "between", "kind"]) {f_integers_from : Addr} (hm_integers_from : mg "integers_from" = some (.ref f_integers_from)) (G_all_or_none : Kn P w K mg base CX0 1 "all_or_none" ["found"] (spF K mg [(.v true)] (.v true) (noErr m_all_or_none))) (G_integers_from : Kn P w K mg base CX0 3 "integers_from" ["text"] (spF K mg [(.v true)] (.v true) (noErr m_integers_from))) : Kn P w K mg base CX0 4 "listed" ["text", "between", "kind"] (spF K mg [(.v true), (.v true), (.tok (.ref f_integers_from))] (.v true) (noErr m_listed__integers_from)) := by
  have e : m_listed__integers_from = runF [(.v true), (.v true), (.tok (.ref f_integers_from))] (.v true) 1 b_listed__integers_from := runF_keep (by rfl) _ _ _
  rw [e]
  refine fn_ok0 (κl := [(.v true)]) a sc_listed__integers_from rfl ⟨True.intro, True.intro, True.intro, True.intro⟩ ⟨True.intro, True.intro⟩ rfl fun f cdv A outer s H vs E hv hr => ?_
  match vs, hv with
  | [v0, v1, v2], _ =>
  refine ⟨[(.v true), (.v true), .fix v2 (.tok (.ref f_integers_from)), (.v true)], (RetK.oth rfl (RetK.oth rfl (RetK.own rfl RetK.nil))), ?_⟩
  show FSs _ _ _ [(.v true), (.v true), .fix v2 (.tok (.ref f_integers_from)), (.v true)] _ _ _
  exact (fss_one (fs_ret (κn := _) (fe_fn G_all_or_none (hr.mono (by decide)) (Fits.t (nofix_ne True.intro) Fits.nil) (fa_cons (fe_lc (kd := (.v _)) (own := [("part", 3)]) (sl := [3]) rfl rfl sc_listed__integers_from.nd (fi_seq (fe_split (b := true) (kd := (.v true)) rfl (fe_var 0) (fe_var 1))) (blkOk_by (N := N_listed__integers_from) (sc := defScope s_listed__integers_from) (by decide +kernel)) (by repeat (first | exact True.intro | refine And.intro True.intro ?_)) (by decide) (fun _ _ _ _ _ => (fg_nameK (i := 3) sc_listed__integers_from.nd)) (fun _ _ _ _ _ => fts_nil) (fun _ _ _ _ _ => (fe_fnL (i := 2) G_integers_from hm_integers_from (by exact rfl) (hr.mono (by decide)) (Fits.t (nofix_ne True.intro) Fits.nil) (fa_cons (fe_var 3) fa_nil)))) fa_nil)) (RetK.oth rfl (RetK.oth rfl (RetK.own rfl RetK.nil)))))
abbrev s_items_from : Stmt := topS 43
abbrev N_items_from : List Str := ["text", "found", "item"]
theorem sc_items_from : FnScope N_items_from ["text"] (defScope s_items_from) := ⟨rfl, rfl, rfl, by decide +kernel, rfl, by decide +kernel, by decide +kernel⟩
noncomputable def b_items_from : FN.Env → Option Fl :=
  (sSeq (sSet 1 (fCall [.t (.v true), .t (.v true), .t (.tok .non)] (noErr m_listed__item_from) (aCons (fVar 0) (aCons (fC (.str (" " : Str))) (aCons fTok aNil)))))
  (sRet (fIf (fTst (f2 (.t (.v true)) (.t (.v true)) dIs (fVar 1) (fC .none))) (fC .none) (f1 (.t (.v true)) dTuple (fLc [2] (iSeq (fVar 1)) (gNm 2) tYesF (f2 (.t (.v true)) (.t (.v true)) dIx (fVar 2) (fC (.int 0))))))))
noncomputable def m_items_from : M D := runF [(.v true)] (.v true) 2 b_items_from
theorem ok_items_from (B : Bt mg) (a : At K mg "items_from" s_items_from ["text"]) {f_item_from : Addr} (hm_item_from : mg "item_from" = some (.ref f_item_from)) (G_listed__item_from : Kn P w K mg base CX0 3 "listed" ["text", "between", "kind"] (spF K mg [(.v true), (.v true), (.tok (.ref f_item_from))] (.v true) (noErr m_listed__item_from))) : Kn P w K mg base CX0 4 "items_from" ["text"] (spF K mg [(.v true)] (.v true) (noErr m_items_from)) := by
  refine fn_ok0 (κl := [(.v true), (.v true)]) a sc_items_from rfl ⟨True.intro, True.intro⟩ ⟨True.intro, True.intro, True.intro⟩ rfl fun f cdv A outer s H vs E hv hr => ?_
  match vs, hv with
  | [v0], _ =>
  refine ⟨[(.v true), (.v true), (.v true)], (RetK.oth rfl RetK.nil), ?_⟩
  show FSs _ _ _ [(.v true), (.v true), (.v true)] _ _ _
  exact (fss_cons (fs_setK (i := 1) (fe_sh (fe_fn G_listed__item_from (hr.mono (by decide)) (Fits.t (nofix_ne True.intro) (Fits.t (nofix_ne True.intro) (Fits.t (nofix_ne True.intro) Fits.nil))) (fa_cons (fe_var 0) (fa_cons fe_str (fa_cons (fe_tok hm_item_from) fa_nil))))) sc_items_from.nd)
    (fss_one (fs_ret (κn := _) (fe_if (ft_cmp op_isA s_is (fe_var 1) fe_non (nomark _)) fe_non (fe_tuple (by exact rfl) B.tuple (fe_lc (kd := (.v _)) (own := [("item", 2)]) (sl := [2]) rfl rfl sc_items_from.nd (fi_seq (fe_var 1)) (blkOk_by (N := N_items_from) (sc := defScope s_items_from) (by decide +kernel)) (by repeat (first | exact True.intro | refine And.intro True.intro ?_)) (by decide) (fun _ _ _ _ _ => (fg_nameK (i := 2) sc_items_from.nd)) (fun _ _ _ _ _ => fts_nil) (fun _ _ _ _ _ => (fe_ix (fe_var 2) fe_int))))) (RetK.oth rfl RetK.nil))))
abbrev s_listed__items_from : Stmt := topS 40
abbrev N_listed__items_from : List Str := ["text", "between", "kind", "part"]
theorem sc_listed__items_from : FnScope N_listed__items_from ["text", "between", "kind"] (defScope s_listed__items_from) := ⟨rfl, rfl, rfl, by decide +kernel, rfl, by decide +kernel, by decide +kernel⟩
noncomputable def b_listed__items_from : FN.Env → Option Fl :=
  (sRet (fCall [.t (.v true)] (noErr m_all_or_none) (aCons (fLc [3] (iSeq (fM1 (.t (.v true)) dSplit (fVar 0) (fVar 1))) (gNm 3) tYesF (fCallL 2 [.t (.v true)] (noErr m_items_from) (aCons (fVar 3) aNil))) aNil)))
noncomputable def m_listed__items_from : M D := runF [(.v true), (.v true), (.tok .non)] (.v true) 1 b_listed__items_from
theorem ok_listed__items_from (B : Bt mg) (a : At K mg "listed" s_listed__items_from ["text", "between", "kind"]) {f_items_from : Addr} (hm_items_from : mg "items_from" = some (.ref f_items_from)) (G_all_or_none : Kn P w K mg base CX0 1 "all_or_none" ["found"] (spF K mg [(.v true)] (.v true) (noErr m_all_or_none))) (G_items_from : Kn P w K mg base CX0 4 "items_from" ["text"] (spF K mg [(.v true)] (.v true) (noErr m_items_from))) : Kn P w K mg base CX0 5 "listed" ["text", "between", "kind"] (spF K mg [(.v true), (.v true), (.tok (.ref f_items_from))] (.v true) (noErr m_listed__items_from)) := by
  have e : m_listed__items_from = runF [(.v true), (.v true), (.tok (.ref f_items_from))] (.v true) 1 b_listed__items_from := runF_keep (by rfl) _ _ _
  rw [e]
  refine fn_ok0 (κl := [(.v true)]) a sc_listed__items_from rfl ⟨True.intro, True.intro, True.intro, True.intro⟩ ⟨True.intro, True.intro⟩ rfl fun f cdv A outer s H vs E hv hr => ?_
  match vs, hv with
  | [v0, v1, v2], _ =>
  refine ⟨[(.v true), (.v true), .fix v2 (.tok (.ref f_items_from)), (.v true)], (RetK.oth rfl (RetK.oth rfl (RetK.own rfl RetK.nil))), ?_⟩
  show FSs _ _ _ [(.v true), (.v true), .fix v2 (.tok (.ref f_items_from)), (.v true)] _ _ _
  exact (fss_one (fs_ret (κn := _) (fe_fn G_all_or_none (hr.mono (by decide)) (Fits.t (nofix_ne True.intro) Fits.nil) (fa_cons (fe_lc (kd := (.v _)) (own := [("part", 3)]) (sl := [3]) rfl rfl sc_listed__items_from.nd (fi_seq (fe_split (b := true) (kd := (.v true)) rfl (fe_var 0) (fe_var 1))) (blkOk_by (N := N_listed__items_from) (sc := defScope s_listed__items_from) (by decide +kernel)) (by repeat (first | exact True.intro | refine And.intro True.intro ?_)) (by decide) (fun _ _ _ _ _ => (fg_nameK (i := 3) sc_listed__items_from.nd)) (fun _ _ _ _ _ => fts_nil) (fun _ _ _ _ _ => (fe_fnL (i := 2) G_items_from hm_items_from (by exact rfl) (hr.mono (by decide)) (Fits.t (nofix_ne True.intro) Fits.nil) (fa_cons (fe_var 3) fa_nil)))) fa_nil)) (RetK.oth rfl (RetK.oth rfl (RetK.own rfl RetK.nil)))))
abbrev s_shown__show_numbers : Stmt := topS 44
abbrev N_shown__show_numbers : List Str := ["found", "text", "show"]
theorem sc_shown__show_numbers : FnScope N_shown__show_numbers ["found", "text", "show"] (defScope s_shown__show_numbers) := ⟨rfl, rfl, rfl, by decide +kernel, rfl, by decide +kernel, by decide +kernel⟩
noncomputable def b_shown__show_numbers : FN.Env → Option Fl :=
  (sRet (fIf (fTst (f2 (.t (.v true)) (.t (.v true)) dEq (fCallL 2 [.t (.v true)] (noErr m_show_numbers) (aCons (fVar 0) aNil)) (fVar 1))) (fVar 0) (fC .none)))
noncomputable def m_shown__show_numbers : M D := runF [(.v true), (.v true), (.tok .non)] (.v true) 0 b_shown__show_numbers
theorem ok_shown__show_numbers (B : Bt mg) (a : At K mg "shown" s_shown__show_numbers ["found", "text", "show"]) {f_show_numbers : Addr} (hm_show_numbers : mg "show_numbers" = some (.ref f_show_numbers)) (G_show_numbers : Kn P w K mg base CX0 2 "show_numbers" ["numbers"] (spF K mg [(.v true)] (.v true) (noErr m_show_numbers))) : Kn P w K mg base CX0 3 "shown" ["found", "text", "show"] (spF K mg [(.v true), (.v true), (.tok (.ref f_show_numbers))] (.v true) (noErr m_shown__show_numbers)) := by
  have e : m_shown__show_numbers = runF [(.v true), (.v true), (.tok (.ref f_show_numbers))] (.v true) 0 b_shown__show_numbers := runF_keep (by rfl) _ _ _
  rw [e]
  refine fn_ok0 (κl := []) a sc_shown__show_numbers rfl ⟨True.intro, True.intro, True.intro, True.intro⟩ True.intro rfl fun f cdv A outer s H vs E hv hr => ?_
  match vs, hv with
  | [v0, v1, v2], _ =>
  refine ⟨[(.v true), (.v true), .fix v2 (.tok (.ref f_show_numbers))], (RetK.oth rfl (RetK.oth rfl (RetK.own rfl RetK.nil))), ?_⟩
  show FSs _ _ _ [(.v true), (.v true), .fix v2 (.tok (.ref f_show_numbers))] _ _ _
  exact (fss_one (fs_ret (κn := _) (fe_if (ft_cmp (op_eqD hr.units) s_eq (fe_fnL (i := 2) G_show_numbers hm_show_numbers (by exact rfl) (hr.mono (by decide)) (Fits.t (nofix_ne True.intro) Fits.nil) (fa_cons (fe_var 0) fa_nil)) (fe_var 1) (nomark _)) (fe_var 0) fe_non) (RetK.oth rfl (RetK.oth rfl (RetK.own rfl RetK.nil)))))
abbrev s_shown__show_table : Stmt := topS 44
abbrev N_shown__show_table : List Str := ["found", "text", "show"]
theorem sc_shown__show_table : FnScope N_shown__show_table ["found", "text", "show"] (defScope s_shown__show_table) := ⟨rfl, rfl, rfl, by decide +kernel, rfl, by decide +kernel, by decide +kernel⟩
noncomputable def b_shown__show_table : FN.Env → Option Fl :=
  (sRet (fIf (fTst (f2 (.t (.v true)) (.t (.v true)) dEq (fCallL 2 [.t (.v true)] (noErr m_show_table) (aCons (fVar 0) aNil)) (fVar 1))) (fVar 0) (fC .none)))
noncomputable def m_shown__show_table : M D := runF [(.v true), (.v true), (.tok .non)] (.v true) 0 b_shown__show_table
theorem ok_shown__show_table (B : Bt mg) (a : At K mg "shown" s_shown__show_table ["found", "text", "show"]) {f_show_table : Addr} (hm_show_table : mg "show_table" = some (.ref f_show_table)) (G_show_table : Kn P w K mg base CX0 4 "show_table" ["table"] (spF K mg [(.v true)] (.v true) (noErr m_show_table))) : Kn P w K mg base CX0 5 "shown" ["found", "text", "show"] (spF K mg [(.v true), (.v true), (.tok (.ref f_show_table))] (.v true) (noErr m_shown__show_table)) := by
  have e : m_shown__show_table = runF [(.v true), (.v true), (.tok (.ref f_show_table))] (.v true) 0 b_shown__show_table := runF_keep (by rfl) _ _ _
  rw [e]
  refine fn_ok0 (κl := []) a sc_shown__show_table rfl ⟨True.intro, True.intro, True.intro, True.intro⟩ True.intro rfl fun f cdv A outer s H vs E hv hr => ?_
  match vs, hv with
  | [v0, v1, v2], _ =>
  refine ⟨[(.v true), (.v true), .fix v2 (.tok (.ref f_show_table))], (RetK.oth rfl (RetK.oth rfl (RetK.own rfl RetK.nil))), ?_⟩
  show FSs _ _ _ [(.v true), (.v true), .fix v2 (.tok (.ref f_show_table))] _ _ _
  exact (fss_one (fs_ret (κn := _) (fe_if (ft_cmp (op_eqD hr.units) s_eq (fe_fnL (i := 2) G_show_table hm_show_table (by exact rfl) (hr.mono (by decide)) (Fits.t (nofix_ne True.intro) Fits.nil) (fa_cons (fe_var 0) fa_nil)) (fe_var 1) (nomark _)) (fe_var 0) fe_non) (RetK.oth rfl (RetK.oth rfl (RetK.own rfl RetK.nil)))))
abbrev s_shown__show_frame : Stmt := topS 44
abbrev N_shown__show_frame : List Str := ["found", "text", "show"]
theorem sc_shown__show_frame : FnScope N_shown__show_frame ["found", "text", "show"] (defScope s_shown__show_frame) := ⟨rfl, rfl, rfl, by decide +kernel, rfl, by decide +kernel, by decide +kernel⟩
noncomputable def b_shown__show_frame : FN.Env → Option Fl :=
  (sRet (fIf (fTst (f2 (.t (.v true)) (.t (.v true)) dEq (fCallL 2 [.t (.v true)] (noErr m_show_frame) (aCons (fVar 0) aNil)) (fVar 1))) (fVar 0) (fC .none)))
noncomputable def m_shown__show_frame : M D := runF [(.v true), (.v true), (.tok .non)] (.v true) 0 b_shown__show_frame
theorem ok_shown__show_frame (B : Bt mg) (a : At K mg "shown" s_shown__show_frame ["found", "text", "show"]) {f_show_frame : Addr} (hm_show_frame : mg "show_frame" = some (.ref f_show_frame)) (G_show_frame : Kn P w K mg base CX0 4 "show_frame" ["frame"] (spF K mg [(.v true)] (.v true) (noErr m_show_frame))) : Kn P w K mg base CX0 5 "shown" ["found", "text", "show"] (spF K mg [(.v true), (.v true), (.tok (.ref f_show_frame))] (.v true) (noErr m_shown__show_frame)) := by
  have e : m_shown__show_frame = runF [(.v true), (.v true), (.tok (.ref f_show_frame))] (.v true) 0 b_shown__show_frame := runF_keep (by rfl) _ _ _
  rw [e]
  refine fn_ok0 (κl := []) a sc_shown__show_frame rfl ⟨True.intro, True.intro, True.intro, True.intro⟩ True.intro rfl fun f cdv A outer s H vs E hv hr => ?_
  match vs, hv with
  | [v0, v1, v2], _ =>
  refine ⟨[(.v true), (.v true), .fix v2 (.tok (.ref f_show_frame))], (RetK.oth rfl (RetK.oth rfl (RetK.own rfl RetK.nil))), ?_⟩
  show FSs _ _ _ [(.v true), (.v true), .fix v2 (.tok (.ref f_show_frame))] _ _ _
  exact (fss_one (fs_ret (κn := _) (fe_if (ft_cmp (op_eqD hr.units) s_eq (fe_fnL (i := 2) G_show_frame hm_show_frame (by exact rfl) (hr.mono (by decide)) (Fits.t (nofix_ne True.intro) Fits.nil) (fa_cons (fe_var 0) fa_nil)) (fe_var 1) (nomark _)) (fe_var 0) fe_non) (RetK.oth rfl (RetK.oth rfl (RetK.own rfl RetK.nil)))))
abbrev s_shown__show_costs : Stmt := topS 44
abbrev N_shown__show_costs : List Str := ["found", "text", "show"]
theorem sc_shown__show_costs : FnScope N_shown__show_costs ["found", "text", "show"] (defScope s_shown__show_costs) := ⟨rfl, rfl, rfl, by decide +kernel, rfl, by decide +kernel, by decide +kernel⟩
noncomputable def b_shown__show_costs : FN.Env → Option Fl :=
  (sRet (fIf (fTst (f2 (.t (.v true)) (.t (.v true)) dEq (fCallL 2 [.t (.v true)] (noErr m_show_costs) (aCons (fVar 0) aNil)) (fVar 1))) (fVar 0) (fC .none)))
noncomputable def m_shown__show_costs : M D := runF [(.v true), (.v true), (.tok .non)] (.v true) 0 b_shown__show_costs
theorem ok_shown__show_costs (B : Bt mg) (a : At K mg "shown" s_shown__show_costs ["found", "text", "show"]) {f_show_costs : Addr} (hm_show_costs : mg "show_costs" = some (.ref f_show_costs)) (G_show_costs : Kn P w K mg base CX0 4 "show_costs" ["costs"] (spF K mg [(.v true)] (.v true) (noErr m_show_costs))) : Kn P w K mg base CX0 5 "shown" ["found", "text", "show"] (spF K mg [(.v true), (.v true), (.tok (.ref f_show_costs))] (.v true) (noErr m_shown__show_costs)) := by
  have e : m_shown__show_costs = runF [(.v true), (.v true), (.tok (.ref f_show_costs))] (.v true) 0 b_shown__show_costs := runF_keep (by rfl) _ _ _
  rw [e]
  refine fn_ok0 (κl := []) a sc_shown__show_costs rfl ⟨True.intro, True.intro, True.intro, True.intro⟩ True.intro rfl fun f cdv A outer s H vs E hv hr => ?_
  match vs, hv with
  | [v0, v1, v2], _ =>
  refine ⟨[(.v true), (.v true), .fix v2 (.tok (.ref f_show_costs))], (RetK.oth rfl (RetK.oth rfl (RetK.own rfl RetK.nil))), ?_⟩
  show FSs _ _ _ [(.v true), (.v true), .fix v2 (.tok (.ref f_show_costs))] _ _ _
  exact (fss_one (fs_ret (κn := _) (fe_if (ft_cmp (op_eqD hr.units) s_eq (fe_fnL (i := 2) G_show_costs hm_show_costs (by exact rfl) (hr.mono (by decide)) (Fits.t (nofix_ne True.intro) Fits.nil) (fa_cons (fe_var 0) fa_nil)) (fe_var 1) (nomark _)) (fe_var 0) fe_non) (RetK.oth rfl (RetK.oth rfl (RetK.own rfl RetK.nil)))))
abbrev s_numbers_from : Stmt := topS 45
abbrev N_numbers_from : List Str := ["text", "found"]
theorem sc_numbers_from : FnScope N_numbers_from ["text"] (defScope s_numbers_from) := ⟨rfl, rfl, rfl, by decide +kernel, rfl, by decide +kernel, by decide +kernel⟩
noncomputable def b_numbers_from : FN.Env → Option Fl :=
  (sSeq (sSet 1 (fIf (fTst (f2 (.t (.v true)) (.t (.v true)) dEq (fVar 0) (fC (.str ("-" : Str))))) (fTup aNil) (fCall [.t (.v true)] (noErr m_integers_from) (aCons (fVar 0) aNil))))
  (sRet (fIf (fTru (.t (.v true)) (fCall [.t (.v true), .t (.v true), .t (.v true)] (noErr m_is_tuple) (aCons (fVar 1) (aCons (fC (.int 0)) (aCons (fC (.int 20)) aNil))))) (fCall [.t (.v true), .t (.v true), .t (.tok .non)] (noErr m_shown__show_numbers) (aCons (fVar 1) (aCons (fVar 0) (aCons fTok aNil)))) (fC .none))))
noncomputable def m_numbers_from : M D := runF [(.v true)] (.v true) 1 b_numbers_from
theorem ok_numbers_from (B : Bt mg) (a : At K mg "numbers_from" s_numbers_from ["text"]) (CN : Cs mg) {f_show_numbers : Addr} (hm_show_numbers : mg "show_numbers" = some (.ref f_show_numbers)) (G_integers_from : Kn P w K mg base CX0 3 "integers_from" ["text"] (spF K mg [(.v true)] (.v true) (noErr m_integers_from))) (G_is_tuple : Kn P w K mg base CX0 1 "is_tuple" ["value", "low", "high"] (spF K mg [(.v true), (.v true), (.v true)] (.v true) (noErr m_is_tuple))) (G_shown__show_numbers : Kn P w K mg base CX0 3 "shown" ["found", "text", "show"] (spF K mg [(.v true), (.v true), (.tok (.ref f_show_numbers))] (.v true) (noErr m_shown__show_numbers))) : Kn P w K mg base CX0 4 "numbers_from" ["text"] (spF K mg [(.v true)] (.v true) (noErr m_numbers_from)) := by
  refine fn_ok0 (κl := [(.v true)]) a sc_numbers_from rfl ⟨True.intro, True.intro⟩ ⟨True.intro, True.intro⟩ rfl fun f cdv A outer s H vs E hv hr => ?_
  match vs, hv with
  | [v0], _ =>
  refine ⟨[(.v true), (.v true)], (RetK.oth rfl RetK.nil), ?_⟩
  show FSs _ _ _ [(.v true), (.v true)] _ _ _
  exact (fss_cons (fs_setK (i := 1) (fe_if (ft_cmp (op_eqD hr.units) s_eq (fe_var 0) (fe_cst CN.NONE_finding (fun _ => .str _)) (nomark _)) (fe_tup (k := true) fa_nil) (fe_fn G_integers_from (hr.mono (by decide)) (Fits.t (nofix_ne True.intro) Fits.nil) (fa_cons (fe_var 0) fa_nil))) sc_numbers_from.nd)
    (fss_one (fs_ret (κn := _) (fe_if (ft_tru (fe_fn G_is_tuple (hr.mono (by decide)) (Fits.t (nofix_ne True.intro) (Fits.t (nofix_ne True.intro) (Fits.t (nofix_ne True.intro) Fits.nil))) (fa_cons (fe_var 1) (fa_cons fe_int (fa_cons (fe_cst CN.MOST_NUMBERS (fun _ => .int _)) fa_nil))))) (fe_sh (fe_fn G_shown__show_numbers (hr.mono (by decide)) (Fits.t (nofix_ne True.intro) (Fits.t (nofix_ne True.intro) (Fits.t (nofix_ne True.intro) Fits.nil))) (fa_cons (fe_var 1) (fa_cons (fe_var 0) (fa_cons (fe_tok hm_show_numbers) fa_nil))))) fe_non) (RetK.oth rfl RetK.nil))))
abbrev s_is_a_plain_table : Stmt := topS 46
abbrev N_is_a_plain_table : List Str := ["value", "row"]
theorem sc_is_a_plain_table : FnScope N_is_a_plain_table ["value"] (defScope s_is_a_plain_table) := ⟨rfl, rfl, rfl, by decide +kernel, rfl, by decide +kernel, by decide +kernel⟩
noncomputable def b_is_a_plain_table : FN.Env → Option Fl :=
  (sSeq (sIf (tOrF (tNotF (fTru (.t (.v true)) (fCall [.t (.v true), .t (.v true), .t (.v true)] (noErr m_is_tuple) (aCons (fVar 0) (aCons (fC (.int 1)) (aCons (fC (.int 7)) aNil)))))) (tNotF (fTru (.t (.v true)) (f1 (.t (.v true)) dAll (fLc [1] (iSeq (fVar 0)) (gNm 1) tYesF (fCall [.t (.v true), .t (.v true), .t (.v true)] (noErr m_are_integers) (aCons (fVar 1) (aCons (fC (.int 0)) (aCons (fC .none) aNil)))))))))
  (sRet (fC (.bool false)))
  sNx)
  (sRet (f1 (.t (.v true)) dAll (fLc [1] (iSeq (fVar 0)) (gNm 1) tYesF (fAnd (fCh (.t (.v true)) (.t (.v true)) (.t (.v true)) dLe dLe (fC (.int 1)) (f1 (.t (.v true)) dLen (fVar 1)) (fC (.int 8))) (f2 (.t (.v true)) (.t (.v true)) dEq (f1 (.t (.v true)) dLen (fVar 1)) (f1 (.t (.v true)) dLen (f2 (.t (.v true)) (.t (.v true)) dIx (fVar 0) (fC (.int 0))))))))))
noncomputable def m_is_a_plain_table : M D := runF [(.v true)] (.v true) 1 b_is_a_plain_table
theorem ok_is_a_plain_table (B : Bt mg) (a : At K mg "is_a_plain_table" s_is_a_plain_table ["value"]) (CN : Cs mg) (G_are_integers : Kn P w K mg base CX0 3 "are_integers" ["value", "low", "high"] (spF K mg [(.v true), (.v true), (.v true)] (.v true) (noErr m_are_integers))) (G_is_tuple : Kn P w K mg base CX0 1 "is_tuple" ["value", "low", "high"] (spF K mg [(.v true), (.v true), (.v true)] (.v true) (noErr m_is_tuple))) : Kn P w K mg base CX0 4 "is_a_plain_table" ["value"] (spF K mg [(.v true)] (.v true) (noErr m_is_a_plain_table)) := by
  refine fn_ok0 (κl := [(.v true)]) a sc_is_a_plain_table rfl ⟨True.intro, True.intro⟩ ⟨True.intro, True.intro⟩ rfl fun f cdv A outer s H vs E hv hr => ?_
  match vs, hv with
  | [v0], _ =>
  refine ⟨[(.v true), (.v true)], (RetK.oth rfl RetK.nil), ?_⟩
  show FSs _ _ _ [(.v true), (.v true)] _ _ _
  exact (fss_cons (fs_if (ft_w (fw_or (ft_not (ft_tru (fe_fn G_is_tuple (hr.mono (by decide)) (Fits.t (nofix_ne True.intro) (Fits.t (nofix_ne True.intro) (Fits.t (nofix_ne True.intro) Fits.nil))) (fa_cons (fe_var 0) (fa_cons fe_int (fa_cons (fe_cst CN.MOST_ROWS (fun _ => .int _)) fa_nil)))))) (fw_or1 (ft_not (ft_tru (fe_all rfl (by exact rfl) B.all (fe_lc (kd := (.v _)) (own := [("row", 1)]) (sl := [1]) rfl rfl sc_is_a_plain_table.nd (fi_seq (fe_var 0)) (blkOk_by (N := N_is_a_plain_table) (sc := defScope s_is_a_plain_table) (by decide +kernel)) (by repeat (first | exact True.intro | refine And.intro True.intro ?_)) (by decide) (fun _ _ _ _ _ => (fg_nameK (i := 1) sc_is_a_plain_table.nd)) (fun _ _ _ _ _ => fts_nil) (fun _ _ _ _ _ => (fe_fn G_are_integers (hr.mono (by decide)) (Fits.t (nofix_ne True.intro) (Fits.t (nofix_ne True.intro) (Fits.t (nofix_ne True.intro) Fits.nil))) (fa_cons (fe_var 1) (fa_cons fe_int (fa_cons fe_non fa_nil))))))))))))
    (fss_one (fs_ret (κn := _) fe_bl (RetK.oth rfl RetK.nil)))
    fss_nil)
    (fss_one (fs_ret (κn := _) (fe_all rfl (by exact rfl) B.all (fe_lc (kd := (.v _)) (own := [("row", 1)]) (sl := [1]) rfl rfl sc_is_a_plain_table.nd (fi_seq (fe_var 0)) (blkOk_by (N := N_is_a_plain_table) (sc := defScope s_is_a_plain_table) (by decide +kernel)) (by repeat (first | exact True.intro | refine And.intro True.intro ?_)) (by decide) (fun _ _ _ _ _ => (fg_nameK (i := 1) sc_is_a_plain_table.nd)) (fun _ _ _ _ _ => fts_nil) (fun _ _ _ _ _ => (fe_and (fe_ch op_le s_le op_le s_le fe_int (fe_len (by exact rfl) B.len (fe_var 1)) (fe_cst CN.MOST_COLUMNS (fun _ => .int _))) (fe_one (fe_cmp (op_eqD hr.units) s_eq (fe_len (by exact rfl) B.len (fe_var 1)) (fe_len (by exact rfl) B.len (fe_ix (fe_var 0) fe_int)) (nomark _))))))) (RetK.oth rfl RetK.nil))))
abbrev s_table_from : Stmt := topS 47
abbrev N_table_from : List Str := ["text", "found"]
theorem sc_table_from : FnScope N_table_from ["text"] (defScope s_table_from) := ⟨rfl, rfl, rfl, by decide +kernel, rfl, by decide +kernel, by decide +kernel⟩
noncomputable def b_table_from : FN.Env → Option Fl :=
  (sSeq (sSet 1 (fCall [.t (.v true), .t (.v true), .t (.tok .non)] (noErr m_listed__integers_from) (aCons (fVar 0) (aCons (fC (.str (" ; " : Str))) (aCons fTok aNil)))))
  (sRet (fIf (fTru (.t (.v true)) (fCall [.t (.v true)] (noErr m_is_a_plain_table) (aCons (fVar 1) aNil))) (fCall [.t (.v true), .t (.v true), .t (.tok .non)] (noErr m_shown__show_table) (aCons (fVar 1) (aCons (fVar 0) (aCons fTok aNil)))) (fC .none))))
noncomputable def m_table_from : M D := runF [(.v true)] (.v true) 1 b_table_from
theorem ok_table_from (B : Bt mg) (a : At K mg "table_from" s_table_from ["text"]) {f_integers_from : Addr} (hm_integers_from : mg "integers_from" = some (.ref f_integers_from)) {f_show_table : Addr} (hm_show_table : mg "show_table" = some (.ref f_show_table)) (G_is_a_plain_table : Kn P w K mg base CX0 4 "is_a_plain_table" ["value"] (spF K mg [(.v true)] (.v true) (noErr m_is_a_plain_table))) (G_listed__integers_from : Kn P w K mg base CX0 4 "listed" ["text", "between", "kind"] (spF K mg [(.v true), (.v true), (.tok (.ref f_integers_from))] (.v true) (noErr m_listed__integers_from))) (G_shown__show_table : Kn P w K mg base CX0 5 "shown" ["found", "text", "show"] (spF K mg [(.v true), (.v true), (.tok (.ref f_show_table))] (.v true) (noErr m_shown__show_table))) : Kn P w K mg base CX0 6 "table_from" ["text"] (spF K mg [(.v true)] (.v true) (noErr m_table_from)) := by
  refine fn_ok0 (κl := [(.v true)]) a sc_table_from rfl ⟨True.intro, True.intro⟩ ⟨True.intro, True.intro⟩ rfl fun f cdv A outer s H vs E hv hr => ?_
  match vs, hv with
  | [v0], _ =>
  refine ⟨[(.v true), (.v true)], (RetK.oth rfl RetK.nil), ?_⟩
  show FSs _ _ _ [(.v true), (.v true)] _ _ _
  exact (fss_cons (fs_setK (i := 1) (fe_sh (fe_fn G_listed__integers_from (hr.mono (by decide)) (Fits.t (nofix_ne True.intro) (Fits.t (nofix_ne True.intro) (Fits.t (nofix_ne True.intro) Fits.nil))) (fa_cons (fe_var 0) (fa_cons fe_str (fa_cons (fe_tok hm_integers_from) fa_nil))))) sc_table_from.nd)
    (fss_one (fs_ret (κn := _) (fe_if (ft_tru (fe_fn G_is_a_plain_table (hr.mono (by decide)) (Fits.t (nofix_ne True.intro) Fits.nil) (fa_cons (fe_var 1) fa_nil))) (fe_sh (fe_fn G_shown__show_table (hr.mono (by decide)) (Fits.t (nofix_ne True.intro) (Fits.t (nofix_ne True.intro) (Fits.t (nofix_ne True.intro) Fits.nil))) (fa_cons (fe_var 1) (fa_cons (fe_var 0) (fa_cons (fe_tok hm_show_table) fa_nil))))) fe_non) (RetK.oth rfl RetK.nil))))
abbrev s_board_from : Stmt := topS 48
abbrev N_board_from : List Str := ["text", "found"]
theorem sc_board_from : FnScope N_board_from ["text"] (defScope s_board_from) := ⟨rfl, rfl, rfl, by decide +kernel, rfl, by decide +kernel, by decide +kernel⟩
noncomputable def b_board_from : FN.Env → Option Fl :=
  (sSeq (sSet 1 (fCall [.t (.v true), .t (.v true), .t (.tok .non)] (noErr m_listed__integers_from) (aCons (fVar 0) (aCons (fC (.str (" ; " : Str))) (aCons fTok aNil)))))
  (sRet (fIf (fTru (.t (.v true)) (fCall [.t (.v true)] (noErr m_is_a_board) (aCons (fVar 1) aNil))) (fCall [.t (.v true), .t (.v true), .t (.tok .non)] (noErr m_shown__show_table) (aCons (fVar 1) (aCons (fVar 0) (aCons fTok aNil)))) (fC .none))))
noncomputable def m_board_from : M D := runF [(.v true)] (.v true) 1 b_board_from
theorem ok_board_from (B : Bt mg) (a : At K mg "board_from" s_board_from ["text"]) {f_integers_from : Addr} (hm_integers_from : mg "integers_from" = some (.ref f_integers_from)) {f_show_table : Addr} (hm_show_table : mg "show_table" = some (.ref f_show_table)) (G_is_a_board : Kn P w K mg base CX0 4 "is_a_board" ["value"] (spF K mg [(.v true)] (.v true) (noErr m_is_a_board))) (G_listed__integers_from : Kn P w K mg base CX0 4 "listed" ["text", "between", "kind"] (spF K mg [(.v true), (.v true), (.tok (.ref f_integers_from))] (.v true) (noErr m_listed__integers_from))) (G_shown__show_table : Kn P w K mg base CX0 5 "shown" ["found", "text", "show"] (spF K mg [(.v true), (.v true), (.tok (.ref f_show_table))] (.v true) (noErr m_shown__show_table))) : Kn P w K mg base CX0 6 "board_from" ["text"] (spF K mg [(.v true)] (.v true) (noErr m_board_from)) := by
  refine fn_ok0 (κl := [(.v true)]) a sc_board_from rfl ⟨True.intro, True.intro⟩ ⟨True.intro, True.intro⟩ rfl fun f cdv A outer s H vs E hv hr => ?_
  match vs, hv with
  | [v0], _ =>
  refine ⟨[(.v true), (.v true)], (RetK.oth rfl RetK.nil), ?_⟩
  show FSs _ _ _ [(.v true), (.v true)] _ _ _
  exact (fss_cons (fs_setK (i := 1) (fe_sh (fe_fn G_listed__integers_from (hr.mono (by decide)) (Fits.t (nofix_ne True.intro) (Fits.t (nofix_ne True.intro) (Fits.t (nofix_ne True.intro) Fits.nil))) (fa_cons (fe_var 0) (fa_cons fe_str (fa_cons (fe_tok hm_integers_from) fa_nil))))) sc_board_from.nd)
    (fss_one (fs_ret (κn := _) (fe_if (ft_tru (fe_fn G_is_a_board (hr.mono (by decide)) (Fits.t (nofix_ne True.intro) Fits.nil) (fa_cons (fe_var 1) fa_nil))) (fe_sh (fe_fn G_shown__show_table (hr.mono (by decide)) (Fits.t (nofix_ne True.intro) (Fits.t (nofix_ne True.intro) (Fits.t (nofix_ne True.intro) Fits.nil))) (fa_cons (fe_var 1) (fa_cons (fe_var 0) (fa_cons (fe_tok hm_show_table) fa_nil))))) fe_non) (RetK.oth rfl RetK.nil))))
abbrev s_frame_from : Stmt := topS 49
abbrev N_frame_from : List Str := ["text", "parts", "found"]
theorem sc_frame_from : FnScope N_frame_from ["text"] (defScope s_frame_from) := ⟨rfl, rfl, rfl, by decide +kernel, rfl, by decide +kernel, by decide +kernel⟩
noncomputable def b_frame_from : FN.Env → Option Fl :=
  (sSeq (sSet 1 (fM1 (.t (.v true)) dSplit (fVar 0) (fC (.str (" | " : Str)))))
  (sSeq (sIf (fTst (f2 (.t (.v true)) (.t (.v true)) dNe (f1 (.t (.v true)) dLen (fVar 1)) (fC (.int 3))))
  (sRet (fC .none))
  sNx)
  (sSeq (sSet 2 (fCall [.t (.v true)] (noErr m_all_or_none) (aCons (fLst (aCons (fCall [.t (.v true)] (noErr m_integers_from) (aCons (f2 (.t (.v true)) (.t (.v true)) dIx (fVar 1) (fC (.int 0))) aNil)) (aCons (fCall [.t (.v true)] (noErr m_integers_from) (aCons (f2 (.t (.v true)) (.t (.v true)) dIx (fVar 1) (fC (.int 1))) aNil)) (aCons (fCall [.t (.v true), .t (.v true), .t (.tok .non)] (noErr m_listed__items_from) (aCons (f2 (.t (.v true)) (.t (.v true)) dIx (fVar 1) (fC (.int 2))) (aCons (fC (.str (" ; " : Str))) (aCons fTok aNil)))) aNil)))) aNil)))
  (sRet (fIf (fTru (.t (.v true)) (fCall [.t (.v true)] (noErr m_is_a_frame) (aCons (fVar 2) aNil))) (fCall [.t (.v true), .t (.v true), .t (.tok .non)] (noErr m_shown__show_frame) (aCons (fVar 2) (aCons (fVar 0) (aCons fTok aNil)))) (fC .none))))))
noncomputable def m_frame_from : M D := runF [(.v true)] (.v true) 2 b_frame_from
theorem ok_frame_from (B : Bt mg) (a : At K mg "frame_from" s_frame_from ["text"]) {f_items_from : Addr} (hm_items_from : mg "items_from" = some (.ref f_items_from)) {f_show_frame : Addr} (hm_show_frame : mg "show_frame" = some (.ref f_show_frame)) (G_all_or_none : Kn P w K mg base CX0 1 "all_or_none" ["found"] (spF K mg [(.v true)] (.v true) (noErr m_all_or_none))) (G_integers_from : Kn P w K mg base CX0 3 "integers_from" ["text"] (spF K mg [(.v true)] (.v true) (noErr m_integers_from))) (G_is_a_frame : Kn P w K mg base CX0 5 "is_a_frame" ["value"] (spF K mg [(.v true)] (.v true) (noErr m_is_a_frame))) (G_listed__items_from : Kn P w K mg base CX0 5 "listed" ["text", "between", "kind"] (spF K mg [(.v true), (.v true), (.tok (.ref f_items_from))] (.v true) (noErr m_listed__items_from))) (G_shown__show_frame : Kn P w K mg base CX0 5 "shown" ["found", "text", "show"] (spF K mg [(.v true), (.v true), (.tok (.ref f_show_frame))] (.v true) (noErr m_shown__show_frame))) : Kn P w K mg base CX0 6 "frame_from" ["text"] (spF K mg [(.v true)] (.v true) (noErr m_frame_from)) := by
  refine fn_ok0 (κl := [(.v true), (.v true)]) a sc_frame_from rfl ⟨True.intro, True.intro⟩ ⟨True.intro, True.intro, True.intro⟩ rfl fun f cdv A outer s H vs E hv hr => ?_
  match vs, hv with
  | [v0], _ =>
  refine ⟨[(.v true), (.v true), (.v true)], (RetK.oth rfl RetK.nil), ?_⟩
  show FSs _ _ _ [(.v true), (.v true), (.v true)] _ _ _
  exact (fss_cons (fs_setK (i := 1) (fe_split (b := true) (kd := (.v true)) rfl (fe_var 0) fe_str) sc_frame_from.nd)
    (fss_cons (fs_if (ft_cmp (op_neD hr.units) s_ne (fe_len (by exact rfl) B.len (fe_var 1)) fe_int (nomark _))
    (fss_one (fs_ret (κn := _) fe_non (RetK.oth rfl RetK.nil)))
    fss_nil)
    (fss_cons (fs_setK (i := 2) (fe_fn G_all_or_none (hr.mono (by decide)) (Fits.t (nofix_ne True.intro) Fits.nil) (fa_cons (fe_lst (k := true) (kd := (.v _)) (fa_cons (fe_fn G_integers_from (hr.mono (by decide)) (Fits.t (nofix_ne True.intro) Fits.nil) (fa_cons (fe_ix (fe_var 1) fe_int) fa_nil)) (fa_cons (fe_fn G_integers_from (hr.mono (by decide)) (Fits.t (nofix_ne True.intro) Fits.nil) (fa_cons (fe_ix (fe_var 1) fe_int) fa_nil)) (fa_cons (fe_sh (fe_fn G_listed__items_from (hr.mono (by decide)) (Fits.t (nofix_ne True.intro) (Fits.t (nofix_ne True.intro) (Fits.t (nofix_ne True.intro) Fits.nil))) (fa_cons (fe_ix (fe_var 1) fe_int) (fa_cons fe_str (fa_cons (fe_tok hm_items_from) fa_nil))))) fa_nil)))) fa_nil)) sc_frame_from.nd)
    (fss_one (fs_ret (κn := _) (fe_if (ft_tru (fe_fn G_is_a_frame (hr.mono (by decide)) (Fits.t (nofix_ne True.intro) Fits.nil) (fa_cons (fe_var 2) fa_nil))) (fe_sh (fe_fn G_shown__show_frame (hr.mono (by decide)) (Fits.t (nofix_ne True.intro) (Fits.t (nofix_ne True.intro) (Fits.t (nofix_ne True.intro) Fits.nil))) (fa_cons (fe_var 2) (fa_cons (fe_var 0) (fa_cons (fe_tok hm_show_frame) fa_nil))))) fe_non) (RetK.oth rfl RetK.nil))))))
abbrev s_costs_from : Stmt := topS 50
abbrev N_costs_from : List Str := ["text", "found"]
theorem sc_costs_from : FnScope N_costs_from ["text"] (defScope s_costs_from) := ⟨rfl, rfl, rfl, by decide +kernel, rfl, by decide +kernel, by decide +kernel⟩
noncomputable def b_costs_from : FN.Env → Option Fl :=
  (sSeq (sSet 1 (fCall [.t (.v true), .t (.v true), .t (.tok .non)] (noErr m_listed__items_from) (aCons (fVar 0) (aCons (fC (.str (" ; " : Str))) (aCons fTok aNil)))))
  (sRet (fIf (fTru (.t (.v true)) (fCall [.t (.v true)] (noErr m_is_a_costs) (aCons (fVar 1) aNil))) (fCall [.t (.v true), .t (.v true), .t (.tok .non)] (noErr m_shown__show_costs) (aCons (fVar 1) (aCons (fVar 0) (aCons fTok aNil)))) (fC .none))))
noncomputable def m_costs_from : M D := runF [(.v true)] (.v true) 1 b_costs_from
theorem ok_costs_from (B : Bt mg) (a : At K mg "costs_from" s_costs_from ["text"]) {f_items_from : Addr} (hm_items_from : mg "items_from" = some (.ref f_items_from)) {f_show_costs : Addr} (hm_show_costs : mg "show_costs" = some (.ref f_show_costs)) (G_is_a_costs : Kn P w K mg base CX0 3 "is_a_costs" ["value"] (spF K mg [(.v true)] (.v true) (noErr m_is_a_costs))) (G_listed__items_from : Kn P w K mg base CX0 5 "listed" ["text", "between", "kind"] (spF K mg [(.v true), (.v true), (.tok (.ref f_items_from))] (.v true) (noErr m_listed__items_from))) (G_shown__show_costs : Kn P w K mg base CX0 5 "shown" ["found", "text", "show"] (spF K mg [(.v true), (.v true), (.tok (.ref f_show_costs))] (.v true) (noErr m_shown__show_costs))) : Kn P w K mg base CX0 6 "costs_from" ["text"] (spF K mg [(.v true)] (.v true) (noErr m_costs_from)) := by
  refine fn_ok0 (κl := [(.v true)]) a sc_costs_from rfl ⟨True.intro, True.intro⟩ ⟨True.intro, True.intro⟩ rfl fun f cdv A outer s H vs E hv hr => ?_
  match vs, hv with
  | [v0], _ =>
  refine ⟨[(.v true), (.v true)], (RetK.oth rfl RetK.nil), ?_⟩
  show FSs _ _ _ [(.v true), (.v true)] _ _ _
  exact (fss_cons (fs_setK (i := 1) (fe_sh (fe_fn G_listed__items_from (hr.mono (by decide)) (Fits.t (nofix_ne True.intro) (Fits.t (nofix_ne True.intro) (Fits.t (nofix_ne True.intro) Fits.nil))) (fa_cons (fe_var 0) (fa_cons fe_str (fa_cons (fe_tok hm_items_from) fa_nil))))) sc_costs_from.nd)
    (fss_one (fs_ret (κn := _) (fe_if (ft_tru (fe_fn G_is_a_costs (hr.mono (by decide)) (Fits.t (nofix_ne True.intro) Fits.nil) (fa_cons (fe_var 1) fa_nil))) (fe_sh (fe_fn G_shown__show_costs (hr.mono (by decide)) (Fits.t (nofix_ne True.intro) (Fits.t (nofix_ne True.intro) (Fits.t (nofix_ne True.intro) Fits.nil))) (fa_cons (fe_var 1) (fa_cons (fe_var 0) (fa_cons (fe_tok hm_show_costs) fa_nil))))) fe_non) (RetK.oth rfl RetK.nil))))
abbrev s_read_by__numbers_from : Stmt := topS 52
abbrev N_read_by__numbers_from : List Str := ["kind", "text", "found"]
theorem sc_read_by__numbers_from : FnScope N_read_by__numbers_from ["kind", "text"] (defScope s_read_by__numbers_from) := ⟨rfl, rfl, rfl, by decide +kernel, rfl, by decide +kernel, by decide +kernel⟩
noncomputable def b_read_by__numbers_from : FN.Env → Option Fl :=
  (sSeq (sSet 2 (fIf (fTru (.t (.v true)) (f1b (.t (.v true)) isStr (fVar 1))) (fCallL 0 [.t (.v true)] (noErr m_numbers_from) (aCons (fVar 1) aNil)) (fC .none)))
  (sSeq (sIf (fTst (f2 (.t (.v true)) (.t (.v true)) dIs (fVar 2) (fC .none)))
  (sRaise "Unreadable" (fVar 1))
  sNx)
  (sRet (fVar 2))))
noncomputable def m_read_by__numbers_from : M D := runF [(.tok .non), (.v true)] (.v true) 1 b_read_by__numbers_from
theorem ok_read_by__numbers_from (B : Bt mg) (a : At K mg "read_by" s_read_by__numbers_from ["kind", "text"]) (ER : Er P K mg DE fI C_StandError C_Unreadable) {f_numbers_from : Addr} (hm_numbers_from : mg "numbers_from" = some (.ref f_numbers_from)) (G_numbers_from : Kn P w K mg base CX0 4 "numbers_from" ["text"] (spF K mg [(.v true)] (.v true) (noErr m_numbers_from))) : Kn P w K mg base (L2.CX P w) 5 "read_by" ["kind", "text"] (spF K mg [(.tok (.ref f_numbers_from)), (.v true)] (.v true) m_read_by__numbers_from) := by
  have e : m_read_by__numbers_from = runF [(.tok (.ref f_numbers_from)), (.v true)] (.v true) 1 b_read_by__numbers_from := runF_keep (by rfl) _ _ _
  rw [e]
  refine fn_okX (κl := [(.v true)]) a sc_read_by__numbers_from rfl ⟨True.intro, True.intro, True.intro⟩ ⟨True.intro, True.intro⟩ rfl fun f cdv A outer s H vs E hv hr => ?_
  match vs, hv with
  | [v0, v1], _ =>
  refine ⟨[.fix v0 (.tok (.ref f_numbers_from)), (.v true), (.v true)], (RetK.own rfl (RetK.oth rfl RetK.nil)), ?_⟩
  show FSs _ _ _ [.fix v0 (.tok (.ref f_numbers_from)), (.v true), (.v true)] _ _ _
  exact (fss_cons (fs_setK (i := 2) (fe_if (ft_tru (fe_isi isi_str (by exact rfl) B.isinstance (fe_var 1) (cls1 (by exact rfl) B.str (by decide +kernel)))) (fe_fnL (i := 0) G_numbers_from hm_numbers_from (by exact rfl) (hr.mono (by decide)) (Fits.t (nofix_ne True.intro) Fits.nil) (fa_cons (fe_var 1) fa_nil)) fe_non) sc_read_by__numbers_from.nd)
    (fss_cons (fs_if (ft_cmp op_isA s_is (fe_var 2) fe_non (nomark _))
    (fss_one (fs_raise (b := true) ER.T ER.c_Unreadable ER.m_Unreadable rfl (hr.mono (by decide)) (takes_of rfl rfl rfl rfl) (fe_var 1)))
    fss_nil)
    (fss_one (fs_ret (κn := _) (fe_var 2) (RetK.own rfl (RetK.oth rfl RetK.nil))))))
abbrev s_read_by__table_from : Stmt := topS 52
abbrev N_read_by__table_from : List Str := ["kind", "text", "found"]
theorem sc_read_by__table_from : FnScope N_read_by__table_from ["kind", "text"] (defScope s_read_by__table_from) := ⟨rfl, rfl, rfl, by decide +kernel, rfl, by decide +kernel, by decide +kernel⟩
noncomputable def b_read_by__table_from : FN.Env → Option Fl :=
  (sSeq (sSet 2 (fIf (fTru (.t (.v true)) (f1b (.t (.v true)) isStr (fVar 1))) (fCallL 0 [.t (.v true)] (noErr m_table_from) (aCons (fVar 1) aNil)) (fC .none)))
  (sSeq (sIf (fTst (f2 (.t (.v true)) (.t (.v true)) dIs (fVar 2) (fC .none)))
  (sRaise "Unreadable" (fVar 1))
  sNx)
  (sRet (fVar 2))))
noncomputable def m_read_by__table_from : M D := runF [(.tok .non), (.v true)] (.v true) 1 b_read_by__table_from
theorem ok_read_by__table_from (B : Bt mg) (a : At K mg "read_by" s_read_by__table_from ["kind", "text"]) (ER : Er P K mg DE fI C_StandError C_Unreadable) {f_table_from : Addr} (hm_table_from : mg "table_from" = some (.ref f_table_from)) (G_table_from : Kn P w K mg base CX0 6 "table_from" ["text"] (spF K mg [(.v true)] (.v true) (noErr m_table_from))) : Kn P w K mg base (L2.CX P w) 7 "read_by" ["kind", "text"] (spF K mg [(.tok (.ref f_table_from)), (.v true)] (.v true) m_read_by__table_from) := by
  have e : m_read_by__table_from = runF [(.tok (.ref f_table_from)), (.v true)] (.v true) 1 b_read_by__table_from := runF_keep (by rfl) _ _ _
  rw [e]
  refine fn_okX (κl := [(.v true)]) a sc_read_by__table_from rfl ⟨True.intro, True.intro, True.intro⟩ ⟨True.intro, True.intro⟩ rfl fun f cdv A outer s H vs E hv hr => ?_
  match vs, hv with
  | [v0, v1], _ =>
  refine ⟨[.fix v0 (.tok (.ref f_table_from)), (.v true), (.v true)], (RetK.own rfl (RetK.oth rfl RetK.nil)), ?_⟩
  show FSs _ _ _ [.fix v0 (.tok (.ref f_table_from)), (.v true), (.v true)] _ _ _
  exact (fss_cons (fs_setK (i := 2) (fe_if (ft_tru (fe_isi isi_str (by exact rfl) B.isinstance (fe_var 1) (cls1 (by exact rfl) B.str (by decide +kernel)))) (fe_fnL (i := 0) G_table_from hm_table_from (by exact rfl) (hr.mono (by decide)) (Fits.t (nofix_ne True.intro) Fits.nil) (fa_cons (fe_var 1) fa_nil)) fe_non) sc_read_by__table_from.nd)
    (fss_cons (fs_if (ft_cmp op_isA s_is (fe_var 2) fe_non (nomark _))
    (fss_one (fs_raise (b := true) ER.T ER.c_Unreadable ER.m_Unreadable rfl (hr.mono (by decide)) (takes_of rfl rfl rfl rfl) (fe_var 1)))
    fss_nil)
    (fss_one (fs_ret (κn := _) (fe_var 2) (RetK.own rfl (RetK.oth rfl RetK.nil))))))
abbrev s_read_by__board_from : Stmt := topS 52
abbrev N_read_by__board_from : List Str := ["kind", "text", "found"]
theorem sc_read_by__board_from : FnScope N_read_by__board_from ["kind", "text"] (defScope s_read_by__board_from) := ⟨rfl, rfl, rfl, by decide +kernel, rfl, by decide +kernel, by decide +kernel⟩
noncomputable def b_read_by__board_from : FN.Env → Option Fl :=
  (sSeq (sSet 2 (fIf (fTru (.t (.v true)) (f1b (.t (.v true)) isStr (fVar 1))) (fCallL 0 [.t (.v true)] (noErr m_board_from) (aCons (fVar 1) aNil)) (fC .none)))
  (sSeq (sIf (fTst (f2 (.t (.v true)) (.t (.v true)) dIs (fVar 2) (fC .none)))
  (sRaise "Unreadable" (fVar 1))
  sNx)
  (sRet (fVar 2))))
noncomputable def m_read_by__board_from : M D := runF [(.tok .non), (.v true)] (.v true) 1 b_read_by__board_from
theorem ok_read_by__board_from (B : Bt mg) (a : At K mg "read_by" s_read_by__board_from ["kind", "text"]) (ER : Er P K mg DE fI C_StandError C_Unreadable) {f_board_from : Addr} (hm_board_from : mg "board_from" = some (.ref f_board_from)) (G_board_from : Kn P w K mg base CX0 6 "board_from" ["text"] (spF K mg [(.v true)] (.v true) (noErr m_board_from))) : Kn P w K mg base (L2.CX P w) 7 "read_by" ["kind", "text"] (spF K mg [(.tok (.ref f_board_from)), (.v true)] (.v true) m_read_by__board_from) := by
  have e : m_read_by__board_from = runF [(.tok (.ref f_board_from)), (.v true)] (.v true) 1 b_read_by__board_from := runF_keep (by rfl) _ _ _
  rw [e]
  refine fn_okX (κl := [(.v true)]) a sc_read_by__board_from rfl ⟨True.intro, True.intro, True.intro⟩ ⟨True.intro, True.intro⟩ rfl fun f cdv A outer s H vs E hv hr => ?_
  match vs, hv with
  | [v0, v1], _ =>
  refine ⟨[.fix v0 (.tok (.ref f_board_from)), (.v true), (.v true)], (RetK.own rfl (RetK.oth rfl RetK.nil)), ?_⟩
  show FSs _ _ _ [.fix v0 (.tok (.ref f_board_from)), (.v true), (.v true)] _ _ _
  exact (fss_cons (fs_setK (i := 2) (fe_if (ft_tru (fe_isi isi_str (by exact rfl) B.isinstance (fe_var 1) (cls1 (by exact rfl) B.str (by decide +kernel)))) (fe_fnL (i := 0) G_board_from hm_board_from (by exact rfl) (hr.mono (by decide)) (Fits.t (nofix_ne True.intro) Fits.nil) (fa_cons (fe_var 1) fa_nil)) fe_non) sc_read_by__board_from.nd)
    (fss_cons (fs_if (ft_cmp op_isA s_is (fe_var 2) fe_non (nomark _))
    (fss_one (fs_raise (b := true) ER.T ER.c_Unreadable ER.m_Unreadable rfl (hr.mono (by decide)) (takes_of rfl rfl rfl rfl) (fe_var 1)))
    fss_nil)
    (fss_one (fs_ret (κn := _) (fe_var 2) (RetK.own rfl (RetK.oth rfl RetK.nil))))))
abbrev s_read_by__frame_from : Stmt := topS 52
abbrev N_read_by__frame_from : List Str := ["kind", "text", "found"]
theorem sc_read_by__frame_from : FnScope N_read_by__frame_from ["kind", "text"] (defScope s_read_by__frame_from) := ⟨rfl, rfl, rfl, by decide +kernel, rfl, by decide +kernel, by decide +kernel⟩
noncomputable def b_read_by__frame_from : FN.Env → Option Fl :=
  (sSeq (sSet 2 (fIf (fTru (.t (.v true)) (f1b (.t (.v true)) isStr (fVar 1))) (fCallL 0 [.t (.v true)] (noErr m_frame_from) (aCons (fVar 1) aNil)) (fC .none)))
  (sSeq (sIf (fTst (f2 (.t (.v true)) (.t (.v true)) dIs (fVar 2) (fC .none)))
  (sRaise "Unreadable" (fVar 1))
  sNx)
  (sRet (fVar 2))))
noncomputable def m_read_by__frame_from : M D := runF [(.tok .non), (.v true)] (.v true) 1 b_read_by__frame_from
theorem ok_read_by__frame_from (B : Bt mg) (a : At K mg "read_by" s_read_by__frame_from ["kind", "text"]) (ER : Er P K mg DE fI C_StandError C_Unreadable) {f_frame_from : Addr} (hm_frame_from : mg "frame_from" = some (.ref f_frame_from)) (G_frame_from : Kn P w K mg base CX0 6 "frame_from" ["text"] (spF K mg [(.v true)] (.v true) (noErr m_frame_from))) : Kn P w K mg base (L2.CX P w) 7 "read_by" ["kind", "text"] (spF K mg [(.tok (.ref f_frame_from)), (.v true)] (.v true) m_read_by__frame_from) := by
  have e : m_read_by__frame_from = runF [(.tok (.ref f_frame_from)), (.v true)] (.v true) 1 b_read_by__frame_from := runF_keep (by rfl) _ _ _
  rw [e]
  refine fn_okX (κl := [(.v true)]) a sc_read_by__frame_from rfl ⟨True.intro, True.intro, True.intro⟩ ⟨True.intro, True.intro⟩ rfl fun f cdv A outer s H vs E hv hr => ?_
  match vs, hv with
  | [v0, v1], _ =>
  refine ⟨[.fix v0 (.tok (.ref f_frame_from)), (.v true), (.v true)], (RetK.own rfl (RetK.oth rfl RetK.nil)), ?_⟩
  show FSs _ _ _ [.fix v0 (.tok (.ref f_frame_from)), (.v true), (.v true)] _ _ _
  exact (fss_cons (fs_setK (i := 2) (fe_if (ft_tru (fe_isi isi_str (by exact rfl) B.isinstance (fe_var 1) (cls1 (by exact rfl) B.str (by decide +kernel)))) (fe_fnL (i := 0) G_frame_from hm_frame_from (by exact rfl) (hr.mono (by decide)) (Fits.t (nofix_ne True.intro) Fits.nil) (fa_cons (fe_var 1) fa_nil)) fe_non) sc_read_by__frame_from.nd)
    (fss_cons (fs_if (ft_cmp op_isA s_is (fe_var 2) fe_non (nomark _))
    (fss_one (fs_raise (b := true) ER.T ER.c_Unreadable ER.m_Unreadable rfl (hr.mono (by decide)) (takes_of rfl rfl rfl rfl) (fe_var 1)))
    fss_nil)
    (fss_one (fs_ret (κn := _) (fe_var 2) (RetK.own rfl (RetK.oth rfl RetK.nil))))))
abbrev s_read_by__costs_from : Stmt := topS 52
abbrev N_read_by__costs_from : List Str := ["kind", "text", "found"]
theorem sc_read_by__costs_from : FnScope N_read_by__costs_from ["kind", "text"] (defScope s_read_by__costs_from) := ⟨rfl, rfl, rfl, by decide +kernel, rfl, by decide +kernel, by decide +kernel⟩
noncomputable def b_read_by__costs_from : FN.Env → Option Fl :=
  (sSeq (sSet 2 (fIf (fTru (.t (.v true)) (f1b (.t (.v true)) isStr (fVar 1))) (fCallL 0 [.t (.v true)] (noErr m_costs_from) (aCons (fVar 1) aNil)) (fC .none)))
  (sSeq (sIf (fTst (f2 (.t (.v true)) (.t (.v true)) dIs (fVar 2) (fC .none)))
  (sRaise "Unreadable" (fVar 1))
  sNx)
  (sRet (fVar 2))))
noncomputable def m_read_by__costs_from : M D := runF [(.tok .non), (.v true)] (.v true) 1 b_read_by__costs_from
theorem ok_read_by__costs_from (B : Bt mg) (a : At K mg "read_by" s_read_by__costs_from ["kind", "text"]) (ER : Er P K mg DE fI C_StandError C_Unreadable) {f_costs_from : Addr} (hm_costs_from : mg "costs_from" = some (.ref f_costs_from)) (G_costs_from : Kn P w K mg base CX0 6 "costs_from" ["text"] (spF K mg [(.v true)] (.v true) (noErr m_costs_from))) : Kn P w K mg base (L2.CX P w) 7 "read_by" ["kind", "text"] (spF K mg [(.tok (.ref f_costs_from)), (.v true)] (.v true) m_read_by__costs_from) := by
  have e : m_read_by__costs_from = runF [(.tok (.ref f_costs_from)), (.v true)] (.v true) 1 b_read_by__costs_from := runF_keep (by rfl) _ _ _
  rw [e]
  refine fn_okX (κl := [(.v true)]) a sc_read_by__costs_from rfl ⟨True.intro, True.intro, True.intro⟩ ⟨True.intro, True.intro⟩ rfl fun f cdv A outer s H vs E hv hr => ?_
  match vs, hv with
  | [v0, v1], _ =>
  refine ⟨[.fix v0 (.tok (.ref f_costs_from)), (.v true), (.v true)], (RetK.own rfl (RetK.oth rfl RetK.nil)), ?_⟩
  show FSs _ _ _ [.fix v0 (.tok (.ref f_costs_from)), (.v true), (.v true)] _ _ _
  exact (fss_cons (fs_setK (i := 2) (fe_if (ft_tru (fe_isi isi_str (by exact rfl) B.isinstance (fe_var 1) (cls1 (by exact rfl) B.str (by decide +kernel)))) (fe_fnL (i := 0) G_costs_from hm_costs_from (by exact rfl) (hr.mono (by decide)) (Fits.t (nofix_ne True.intro) Fits.nil) (fa_cons (fe_var 1) fa_nil)) fe_non) sc_read_by__costs_from.nd)
    (fss_cons (fs_if (ft_cmp op_isA s_is (fe_var 2) fe_non (nomark _))
    (fss_one (fs_raise (b := true) ER.T ER.c_Unreadable ER.m_Unreadable rfl (hr.mono (by decide)) (takes_of rfl rfl rfl rfl) (fe_var 1)))
    fss_nil)
    (fss_one (fs_ret (κn := _) (fe_var 2) (RetK.own rfl (RetK.oth rfl RetK.nil))))))
abbrev s_read_numbers : Stmt := topS 53
abbrev N_read_numbers : List Str := ["text"]
theorem sc_read_numbers : FnScope N_read_numbers ["text"] (defScope s_read_numbers) := ⟨rfl, rfl, rfl, by decide +kernel, rfl, by decide +kernel, by decide +kernel⟩
noncomputable def b_read_numbers : FN.Env → Option Fl :=
  (sRet (fCall [.t (.tok .non), .t (.v true)] m_read_by__numbers_from (aCons fTok (aCons (fVar 0) aNil))))
noncomputable def m_read_numbers : M D := runF [(.v true)] (.v true) 0 b_read_numbers
theorem ok_read_numbers (B : Bt mg) (a : At K mg "read_numbers" s_read_numbers ["text"]) {f_numbers_from : Addr} (hm_numbers_from : mg "numbers_from" = some (.ref f_numbers_from)) (G_read_by__numbers_from : Kn P w K mg base (L2.CX P w) 5 "read_by" ["kind", "text"] (spF K mg [(.tok (.ref f_numbers_from)), (.v true)] (.v true) m_read_by__numbers_from)) : Kn P w K mg base (L2.CX P w) 6 "read_numbers" ["text"] (spF K mg [(.v true)] (.v true) m_read_numbers) := by
  refine fn_okX (κl := []) a sc_read_numbers rfl ⟨True.intro, True.intro⟩ True.intro rfl fun f cdv A outer s H vs E hv hr => ?_
  match vs, hv with
  | [v0], _ =>
  refine ⟨[(.v true)], (RetK.oth rfl RetK.nil), ?_⟩
  show FSs _ _ _ [(.v true)] _ _ _
  exact (fss_one (fs_ret (κn := _) (fe_sh (fe_fnX G_read_by__numbers_from (takes_of rfl rfl rfl rfl) (hr.mono (by decide)) (Fits.t (nofix_ne True.intro) (Fits.t (nofix_ne True.intro) Fits.nil)) (fa_cons (fe_tok hm_numbers_from) (fa_cons (fe_var 0) fa_nil)))) (RetK.oth rfl RetK.nil)))
abbrev s_read_table : Stmt := topS 54
abbrev N_read_table : List Str := ["text"]
theorem sc_read_table : FnScope N_read_table ["text"] (defScope s_read_table) := ⟨rfl, rfl, rfl, by decide +kernel, rfl, by decide +kernel, by decide +kernel⟩
noncomputable def b_read_table : FN.Env → Option Fl :=
  (sRet (fCall [.t (.tok .non), .t (.v true)] m_read_by__table_from (aCons fTok (aCons (fVar 0) aNil))))
noncomputable def m_read_table : M D := runF [(.v true)] (.v true) 0 b_read_table
theorem ok_read_table (B : Bt mg) (a : At K mg "read_table" s_read_table ["text"]) {f_table_from : Addr} (hm_table_from : mg "table_from" = some (.ref f_table_from)) (G_read_by__table_from : Kn P w K mg base (L2.CX P w) 7 "read_by" ["kind", "text"] (spF K mg [(.tok (.ref f_table_from)), (.v true)] (.v true) m_read_by__table_from)) : Kn P w K mg base (L2.CX P w) 8 "read_table" ["text"] (spF K mg [(.v true)] (.v true) m_read_table) := by
  refine fn_okX (κl := []) a sc_read_table rfl ⟨True.intro, True.intro⟩ True.intro rfl fun f cdv A outer s H vs E hv hr => ?_
  match vs, hv with
  | [v0], _ =>
  refine ⟨[(.v true)], (RetK.oth rfl RetK.nil), ?_⟩
  show FSs _ _ _ [(.v true)] _ _ _
  exact (fss_one (fs_ret (κn := _) (fe_sh (fe_fnX G_read_by__table_from (takes_of rfl rfl rfl rfl) (hr.mono (by decide)) (Fits.t (nofix_ne True.intro) (Fits.t (nofix_ne True.intro) Fits.nil)) (fa_cons (fe_tok hm_table_from) (fa_cons (fe_var 0) fa_nil)))) (RetK.oth rfl RetK.nil)))
abbrev s_read_board : Stmt := topS 55
abbrev N_read_board : List Str := ["text"]
theorem sc_read_board : FnScope N_read_board ["text"] (defScope s_read_board) := ⟨rfl, rfl, rfl, by decide +kernel, rfl, by decide +kernel, by decide +kernel⟩
noncomputable def b_read_board : FN.Env → Option Fl :=
  (sRet (fCall [.t (.tok .non), .t (.v true)] m_read_by__board_from (aCons fTok (aCons (fVar 0) aNil))))
noncomputable def m_read_board : M D := runF [(.v true)] (.v true) 0 b_read_board
theorem ok_read_board (B : Bt mg) (a : At K mg "read_board" s_read_board ["text"]) {f_board_from : Addr} (hm_board_from : mg "board_from" = some (.ref f_board_from)) (G_read_by__board_from : Kn P w K mg base (L2.CX P w) 7 "read_by" ["kind", "text"] (spF K mg [(.tok (.ref f_board_from)), (.v true)] (.v true) m_read_by__board_from)) : Kn P w K mg base (L2.CX P w) 8 "read_board" ["text"] (spF K mg [(.v true)] (.v true) m_read_board) := by
  refine fn_okX (κl := []) a sc_read_board rfl ⟨True.intro, True.intro⟩ True.intro rfl fun f cdv A outer s H vs E hv hr => ?_
  match vs, hv with
  | [v0], _ =>
  refine ⟨[(.v true)], (RetK.oth rfl RetK.nil), ?_⟩
  show FSs _ _ _ [(.v true)] _ _ _
  exact (fss_one (fs_ret (κn := _) (fe_sh (fe_fnX G_read_by__board_from (takes_of rfl rfl rfl rfl) (hr.mono (by decide)) (Fits.t (nofix_ne True.intro) (Fits.t (nofix_ne True.intro) Fits.nil)) (fa_cons (fe_tok hm_board_from) (fa_cons (fe_var 0) fa_nil)))) (RetK.oth rfl RetK.nil)))
abbrev s_read_frame : Stmt := topS 56
abbrev N_read_frame : List Str := ["text"]
theorem sc_read_frame : FnScope N_read_frame ["text"] (defScope s_read_frame) := ⟨rfl, rfl, rfl, by decide +kernel, rfl, by decide +kernel, by decide +kernel⟩
noncomputable def b_read_frame : FN.Env → Option Fl :=
  (sRet (fCall [.t (.tok .non), .t (.v true)] m_read_by__frame_from (aCons fTok (aCons (fVar 0) aNil))))
noncomputable def m_read_frame : M D := runF [(.v true)] (.v true) 0 b_read_frame
theorem ok_read_frame (B : Bt mg) (a : At K mg "read_frame" s_read_frame ["text"]) {f_frame_from : Addr} (hm_frame_from : mg "frame_from" = some (.ref f_frame_from)) (G_read_by__frame_from : Kn P w K mg base (L2.CX P w) 7 "read_by" ["kind", "text"] (spF K mg [(.tok (.ref f_frame_from)), (.v true)] (.v true) m_read_by__frame_from)) : Kn P w K mg base (L2.CX P w) 8 "read_frame" ["text"] (spF K mg [(.v true)] (.v true) m_read_frame) := by
  refine fn_okX (κl := []) a sc_read_frame rfl ⟨True.intro, True.intro⟩ True.intro rfl fun f cdv A outer s H vs E hv hr => ?_
  match vs, hv with
  | [v0], _ =>
  refine ⟨[(.v true)], (RetK.oth rfl RetK.nil), ?_⟩
  show FSs _ _ _ [(.v true)] _ _ _
  exact (fss_one (fs_ret (κn := _) (fe_sh (fe_fnX G_read_by__frame_from (takes_of rfl rfl rfl rfl) (hr.mono (by decide)) (Fits.t (nofix_ne True.intro) (Fits.t (nofix_ne True.intro) Fits.nil)) (fa_cons (fe_tok hm_frame_from) (fa_cons (fe_var 0) fa_nil)))) (RetK.oth rfl RetK.nil)))
abbrev s_read_costs : Stmt := topS 57
abbrev N_read_costs : List Str := ["text"]
theorem sc_read_costs : FnScope N_read_costs ["text"] (defScope s_read_costs) := ⟨rfl, rfl, rfl, by decide +kernel, rfl, by decide +kernel, by decide +kernel⟩
noncomputable def b_read_costs : FN.Env → Option Fl :=
  (sRet (fCall [.t (.tok .non), .t (.v true)] m_read_by__costs_from (aCons fTok (aCons (fVar 0) aNil))))
noncomputable def m_read_costs : M D := runF [(.v true)] (.v true) 0 b_read_costs
theorem ok_read_costs (B : Bt mg) (a : At K mg "read_costs" s_read_costs ["text"]) {f_costs_from : Addr} (hm_costs_from : mg "costs_from" = some (.ref f_costs_from)) (G_read_by__costs_from : Kn P w K mg base (L2.CX P w) 7 "read_by" ["kind", "text"] (spF K mg [(.tok (.ref f_costs_from)), (.v true)] (.v true) m_read_by__costs_from)) : Kn P w K mg base (L2.CX P w) 8 "read_costs" ["text"] (spF K mg [(.v true)] (.v true) m_read_costs) := by
  refine fn_okX (κl := []) a sc_read_costs rfl ⟨True.intro, True.intro⟩ True.intro rfl fun f cdv A outer s H vs E hv hr => ?_
  match vs, hv with
  | [v0], _ =>
  refine ⟨[(.v true)], (RetK.oth rfl RetK.nil), ?_⟩
  show FSs _ _ _ [(.v true)] _ _ _
  exact (fss_one (fs_ret (κn := _) (fe_sh (fe_fnX G_read_by__costs_from (takes_of rfl rfl rfl rfl) (hr.mono (by decide)) (Fits.t (nofix_ne True.intro) (Fits.t (nofix_ne True.intro) Fits.nil)) (fa_cons (fe_tok hm_costs_from) (fa_cons (fe_var 0) fa_nil)))) (RetK.oth rfl RetK.nil)))
abbrev s_L_bag : Stmt := topS 59
abbrev N_L_bag : List Str := ["script", "k", "cell"]
theorem sc_L_bag : FnScope N_L_bag ["script", "k"] (defScope s_L_bag) := ⟨rfl, rfl, rfl, by decide +kernel, rfl, by decide +kernel, by decide +kernel⟩
noncomputable def b_L_bag : FN.Env → Option Fl :=
  (sSeq (sSet 2 (fIf (fTst (f2 (.t (.v true)) (.t (.v true)) dLt (fVar 1) (f1 (.r 0) dLen (fRef 0)))) (f2 (.t (.v true)) (.t (.v true)) dMod (f1 (.t (.v true)) dInt (f2 (.r 0) (.t (.v true)) dIx (fRef 0) (fVar 1))) (f2 (.t (.v true)) (.t (.v true)) dPow (fC (.int 10)) (fC (.int 60)))) (f2 (.t (.v true)) (.t (.v true)) dAdd (f2 (.t (.v true)) (.t (.v true)) dMul (fC (.int 41)) (fVar 1)) (fC (.int 7)))))
  (sRet (fLst (aCons (f2 (.t (.v true)) (.t (.v true)) dMax2 (fC (.int 0)) (f2 (.t (.v true)) (.t (.v true)) dSub (fVar 2) (f2 (.t (.v true)) (.t (.v true)) dPow (fC (.int 10)) (fC (.int 18))))) (aCons (f2 (.t (.v true)) (.t (.v true)) dAdd (f2 (.t (.v true)) (.t (.v true)) dMod (f1 (.t (.v true)) dInt (fVar 2)) (fC (.int 1000003))) (f2 (.t (.v true)) (.t (.v true)) dMul (fC (.int 31)) (fVar 1))) (aCons (fC (.int 0)) aNil))))))
noncomputable def m_L_bag : M D := runF [.scr, (.v true)] (.lst (.v true)) 1 b_L_bag
theorem ok_L_bag (B : Bt mg) (a : At K mg "_law_bag" s_L_bag ["script", "k"])  : Kn P w K mg base CX0 1 "_law_bag" ["script", "k"] (spF K mg [.scr, (.v true)] (.lst (.v true)) (noErr m_L_bag)) := by
  refine fn_ok0 (κl := [(.v true)]) a sc_L_bag rfl ⟨True.intro, True.intro, True.intro⟩ ⟨True.intro, True.intro⟩ rfl fun f cdv A outer s H vs E hv hr => ?_
  match vs, hv with
  | [v0, v1], _ =>
  refine ⟨[.fix v0 .scr, (.v true), (.v true)], (RetK.own rfl (RetK.oth rfl RetK.nil)), ?_⟩
  show FSs _ _ _ [.fix v0 .scr, (.v true), (.v true)] _ _ _
  exact (fss_cons (fs_setK (i := 2) (fe_if (ft_cmp op_lt s_lt (fe_var 1) (fe_len (by exact rfl) B.len (fe_ref 0)) (nomark _)) (fe_op op_mod s_mod (fe_int1 (by exact rfl) B.int (fe_ixS (fe_ref 0) (fe_var 1))) (fe_op op_pow s_pow fe_int fe_int)) (fe_add (fe_mul fe_int (fe_var 1)) fe_int)) sc_L_bag.nd)
    (fss_one (fs_ret (κn := _) (fe_lst (k := true) (kd := (.lst (.v true))) (fa_cons (fe_max2 rfl (by exact rfl) B.max fe_int (fe_op op_sub s_sub (fe_var 2) (fe_op op_pow s_pow fe_int fe_int))) (fa_cons (fe_add (fe_op op_mod s_mod (fe_int1 (by exact rfl) B.int (fe_var 2)) fe_int) (fe_mul fe_int (fe_var 1))) (fa_cons fe_int fa_nil)))) (RetK.own rfl (RetK.oth rfl RetK.nil)))))
abbrev s_L_take : Stmt := topS 60
abbrev N_L_take : List Str := ["bag", "many", "mixed", "digit"]
theorem sc_L_take : FnScope N_L_take ["bag", "many"] (defScope s_L_take) := ⟨rfl, rfl, rfl, by decide +kernel, rfl, by decide +kernel, by decide +kernel⟩
noncomputable def b_L_take : FN.Env → Option Fl :=
  (sSeq (sIf (fTst (f2 (.t (.v true)) (.t (.v true)) dGt (f2 (.r 0) (.t (.v true)) dIx (fRef 0) (fC (.int 0))) (fC (.int 0))))
  (sSeq (sSet 3 (f2 (.t (.v true)) (.t (.v true)) dMod (f1 (.t (.v true)) dInt (f2 (.r 0) (.t (.v true)) dIx (fRef 0) (fC (.int 0)))) (fVar 1)))
  (sSeq (sPut 0 (fC (.int 0)) (f2 (.t (.v true)) (.t (.v true)) dDiv (f2 (.r 0) (.t (.v true)) dIx (fRef 0) (fC (.int 0))) (fVar 1)))
  (sRet (fVar 3))))
  sNx)
  (sSeq (sPut 0 (fC (.int 2)) (f2 (.t (.v true)) (.t (.v true)) dAdd (f2 (.r 0) (.t (.v true)) dIx (fRef 0) (fC (.int 2))) (fC (.int 1))))
  (sSeq (sSet 2 (f2 (.t (.v true)) (.t (.v true)) dMod (f1 (.t (.v true)) dInt (f2 (.t (.v true)) (.t (.v true)) dAdd (f2 (.t (.v true)) (.t (.v true)) dPow (f2 (.t (.v true)) (.t (.v true)) dAdd (f2 (.r 0) (.t (.v true)) dIx (fRef 0) (fC (.int 1))) (f2 (.t (.v true)) (.t (.v true)) dMul (fC (.int 7919)) (f2 (.r 0) (.t (.v true)) dIx (fRef 0) (fC (.int 2))))) (fC (.int 3))) (f2 (.r 0) (.t (.v true)) dIx (fRef 0) (fC (.int 2))))) (f2 (.t (.v true)) (.t (.v true)) dAdd (f2 (.t (.v true)) (.t (.v true)) dPow (fC (.int 10)) (fC (.int 28))) (fC (.int 331)))))
  (sSeq (sSet 2 (f2 (.t (.v true)) (.t (.v true)) dMod (f1 (.t (.v true)) dInt (f2 (.t (.v true)) (.t (.v true)) dAdd (f2 (.t (.v true)) (.t (.v true)) dAdd (f2 (.t (.v true)) (.t (.v true)) dMul (fVar 2) (fVar 2)) (f2 (.t (.v true)) (.t (.v true)) dMul (fC (.int 104729)) (f2 (.r 0) (.t (.v true)) dIx (fRef 0) (fC (.int 1))))) (f2 (.r 0) (.t (.v true)) dIx (fRef 0) (fC (.int 2))))) (f2 (.t (.v true)) (.t (.v true)) dAdd (f2 (.t (.v true)) (.t (.v true)) dPow (fC (.int 10)) (fC (.int 27))) (fC (.int 103)))))
  (sRet (f2 (.t (.v true)) (.t (.v true)) dMod (f1 (.t (.v true)) dInt (f2 (.t (.v true)) (.t (.v true)) dDiv (fVar 2) (fC (.int 15485863)))) (fVar 1)))))))
noncomputable def m_L_take : M D := runF [(.lst (.v true)), (.v true)] (.v true) 2 b_L_take
theorem ok_L_take (B : Bt mg) (a : At K mg "_law_take" s_L_take ["bag", "many"])  : Kn P w K mg base CX0 1 "_law_take" ["bag", "many"] (spF K mg [(.lst (.v true)), (.v true)] (.v true) (noErr m_L_take)) := by
  refine fn_ok0 (κl := [(.v true), (.v true)]) a sc_L_take rfl ⟨True.intro, True.intro, True.intro⟩ ⟨True.intro, True.intro, True.intro⟩ rfl fun f cdv A outer s H vs E hv hr => ?_
  match vs, hv with
  | [v0, v1], _ =>
  refine ⟨[.fix v0 (.lst (.v true)), (.v true), (.v true), (.v true)], (RetK.own rfl (RetK.oth rfl RetK.nil)), ?_⟩
  show FSs _ _ _ [.fix v0 (.lst (.v true)), (.v true), (.v true), (.v true)] _ _ _
  exact (fss_cons (fs_if (ft_cmp op_gt s_gt (fe_ix (fe_ref 0) fe_int) fe_int (nomark _))
    (fss_cons (fs_setK (i := 3) (fe_op op_mod s_mod (fe_int1 (by exact rfl) B.int (fe_ix (fe_ref 0) fe_int)) (fe_var 1)) sc_L_take.nd)
    (fss_cons (fs_put (bi := true) (i := 0) rfl (fe_ref 0) fe_int (fe_op op_fdivW s_div (fe_ix (fe_ref 0) fe_int) (fe_var 1)))
    (fss_one (fs_ret (κn := _) (fe_var 3) (RetK.own rfl (RetK.oth rfl RetK.nil))))))
    fss_nil)
    (fss_cons (fs_put (bi := true) (i := 0) rfl (fe_ref 0) fe_int (fe_add (fe_ix (fe_ref 0) fe_int) fe_int))
    (fss_cons (fs_setK (i := 2) (fe_op op_mod s_mod (fe_int1 (by exact rfl) B.int (fe_add (fe_op op_pow s_pow (fe_add (fe_ix (fe_ref 0) fe_int) (fe_mul fe_int (fe_ix (fe_ref 0) fe_int))) fe_int) (fe_ix (fe_ref 0) fe_int))) (fe_add (fe_op op_pow s_pow fe_int fe_int) fe_int)) sc_L_take.nd)
    (fss_cons (fs_setK (i := 2) (fe_op op_mod s_mod (fe_int1 (by exact rfl) B.int (fe_add (fe_add (fe_mul (fe_var 2) (fe_var 2)) (fe_mul fe_int (fe_ix (fe_ref 0) fe_int))) (fe_ix (fe_ref 0) fe_int))) (fe_add (fe_op op_pow s_pow fe_int fe_int) fe_int)) sc_L_take.nd)
    (fss_one (fs_ret (κn := _) (fe_op op_mod s_mod (fe_int1 (by exact rfl) B.int (fe_op op_fdivW s_div (fe_var 2) fe_int)) (fe_var 1)) (RetK.own rfl (RetK.oth rfl RetK.nil))))))))
abbrev s_L_one_of : Stmt := topS 61
abbrev N_L_one_of : List Str := ["bag", "items"]
theorem sc_L_one_of : FnScope N_L_one_of ["bag", "items"] (defScope s_L_one_of) := ⟨rfl, rfl, rfl, by decide +kernel, rfl, by decide +kernel, by decide +kernel⟩
noncomputable def b_L_one_of : FN.Env → Option Fl :=
  (sRet (f2 (.t (.v true)) (.t (.v true)) dIx (fVar 1) (fCall [.r 0, .t (.v true)] (noErr m_L_take) (aCons (fRef 0) (aCons (f1 (.t (.v true)) dLen (fVar 1)) aNil)))))
noncomputable def m_L_one_of : M D := runF [(.lst (.v true)), (.v true)] (.v true) 0 b_L_one_of
theorem ok_L_one_of (B : Bt mg) (a : At K mg "_law_one_of" s_L_one_of ["bag", "items"]) (G_L_take : Kn P w K mg base CX0 1 "_law_take" ["bag", "many"] (spF K mg [(.lst (.v true)), (.v true)] (.v true) (noErr m_L_take))) : Kn P w K mg base CX0 2 "_law_one_of" ["bag", "items"] (spF K mg [(.lst (.v true)), (.v true)] (.v true) (noErr m_L_one_of)) := by
  refine fn_ok0 (κl := []) a sc_L_one_of rfl ⟨True.intro, True.intro, True.intro⟩ True.intro rfl fun f cdv A outer s H vs E hv hr => ?_
  match vs, hv with
  | [v0, v1], _ =>
  refine ⟨[.fix v0 (.lst (.v true)), (.v true)], (RetK.own rfl (RetK.oth rfl RetK.nil)), ?_⟩
  show FSs _ _ _ [.fix v0 (.lst (.v true)), (.v true)] _ _ _
  exact (fss_one (fs_ret (κn := _) (fe_ix (fe_var 1) (fe_fn G_L_take (hr.mono (by decide)) (Fits.r (by first | exact .inl ⟨rfl, nofix_ne True.intro⟩ | exact .inr ⟨_, rfl, nofix_ne True.intro⟩) (Fits.t (nofix_ne True.intro) Fits.nil)) (fa_cons (fe_ref 0) (fa_cons (fe_len (by exact rfl) B.len (fe_var 1)) fa_nil)))) (RetK.own rfl (RetK.oth rfl RetK.nil))))
abbrev s_L_same : Stmt := topS 62
abbrev N_L_same : List Str := ["got", "due", "one", "other"]
theorem sc_L_same : FnScope N_L_same ["got", "due"] (defScope s_L_same) := ⟨rfl, rfl, rfl, by decide +kernel, rfl, by decide +kernel, by decide +kernel⟩
noncomputable def b_L_same (rec : M D) : FN.Env → Option Fl :=
  (sSeq (sIf (fTru (.t (.v true)) (f1b (.t (.v true)) (fun d => isTuple d || isList d) (fVar 1)))
  (sSeq (sIf (tOrF (fTst (f2 (.t (.v true)) (.t (.v true)) dNe (f1b (.t (.v true)) isTuple (fVar 1)) (f1b (.t (.v true)) isTuple (fVar 0)))) (fTst (f2 (.t (.v true)) (.t (.v true)) dNe (f1b (.t (.v true)) isList (fVar 1)) (f1b (.t (.v true)) isList (fVar 0)))))
  (sRet (fC (.bool false)))
  sNx)
  (sRet (fAnd (f2 (.t (.v true)) (.t (.v true)) dEq (f1 (.t (.v true)) dLen (fVar 0)) (f1 (.t (.v true)) dLen (fVar 1))) (f1 (.t (.v true)) dAll (fLc [2, 3] (iZip (fVar 0) (fVar 1)) (gTp (gsCons (gNm 2) (gsCons (gNm 3) gsNil))) tYesF (fCall [.t (.v true), .t (.v true)] (noErr rec) (aCons (fVar 2) (aCons (fVar 3) aNil))))))))
  sNx)
  (sSeq (sIf (tOrF (fTst (f2 (.t (.v true)) (.t (.v true)) dIs (fVar 1) (fC .none))) (fTru (.t (.v true)) (f1b (.t (.v true)) isBool (fVar 1))))
  (sRet (fIf (fTst (f2 (.t (.v true)) (.t (.v true)) dIs (fVar 1) (fC .none))) (f2 (.t (.v true)) (.t (.v true)) dIs (fVar 0) (fC .none)) (fAnd (f1b (.t (.v true)) isBool (fVar 0)) (f2 (.t (.v true)) (.t (.v true)) dEq (fVar 0) (fVar 1)))))
  sNx)
  (sSeq (sIf (tOrF (fTru (.t (.v true)) (f1b (.t (.v true)) isBool (fVar 0))) (fTst (f2 (.t (.v true)) (.t (.v true)) dNe (f1b (.t (.v true)) isInt (fVar 1)) (f1b (.t (.v true)) isInt (fVar 0)))))
  (sRet (fC (.bool false)))
  sNx)
  (sRet (fAnd (f2 (.t (.v true)) (.t (.v true)) dEq (f1b (.t (.v true)) isStr (fVar 1)) (f1b (.t (.v true)) isStr (fVar 0))) (f2 (.t (.v true)) (.t (.v true)) dEq (fVar 0) (fVar 1)))))))
noncomputable def m_L_same : Nat → M D
  | 0 => fun _ => none
  | n + 1 => runF [(.v true), (.v true)] (.v true) 2 (b_L_same (m_L_same n))
theorem ok_L_same (B : Bt mg) (a : At K mg "_law_same" s_L_same ["got", "due"])  : ∀ n : Nat, Kn P w K mg base CX0 (1 + n) "_law_same" ["got", "due"] (spF K mg [(.v true), (.v true)] (.v true) (noErr (m_L_same n))) := by
  intro n
  induction n with
  | zero => exact kn_none a fun _ => rfl
  | succ n ih =>
  show Kn P w K mg base CX0 ((1 + n) + 1) "_law_same" ["got", "due"] (spF K mg [(.v true), (.v true)] (.v true) (noErr (runF [(.v true), (.v true)] (.v true) 2 (b_L_same (m_L_same n)))))
  refine fn_ok0 (κl := [(.v true), (.v true)]) a sc_L_same rfl ⟨True.intro, True.intro, True.intro⟩ ⟨True.intro, True.intro, True.intro⟩ rfl fun f cdv A outer s H vs E hv hr => ?_
  match vs, hv with
  | [v0, v1], _ =>
  refine ⟨[(.v true), (.v true), (.v true), (.v true)], (RetK.oth rfl (RetK.oth rfl RetK.nil)), ?_⟩
  show FSs _ _ _ [(.v true), (.v true), (.v true), (.v true)] _ _ _
  exact (fss_cons (fs_if (ft_tru (fe_isi2 isi_tuple isi_list (by exact rfl) B.isinstance (fe_var 1) (cls1 (by exact rfl) B.tuple (by decide +kernel)) (cls1 (by exact rfl) B.list (by decide +kernel))))
    (fss_cons (fs_if (ft_w (fw_or (ft_cmp (op_neD hr.units) s_ne (fe_isi isi_tuple (by exact rfl) B.isinstance (fe_var 1) (cls1 (by exact rfl) B.tuple (by decide +kernel))) (fe_isi isi_tuple (by exact rfl) B.isinstance (fe_var 0) (cls1 (by exact rfl) B.tuple (by decide +kernel))) (nomark _)) (fw_or1 (ft_cmp (op_neD hr.units) s_ne (fe_isi isi_list (by exact rfl) B.isinstance (fe_var 1) (cls1 (by exact rfl) B.list (by decide +kernel))) (fe_isi isi_list (by exact rfl) B.isinstance (fe_var 0) (cls1 (by exact rfl) B.list (by decide +kernel))) (nomark _)))))
    (fss_one (fs_ret (κn := _) fe_bl (RetK.oth rfl (RetK.oth rfl RetK.nil))))
    fss_nil)
    (fss_one (fs_ret (κn := _) (fe_and (fe_cmp (op_eqD hr.units) s_eq (fe_len (by exact rfl) B.len (fe_var 0)) (fe_len (by exact rfl) B.len (fe_var 1)) (nomark _)) (fe_one (fe_all rfl (by exact rfl) B.all (fe_lc (kd := (.v _)) (own := [("one", 2), ("other", 3)]) (sl := [2, 3]) rfl rfl sc_L_same.nd (fi_zip (by exact rfl) B.zip (fe_var 0) (fe_var 1)) (blkOk_by (N := N_L_same) (sc := defScope s_L_same) (by decide +kernel)) (by repeat (first | exact True.intro | refine And.intro True.intro ?_)) (by decide) (fun _ _ _ _ _ => (fg_tup rfl (gs_lenS (gs_lenS gs_len0)) (fgs_cons (fg_nameK (i := 2) sc_L_same.nd) (fgs_cons (fg_nameK (i := 3) sc_L_same.nd) fgs_nil)))) (fun _ _ _ _ _ => fts_nil) (fun _ _ _ _ _ => (fe_fn ih (hr.mono (by omega)) (Fits.t (nofix_ne True.intro) (Fits.t (nofix_ne True.intro) Fits.nil)) (fa_cons (fe_var 2) (fa_cons (fe_var 3) fa_nil)))))))) (RetK.oth rfl (RetK.oth rfl RetK.nil)))))
    fss_nil)
    (fss_cons (fs_if (ft_w (fw_or (ft_cmp op_isA s_is (fe_var 1) fe_non (nomark _)) (fw_or1 (ft_tru (fe_isi isi_bool (by exact rfl) B.isinstance (fe_var 1) (cls1 (by exact rfl) B.bool (by decide +kernel)))))))
    (fss_one (fs_ret (κn := _) (fe_if (ft_cmp op_isA s_is (fe_var 1) fe_non (nomark _)) (fe_cmp op_isA s_is (fe_var 0) fe_non (nomark _)) (fe_and (fe_isi isi_bool (by exact rfl) B.isinstance (fe_var 0) (cls1 (by exact rfl) B.bool (by decide +kernel))) (fe_one (fe_cmp (op_eqD hr.units) s_eq (fe_var 0) (fe_var 1) (nomark _))))) (RetK.oth rfl (RetK.oth rfl RetK.nil))))
    fss_nil)
    (fss_cons (fs_if (ft_w (fw_or (ft_tru (fe_isi isi_bool (by exact rfl) B.isinstance (fe_var 0) (cls1 (by exact rfl) B.bool (by decide +kernel)))) (fw_or1 (ft_cmp (op_neD hr.units) s_ne (fe_isi isi_int (by exact rfl) B.isinstance (fe_var 1) (cls1 (by exact rfl) B.int (by decide +kernel))) (fe_isi isi_int (by exact rfl) B.isinstance (fe_var 0) (cls1 (by exact rfl) B.int (by decide +kernel))) (nomark _)))))
    (fss_one (fs_ret (κn := _) fe_bl (RetK.oth rfl (RetK.oth rfl RetK.nil))))
    fss_nil)
    (fss_one (fs_ret (κn := _) (fe_and (fe_cmp (op_eqD hr.units) s_eq (fe_isi isi_str (by exact rfl) B.isinstance (fe_var 1) (cls1 (by exact rfl) B.str (by decide +kernel))) (fe_isi isi_str (by exact rfl) B.isinstance (fe_var 0) (cls1 (by exact rfl) B.str (by decide +kernel))) (nomark _)) (fe_one (fe_cmp (op_eqD hr.units) s_eq (fe_var 0) (fe_var 1) (nomark _)))) (RetK.oth rfl (RetK.oth rfl RetK.nil)))))))
abbrev s_L_int : Stmt := topS 63
abbrev N_L_int : List Str := ["word", "digits", "sign"]
theorem sc_L_int : FnScope N_L_int ["word"] (defScope s_L_int) := ⟨rfl, rfl, rfl, by decide +kernel, rfl, by decide +kernel, by decide +kernel⟩
noncomputable def b_L_int : FN.Env → Option Fl :=
  (sSeq (sSet 1 (fIf (fTst (f2 (.t (.v true)) (.t (.v true)) dEq (f3 (.t (.v true)) (fVar 0) oNone (oSome (fC (.int 1)))) (fC (.str ("-" : Str))))) (f3 (.t (.v true)) (fVar 0) (oSome (fC (.int 1))) oNone) (fVar 0)))
  (sSeq (sIf (tOrF (tNotF (fTst (fCh (.t (.v true)) (.t (.v true)) (.t (.v true)) dLe dLe (fC (.int 1)) (f1 (.t (.v true)) dLen (fVar 1)) (fC (.int 30))))) (tNotF (fTru (.t (.v true)) (f1 (.t (.v true)) dAll (fLc [2] (iSeq (fVar 1)) (gNm 2) tYesF (f2 (.t (.v true)) (.t (.v true)) dIn (fVar 2) (fC (.str ("0123456789" : Str)))))))))
  (sRet (fC .none))
  sNx)
  (sRet (fIf (tAndF (fTst (f2 (.t (.v true)) (.t (.v true)) dEq (f2 (.t (.v true)) (.t (.v true)) dIx (fVar 1) (fC (.int 0))) (fC (.str ("0" : Str))))) (fTst (f2 (.t (.v true)) (.t (.v true)) dNe (fVar 0) (fC (.str ("0" : Str)))))) (fC .none) (f1 (.t (.v true)) dInt (fVar 0))))))
noncomputable def m_L_int : M D := runF [(.v true)] (.v true) 2 b_L_int
theorem ok_L_int (B : Bt mg) (a : At K mg "_law_int" s_L_int ["word"])  : Kn P w K mg base CX0 1 "_law_int" ["word"] (spF K mg [(.v true)] (.v true) (noErr m_L_int)) := by
  refine fn_ok0 (κl := [(.v true), (.v true)]) a sc_L_int rfl ⟨True.intro, True.intro⟩ ⟨True.intro, True.intro, True.intro⟩ rfl fun f cdv A outer s H vs E hv hr => ?_
  match vs, hv with
  | [v0], _ =>
  refine ⟨[(.v true), (.v true), (.v true)], (RetK.oth rfl RetK.nil), ?_⟩
  show FSs _ _ _ [(.v true), (.v true), (.v true)] _ _ _
  exact (fss_cons (fs_setK (i := 1) (fe_if (ft_cmp (op_eqD hr.units) s_eq (fe_sl (fe_var 0) fo_none (fo_some (k := true) fe_int)) fe_str (nomark _)) (fe_sl (fe_var 0) (fo_some (k := true) fe_int) fo_none) (fe_var 0)) sc_L_int.nd)
    (fss_cons (fs_if (ft_w (fw_or (ft_not (ft_ch op_le s_le op_le s_le fe_int (fe_len (by exact rfl) B.len (fe_var 1)) fe_int)) (fw_or1 (ft_not (ft_tru (fe_all rfl (by exact rfl) B.all (fe_lc (kd := (.v _)) (own := [("sign", 2)]) (sl := [2]) rfl rfl sc_L_int.nd (fi_seq (fe_var 1)) (blkOk_by (N := N_L_int) (sc := defScope s_L_int) (by decide +kernel)) (by repeat (first | exact True.intro | refine And.intro True.intro ?_)) (by decide) (fun _ _ _ _ _ => (fg_nameK (i := 2) sc_L_int.nd)) (fun _ _ _ _ _ => fts_nil) (fun _ _ _ _ _ => (fe_cmp (op_inA hr) s_in (fe_var 2) fe_str (by rfl))))))))))
    (fss_one (fs_ret (κn := _) fe_non (RetK.oth rfl RetK.nil)))
    fss_nil)
    (fss_one (fs_ret (κn := _) (fe_if (ft_w (fw_and (ft_cmp (op_eqD hr.units) s_eq (fe_ix (fe_var 1) fe_int) fe_str (nomark _)) (fw_and1 (ft_cmp (op_neD hr.units) s_ne (fe_var 0) fe_str (nomark _))))) fe_non (fe_int1 (by exact rfl) B.int (fe_var 0))) (RetK.oth rfl RetK.nil)))))
abbrev s_L_items : Stmt := topS 64
abbrev N_L_items : List Str := ["text", "between", "is_none_let", "word", "words", "found", "right", "number"]
theorem sc_L_items : FnScope N_L_items ["text", "between", "is_none_let"] (defScope s_L_items) := ⟨rfl, rfl, rfl, by decide +kernel, rfl, by decide +kernel, by decide +kernel⟩
noncomputable def b_L_items : FN.Env → Option Fl :=
  (sSeq (sPar3 4 5 6 (aCons (fM1 (.t (.v true)) dSplit (fVar 0) (fVar 1)) (aCons (fLst aNil) (aCons (fC (.bool true)) aNil))))
  (sSeq (sFor (iSeq (fVar 4)) (gNm 3)
  (sSeq (sSet 7 (fCall [.t (.v true)] (noErr m_L_int) (aCons (fVar 3) aNil)))
  (sSeq (sDrop (fMt 5 oApp (fVar 7)))
  (sSet 6 (fAnd (fVar 6) (fOr (f2 (.t (.v true)) (.t (.v true)) dIsN (fVar 7) (fC .none)) (fAnd (fVar 2) (f2 (.t (.v true)) (.t (.v true)) dEq (fVar 3) (fC (.str ("-" : Str)))))))))))
  (sRet (fTup (aCons (f1 (.r 5) dTuple (fRef 5)) (aCons (fVar 6) aNil))))))
noncomputable def m_L_items : M D := runF [(.v true), (.v true), (.v true)] (.v true) 5 b_L_items
theorem ok_L_items (B : Bt mg) (a : At K mg "_law_items" s_L_items ["text", "between", "is_none_let"]) (G_L_int : Kn P w K mg base CX0 1 "_law_int" ["word"] (spF K mg [(.v true)] (.v true) (noErr m_L_int))) : Kn P w K mg base CX0 2 "_law_items" ["text", "between", "is_none_let"] (spF K mg [(.v true), (.v true), (.v true)] (.v true) (noErr m_L_items)) := by
  refine fn_ok0 (κl := [(.v true), (.v true), (.lst (.v true)), (.v true), (.v true)]) a sc_L_items rfl ⟨True.intro, True.intro, True.intro, True.intro⟩ ⟨True.intro, True.intro, True.intro, True.intro, True.intro, True.intro⟩ rfl fun f cdv A outer s H vs E hv hr => ?_
  match vs, hv with
  | [v0, v1, v2], _ =>
  refine ⟨[(.v true), (.v true), (.v true), (.v true), (.v true), (.lst (.v true)), (.v true), (.v true)], (RetK.oth rfl (RetK.oth rfl (RetK.oth rfl RetK.nil))), ?_⟩
  show FSs _ _ _ [(.v true), (.v true), (.v true), (.v true), (.v true), (.lst (.v true)), (.v true), (.v true)] _ _ _
  exact (fss_cons (fs_parK3 (i := 4) (j := 5) (l := 6) rfl sc_L_items.nd (fa_cons (fe_split (b := true) (kd := (.v true)) rfl (fe_var 0) (fe_var 1)) (fa_cons (fe_lst (k := true) (kd := (.lst (.v true))) fa_nil) (fa_cons fe_bl fa_nil))))
    (fss_cons (fs_for PassesOwn.never rfl (fi_seq (fe_var 4)) (fg_nameK (i := 3) sc_L_items.nd)
    (fss_cons (fs_setK (i := 7) (fe_fn G_L_int (hr.mono (by decide)) (Fits.t (nofix_ne True.intro) Fits.nil) (fa_cons (fe_var 3) fa_nil)) sc_L_items.nd)
    (fss_cons (fs_expr (fe_append (i := 5) rfl (fe_ref 5) (fe_var 7)))
    (fss_one (fs_setK (i := 6) (fe_and (fe_var 6) (fe_one (fe_or (fe_cmp op_isNotA s_isn (fe_var 7) fe_non (nomark _)) (fe_one (fe_and (fe_var 2) (fe_one (fe_cmp (op_eqD hr.units) s_eq (fe_var 3) fe_str (nomark _)))))))) sc_L_items.nd)))))
    (fss_one (fs_ret (κn := _) (fe_tup (k := true) (fa_cons (fe_tuple (by exact rfl) B.tuple (fe_ref 5)) (fa_cons (fe_var 6) fa_nil))) (RetK.oth rfl (RetK.oth rfl (RetK.oth rfl RetK.nil)))))))
abbrev s_L_lines : Stmt := topS 65
abbrev N_L_lines : List Str := ["text", "is_none_let", "rows", "part", "row", "right"]
theorem sc_L_lines : FnScope N_L_lines ["text", "is_none_let"] (defScope s_L_lines) := ⟨rfl, rfl, rfl, by decide +kernel, rfl, by decide +kernel, by decide +kernel⟩
noncomputable def b_L_lines : FN.Env → Option Fl :=
  (sSeq (sSet 2 (fLc [3] (iSeq (fM1 (.t (.v true)) dSplit (fVar 0) (fC (.str (" ; " : Str))))) (gNm 3) tYesF (fCall [.t (.v true), .t (.v true), .t (.v true)] (noErr m_L_items) (aCons (fVar 3) (aCons (fC (.str (" " : Str))) (aCons (fVar 1) aNil))))))
  (sRet (fTup (aCons (f1 (.t (.v true)) dTuple (fLc [4, 5] (iSeq (fVar 2)) (gTp (gsCons (gNm 4) (gsCons (gNm 5) gsNil))) tYesF (fVar 4))) (aCons (f1 (.t (.v true)) dAll (fLc [4, 5] (iSeq (fVar 2)) (gTp (gsCons (gNm 4) (gsCons (gNm 5) gsNil))) tYesF (fVar 5))) aNil)))))
noncomputable def m_L_lines : M D := runF [(.v true), (.v true)] (.v true) 4 b_L_lines
theorem ok_L_lines (B : Bt mg) (a : At K mg "_law_lines" s_L_lines ["text", "is_none_let"]) (G_L_items : Kn P w K mg base CX0 2 "_law_items" ["text", "between", "is_none_let"] (spF K mg [(.v true), (.v true), (.v true)] (.v true) (noErr m_L_items))) : Kn P w K mg base CX0 3 "_law_lines" ["text", "is_none_let"] (spF K mg [(.v true), (.v true)] (.v true) (noErr m_L_lines)) := by
  refine fn_ok0 (κl := [(.v true), (.v true), (.v true), (.v true)]) a sc_L_lines rfl ⟨True.intro, True.intro, True.intro⟩ ⟨True.intro, True.intro, True.intro, True.intro, True.intro⟩ rfl fun f cdv A outer s H vs E hv hr => ?_
  match vs, hv with
  | [v0, v1], _ =>
  refine ⟨[(.v true), (.v true), (.v true), (.v true), (.v true), (.v true)], (RetK.oth rfl (RetK.oth rfl RetK.nil)), ?_⟩
  show FSs _ _ _ [(.v true), (.v true), (.v true), (.v true), (.v true), (.v true)] _ _ _
  exact (fss_cons (fs_setLc (i := 2) (kd := (.v _)) (own := [("part", 3)]) (sl := [3]) rfl rfl sc_L_lines.nd rfl (sw_true rfl rfl rfl (by decide +kernel)) (fi_seq (fe_split (b := true) (kd := (.v true)) rfl (fe_var 0) fe_str)) (blkOk_by (N := N_L_lines) (sc := defScope s_L_lines) (by decide +kernel)) (by repeat (first | exact True.intro | refine And.intro True.intro ?_)) (by decide) (fun _ _ _ _ _ => (fg_nameK (i := 3) sc_L_lines.nd)) (fun _ _ _ _ _ => fts_nil) (fun _ _ _ _ _ => (fe_fn G_L_items (hr.mono (by decide)) (Fits.t (nofix_ne True.intro) (Fits.t (nofix_ne True.intro) (Fits.t (nofix_ne True.intro) Fits.nil))) (fa_cons (fe_var 3) (fa_cons fe_str (fa_cons (fe_var 1) fa_nil))))))
    (fss_one (fs_ret (κn := _) (fe_tup (k := true) (fa_cons (fe_tuple (by exact rfl) B.tuple (fe_lc (kd := (.v _)) (own := [("row", 4), ("right", 5)]) (sl := [4, 5]) rfl rfl sc_L_lines.nd (fi_seq (fe_var 2)) (blkOk_by (N := N_L_lines) (sc := defScope s_L_lines) (by decide +kernel)) (by repeat (first | exact True.intro | refine And.intro True.intro ?_)) (by decide) (fun _ _ _ _ _ => (fg_tup rfl (gs_lenS (gs_lenS gs_len0)) (fgs_cons (fg_nameK (i := 4) sc_L_lines.nd) (fgs_cons (fg_nameK (i := 5) sc_L_lines.nd) fgs_nil)))) (fun _ _ _ _ _ => fts_nil) (fun _ _ _ _ _ => (fe_var 4)))) (fa_cons (fe_all rfl (by exact rfl) B.all (fe_lc (kd := (.v _)) (own := [("row", 4), ("right", 5)]) (sl := [4, 5]) rfl rfl sc_L_lines.nd (fi_seq (fe_var 2)) (blkOk_by (N := N_L_lines) (sc := defScope s_L_lines) (by decide +kernel)) (by repeat (first | exact True.intro | refine And.intro True.intro ?_)) (by decide) (fun _ _ _ _ _ => (fg_tup rfl (gs_lenS (gs_lenS gs_len0)) (fgs_cons (fg_nameK (i := 4) sc_L_lines.nd) (fgs_cons (fg_nameK (i := 5) sc_L_lines.nd) fgs_nil)))) (fun _ _ _ _ _ => fts_nil) (fun _ _ _ _ _ => (fe_var 5)))) fa_nil))) (RetK.oth rfl (RetK.oth rfl RetK.nil)))))
abbrev s_L_unreadable : Stmt := topS 66
abbrev N_L_unreadable : List Str := ["bag", "text", "sign", "at", "way"]
theorem sc_L_unreadable : FnScope N_L_unreadable ["bag", "text"] (defScope s_L_unreadable) := ⟨rfl, rfl, rfl, by decide +kernel, rfl, by decide +kernel, by decide +kernel⟩
noncomputable def b_L_unreadable : FN.Env → Option Fl :=
  (sSeq (sPar 3 4 (aCons (fCall [.r 0, .t (.v true)] (noErr m_L_take) (aCons (fRef 0) (aCons (f2 (.t (.v true)) (.t (.v true)) dAdd (f1 (.t (.v true)) dLen (fVar 1)) (fC (.int 1))) aNil))) (aCons (fCall [.r 0, .t (.v true)] (noErr m_L_take) (aCons (fRef 0) (aCons (fC (.int 4)) aNil))) aNil)))
  (sSeq (sSet 2 (fCall [.r 0, .t (.v true)] (noErr m_L_one_of) (aCons (fRef 0) (aCons (fLst (aCons (fC (.str (" " : Str))) (aCons (fC (.str ("-" : Str))) (aCons (fC (.str ("0" : Str))) (aCons (fC (.str ("1" : Str))) (aCons (fC (.str (";" : Str))) (aCons (fC (.str ("|" : Str))) (aCons (fC (.str ("/" : Str))) (aCons (fC (.str ("," : Str))) (aCons (fC (.str ("  " : Str))) (aCons (fC (.str (" ; " : Str))) (aCons (fC (.str ("x" : Str))) (aCons (fC (.str ("+" : Str))) (aCons (fC (.str ("" : Str))) (aCons (f2 (.t (.v true)) (.t (.v true)) dMulS (fC (.str ("9" : Str))) (fC (.int 31))) (aCons (fC (.str (" | " : Str))) aNil)))))))))))))))) aNil))))
  (sSeq (sIf (fTst (f2 (.t (.v true)) (.t (.v true)) dEq (fVar 4) (fC (.int 0))))
  (sRet (f2 (.t (.v true)) (.t (.v true)) dAdd (f3 (.t (.v true)) (fVar 1) oNone (oSome (fVar 3))) (f3 (.t (.v true)) (fVar 1) (oSome (f2 (.t (.v true)) (.t (.v true)) dAdd (fVar 3) (fC (.int 1)))) oNone)))
  sNx)
  (sSeq (sIf (fTst (f2 (.t (.v true)) (.t (.v true)) dEq (fVar 4) (fC (.int 1))))
  (sRet (f2 (.t (.v true)) (.t (.v true)) dAdd (f2 (.t (.v true)) (.t (.v true)) dAdd (f3 (.t (.v true)) (fVar 1) oNone (oSome (fVar 3))) (fVar 2)) (f3 (.t (.v true)) (fVar 1) (oSome (f2 (.t (.v true)) (.t (.v true)) dAdd (fVar 3) (fC (.int 1)))) oNone)))
  sNx)
  (sRet (f2 (.t (.v true)) (.t (.v true)) dAdd (f2 (.t (.v true)) (.t (.v true)) dAdd (f3 (.t (.v true)) (fVar 1) oNone (oSome (fVar 3))) (fVar 2)) (f3 (.t (.v true)) (fVar 1) (oSome (fVar 3)) oNone)))))))
noncomputable def m_L_unreadable : M D := runF [(.lst (.v true)), (.v true)] (.v true) 3 b_L_unreadable
theorem ok_L_unreadable (B : Bt mg) (a : At K mg "_law_unreadable" s_L_unreadable ["bag", "text"]) (G_L_one_of : Kn P w K mg base CX0 2 "_law_one_of" ["bag", "items"] (spF K mg [(.lst (.v true)), (.v true)] (.v true) (noErr m_L_one_of))) (G_L_take : Kn P w K mg base CX0 1 "_law_take" ["bag", "many"] (spF K mg [(.lst (.v true)), (.v true)] (.v true) (noErr m_L_take))) : Kn P w K mg base CX0 3 "_law_unreadable" ["bag", "text"] (spF K mg [(.lst (.v true)), (.v true)] (.v true) (noErr m_L_unreadable)) := by
  refine fn_ok0 (κl := [(.v true), (.v true), (.v true)]) a sc_L_unreadable rfl ⟨True.intro, True.intro, True.intro⟩ ⟨True.intro, True.intro, True.intro, True.intro⟩ rfl fun f cdv A outer s H vs E hv hr => ?_
  match vs, hv with
  | [v0, v1], _ =>
  refine ⟨[.fix v0 (.lst (.v true)), (.v true), (.v true), (.v true), (.v true)], (RetK.own rfl (RetK.oth rfl RetK.nil)), ?_⟩
  show FSs _ _ _ [.fix v0 (.lst (.v true)), (.v true), (.v true), (.v true), (.v true)] _ _ _
  exact (fss_cons (fs_parK (i := 3) (j := 4) rfl sc_L_unreadable.nd (fa_cons (fe_fn G_L_take (hr.mono (by decide)) (Fits.r (by first | exact .inl ⟨rfl, nofix_ne True.intro⟩ | exact .inr ⟨_, rfl, nofix_ne True.intro⟩) (Fits.t (nofix_ne True.intro) Fits.nil)) (fa_cons (fe_ref 0) (fa_cons (fe_add (fe_len (by exact rfl) B.len (fe_var 1)) fe_int) fa_nil))) (fa_cons (fe_fn G_L_take (hr.mono (by decide)) (Fits.r (by first | exact .inl ⟨rfl, nofix_ne True.intro⟩ | exact .inr ⟨_, rfl, nofix_ne True.intro⟩) (Fits.t (nofix_ne True.intro) Fits.nil)) (fa_cons (fe_ref 0) (fa_cons fe_int fa_nil))) fa_nil)))
    (fss_cons (fs_setK (i := 2) (fe_fn G_L_one_of (hr.mono (by decide)) (Fits.r (by first | exact .inl ⟨rfl, nofix_ne True.intro⟩ | exact .inr ⟨_, rfl, nofix_ne True.intro⟩) (Fits.t (nofix_ne True.intro) Fits.nil)) (fa_cons (fe_ref 0) (fa_cons (fe_lst (k := true) (kd := (.v _)) (fa_cons fe_str (fa_cons fe_str (fa_cons fe_str (fa_cons fe_str (fa_cons fe_str (fa_cons fe_str (fa_cons fe_str (fa_cons fe_str (fa_cons fe_str (fa_cons fe_str (fa_cons fe_str (fa_cons fe_str (fa_cons fe_str (fa_cons (fe_op op_mulS s_mulS fe_str fe_int) (fa_cons fe_str fa_nil)))))))))))))))) fa_nil))) sc_L_unreadable.nd)
    (fss_cons (fs_if (ft_cmp (op_eqD hr.units) s_eq (fe_var 4) fe_int (nomark _))
    (fss_one (fs_ret (κn := _) (fe_add (fe_sl (fe_var 1) fo_none (fo_some (k := true) (fe_var 3))) (fe_sl (fe_var 1) (fo_some (k := true) (fe_add (fe_var 3) fe_int)) fo_none)) (RetK.own rfl (RetK.oth rfl RetK.nil))))
    fss_nil)
    (fss_cons (fs_if (ft_cmp (op_eqD hr.units) s_eq (fe_var 4) fe_int (nomark _))
    (fss_one (fs_ret (κn := _) (fe_add (fe_add (fe_sl (fe_var 1) fo_none (fo_some (k := true) (fe_var 3))) (fe_var 2)) (fe_sl (fe_var 1) (fo_some (k := true) (fe_add (fe_var 3) fe_int)) fo_none)) (RetK.own rfl (RetK.oth rfl RetK.nil))))
    fss_nil)
    (fss_one (fs_ret (κn := _) (fe_add (fe_add (fe_sl (fe_var 1) fo_none (fo_some (k := true) (fe_var 3))) (fe_var 2)) (fe_sl (fe_var 1) (fo_some (k := true) (fe_var 3)) fo_none)) (RetK.own rfl (RetK.oth rfl RetK.nil))))))))
abbrev s_L_word : Stmt := topS 67
abbrev N_L_word : List Str := ["item"]
theorem sc_L_word : FnScope N_L_word ["item"] (defScope s_L_word) := ⟨rfl, rfl, rfl, by decide +kernel, rfl, by decide +kernel, by decide +kernel⟩
noncomputable def b_L_word : FN.Env → Option Fl :=
  (sRet (fIf (fTst (f2 (.t (.v true)) (.t (.v true)) dIs (fVar 0) (fC .none))) (fC (.str ("-" : Str))) (f1 (.t (.v true)) dStr (fVar 0))))
noncomputable def m_L_word : M D := runF [(.v true)] (.v true) 0 b_L_word
theorem ok_L_word (B : Bt mg) (a : At K mg "_law_word" s_L_word ["item"])  : Kn P w K mg base CX0 1 "_law_word" ["item"] (spF K mg [(.v true)] (.v true) (noErr m_L_word)) := by
  refine fn_ok0 (κl := []) a sc_L_word rfl ⟨True.intro, True.intro⟩ True.intro rfl fun f cdv A outer s H vs E hv hr => ?_
  match vs, hv with
  | [v0], _ =>
  refine ⟨[(.v true)], (RetK.oth rfl RetK.nil), ?_⟩
  show FSs _ _ _ [(.v true)] _ _ _
  exact (fss_one (fs_ret (κn := _) (fe_if (ft_cmp op_isA s_is (fe_var 0) fe_non (nomark _)) fe_str (fe_strI (by exact rfl) B.str (fe_var 0))) (RetK.oth rfl RetK.nil)))
abbrev s_L_row_text : Stmt := topS 68
abbrev N_L_row_text : List Str := ["row", "item"]
theorem sc_L_row_text : FnScope N_L_row_text ["row"] (defScope s_L_row_text) := ⟨rfl, rfl, rfl, by decide +kernel, rfl, by decide +kernel, by decide +kernel⟩
noncomputable def b_L_row_text : FN.Env → Option Fl :=
  (sRet (fM1 (.t (.v true)) dJoin (fC (.str (" " : Str))) (fLc [1] (iSeq (fVar 0)) (gNm 1) tYesF (fCall [.t (.v true)] (noErr m_L_word) (aCons (fVar 1) aNil)))))
noncomputable def m_L_row_text : M D := runF [(.v true)] (.v true) 1 b_L_row_text
theorem ok_L_row_text (B : Bt mg) (a : At K mg "_law_row_text" s_L_row_text ["row"]) (G_L_word : Kn P w K mg base CX0 1 "_law_word" ["item"] (spF K mg [(.v true)] (.v true) (noErr m_L_word))) : Kn P w K mg base CX0 2 "_law_row_text" ["row"] (spF K mg [(.v true)] (.v true) (noErr m_L_row_text)) := by
  refine fn_ok0 (κl := [(.v true)]) a sc_L_row_text rfl ⟨True.intro, True.intro⟩ ⟨True.intro, True.intro⟩ rfl fun f cdv A outer s H vs E hv hr => ?_
  match vs, hv with
  | [v0], _ =>
  refine ⟨[(.v true), (.v true)], (RetK.oth rfl RetK.nil), ?_⟩
  show FSs _ _ _ [(.v true), (.v true)] _ _ _
  exact (fss_one (fs_ret (κn := _) (fe_join (k := true) fe_str (fe_lc (kd := (.v _)) (own := [("item", 1)]) (sl := [1]) rfl rfl sc_L_row_text.nd (fi_seq (fe_var 0)) (blkOk_by (N := N_L_row_text) (sc := defScope s_L_row_text) (by decide +kernel)) (by repeat (first | exact True.intro | refine And.intro True.intro ?_)) (by decide) (fun _ _ _ _ _ => (fg_nameK (i := 1) sc_L_row_text.nd)) (fun _ _ _ _ _ => fts_nil) (fun _ _ _ _ _ => (fe_fn G_L_word (hr.mono (by decide)) (Fits.t (nofix_ne True.intro) Fits.nil) (fa_cons (fe_var 1) fa_nil))))) (RetK.oth rfl RetK.nil)))
abbrev s_L_rows_text : Stmt := topS 69
abbrev N_L_rows_text : List Str := ["rows", "row"]
theorem sc_L_rows_text : FnScope N_L_rows_text ["rows"] (defScope s_L_rows_text) := ⟨rfl, rfl, rfl, by decide +kernel, rfl, by decide +kernel, by decide +kernel⟩
noncomputable def b_L_rows_text : FN.Env → Option Fl :=
  (sRet (fM1 (.t (.v true)) dJoin (fC (.str (" ; " : Str))) (fLc [1] (iSeq (fVar 0)) (gNm 1) tYesF (fCall [.t (.v true)] (noErr m_L_row_text) (aCons (fVar 1) aNil)))))
noncomputable def m_L_rows_text : M D := runF [(.v true)] (.v true) 1 b_L_rows_text
theorem ok_L_rows_text (B : Bt mg) (a : At K mg "_law_rows_text" s_L_rows_text ["rows"]) (G_L_row_text : Kn P w K mg base CX0 2 "_law_row_text" ["row"] (spF K mg [(.v true)] (.v true) (noErr m_L_row_text))) : Kn P w K mg base CX0 3 "_law_rows_text" ["rows"] (spF K mg [(.v true)] (.v true) (noErr m_L_rows_text)) := by
  refine fn_ok0 (κl := [(.v true)]) a sc_L_rows_text rfl ⟨True.intro, True.intro⟩ ⟨True.intro, True.intro⟩ rfl fun f cdv A outer s H vs E hv hr => ?_
  match vs, hv with
  | [v0], _ =>
  refine ⟨[(.v true), (.v true)], (RetK.oth rfl RetK.nil), ?_⟩
  show FSs _ _ _ [(.v true), (.v true)] _ _ _
  exact (fss_one (fs_ret (κn := _) (fe_join (k := true) fe_str (fe_lc (kd := (.v _)) (own := [("row", 1)]) (sl := [1]) rfl rfl sc_L_rows_text.nd (fi_seq (fe_var 0)) (blkOk_by (N := N_L_rows_text) (sc := defScope s_L_rows_text) (by decide +kernel)) (by repeat (first | exact True.intro | refine And.intro True.intro ?_)) (by decide) (fun _ _ _ _ _ => (fg_nameK (i := 1) sc_L_rows_text.nd)) (fun _ _ _ _ _ => fts_nil) (fun _ _ _ _ _ => (fe_fn G_L_row_text (hr.mono (by decide)) (Fits.t (nofix_ne True.intro) Fits.nil) (fa_cons (fe_var 1) fa_nil))))) (RetK.oth rfl RetK.nil)))
abbrev s_L_text : Stmt := topS 70
abbrev N_L_text : List Str := ["kind", "value"]
theorem sc_L_text : FnScope N_L_text ["kind", "value"] (defScope s_L_text) := ⟨rfl, rfl, rfl, by decide +kernel, rfl, by decide +kernel, by decide +kernel⟩
noncomputable def b_L_text : FN.Env → Option Fl :=
  (sSeq (sIf (fTst (f2 (.t (.v true)) (.t (.v true)) dEq (fVar 0) (fC (.int 0))))
  (sRet (fIf (fTst (f2 (.t (.v true)) (.t (.v true)) dEq (fVar 1) (fTup aNil))) (fC (.str ("-" : Str))) (fCall [.t (.v true)] (noErr m_L_row_text) (aCons (fVar 1) aNil))))
  sNx)
  (sSeq (sIf (fTst (f2 (.t (.v true)) (.t (.v true)) dEq (fVar 0) (fC (.int 4))))
  (sRet (fM1 (.t (.v true)) dJoin (fC (.str (" | " : Str))) (fLst (aCons (fCall [.t (.v true)] (noErr m_L_row_text) (aCons (f2 (.t (.v true)) (.t (.v true)) dIx (fVar 1) (fC (.int 0))) aNil)) (aCons (fCall [.t (.v true)] (noErr m_L_row_text) (aCons (f2 (.t (.v true)) (.t (.v true)) dIx (fVar 1) (fC (.int 1))) aNil)) (aCons (fCall [.t (.v true)] (noErr m_L_rows_text) (aCons (f2 (.t (.v true)) (.t (.v true)) dIx (fVar 1) (fC (.int 2))) aNil)) aNil))))))
  sNx)
  (sRet (fCall [.t (.v true)] (noErr m_L_rows_text) (aCons (fVar 1) aNil)))))
noncomputable def m_L_text : M D := runF [(.v true), (.v true)] (.v true) 0 b_L_text
theorem ok_L_text (B : Bt mg) (a : At K mg "_law_text" s_L_text ["kind", "value"]) (G_L_row_text : Kn P w K mg base CX0 2 "_law_row_text" ["row"] (spF K mg [(.v true)] (.v true) (noErr m_L_row_text))) (G_L_rows_text : Kn P w K mg base CX0 3 "_law_rows_text" ["rows"] (spF K mg [(.v true)] (.v true) (noErr m_L_rows_text))) : Kn P w K mg base CX0 4 "_law_text" ["kind", "value"] (spF K mg [(.v true), (.v true)] (.v true) (noErr m_L_text)) := by
  refine fn_ok0 (κl := []) a sc_L_text rfl ⟨True.intro, True.intro, True.intro⟩ True.intro rfl fun f cdv A outer s H vs E hv hr => ?_
  match vs, hv with
  | [v0, v1], _ =>
  refine ⟨[(.v true), (.v true)], (RetK.oth rfl (RetK.oth rfl RetK.nil)), ?_⟩
  show FSs _ _ _ [(.v true), (.v true)] _ _ _
  exact (fss_cons (fs_if (ft_cmp (op_eqD hr.units) s_eq (fe_var 0) fe_int (nomark _))
    (fss_one (fs_ret (κn := _) (fe_if (ft_cmp (op_eqD hr.units) s_eq (fe_var 1) (fe_tup (k := true) fa_nil) (nomark _)) fe_str (fe_fn G_L_row_text (hr.mono (by decide)) (Fits.t (nofix_ne True.intro) Fits.nil) (fa_cons (fe_var 1) fa_nil))) (RetK.oth rfl (RetK.oth rfl RetK.nil))))
    fss_nil)
    (fss_cons (fs_if (ft_cmp (op_eqD hr.units) s_eq (fe_var 0) fe_int (nomark _))
    (fss_one (fs_ret (κn := _) (fe_join (k := true) fe_str (fe_lst (k := true) (kd := (.v _)) (fa_cons (fe_fn G_L_row_text (hr.mono (by decide)) (Fits.t (nofix_ne True.intro) Fits.nil) (fa_cons (fe_ix (fe_var 1) fe_int) fa_nil)) (fa_cons (fe_fn G_L_row_text (hr.mono (by decide)) (Fits.t (nofix_ne True.intro) Fits.nil) (fa_cons (fe_ix (fe_var 1) fe_int) fa_nil)) (fa_cons (fe_fn G_L_rows_text (hr.mono (by decide)) (Fits.t (nofix_ne True.intro) Fits.nil) (fa_cons (fe_ix (fe_var 1) fe_int) fa_nil)) fa_nil))))) (RetK.oth rfl (RetK.oth rfl RetK.nil))))
    fss_nil)
    (fss_one (fs_ret (κn := _) (fe_fn G_L_rows_text (hr.mono (by decide)) (Fits.t (nofix_ne True.intro) Fits.nil) (fa_cons (fe_var 1) fa_nil)) (RetK.oth rfl (RetK.oth rfl RetK.nil))))))
abbrev s_L_is_even : Stmt := topS 71
abbrev N_L_is_even : List Str := ["rows", "most", "wide", "row"]
theorem sc_L_is_even : FnScope N_L_is_even ["rows", "most", "wide"] (defScope s_L_is_even) := ⟨rfl, rfl, rfl, by decide +kernel, rfl, by decide +kernel, by decide +kernel⟩
noncomputable def b_L_is_even : FN.Env → Option Fl :=
  (sRet (fAnd (fCh (.t (.v true)) (.t (.v true)) (.t (.v true)) dLe dLe (fC (.int 1)) (f1 (.t (.v true)) dLen (fVar 0)) (fVar 1)) (f1 (.t (.v true)) dAll (fLc [3] (iSeq (fVar 0)) (gNm 3) tYesF (fAnd (fCh (.t (.v true)) (.t (.v true)) (.t (.v true)) dLe dLe (fC (.int 1)) (f1 (.t (.v true)) dLen (fVar 3)) (fVar 2)) (f2 (.t (.v true)) (.t (.v true)) dEq (f1 (.t (.v true)) dLen (fVar 3)) (f1 (.t (.v true)) dLen (f2 (.t (.v true)) (.t (.v true)) dIx (fVar 0) (fC (.int 0))))))))))
noncomputable def m_L_is_even : M D := runF [(.v true), (.v true), (.v true)] (.v true) 1 b_L_is_even
theorem ok_L_is_even (B : Bt mg) (a : At K mg "_law_is_even" s_L_is_even ["rows", "most", "wide"])  : Kn P w K mg base CX0 1 "_law_is_even" ["rows", "most", "wide"] (spF K mg [(.v true), (.v true), (.v true)] (.v true) (noErr m_L_is_even)) := by
  refine fn_ok0 (κl := [(.v true)]) a sc_L_is_even rfl ⟨True.intro, True.intro, True.intro, True.intro⟩ ⟨True.intro, True.intro⟩ rfl fun f cdv A outer s H vs E hv hr => ?_
  match vs, hv with
  | [v0, v1, v2], _ =>
  refine ⟨[(.v true), (.v true), (.v true), (.v true)], (RetK.oth rfl (RetK.oth rfl (RetK.oth rfl RetK.nil))), ?_⟩
  show FSs _ _ _ [(.v true), (.v true), (.v true), (.v true)] _ _ _
  exact (fss_one (fs_ret (κn := _) (fe_and (fe_ch op_le s_le op_le s_le fe_int (fe_len (by exact rfl) B.len (fe_var 0)) (fe_var 1)) (fe_one (fe_all rfl (by exact rfl) B.all (fe_lc (kd := (.v _)) (own := [("row", 3)]) (sl := [3]) rfl rfl sc_L_is_even.nd (fi_seq (fe_var 0)) (blkOk_by (N := N_L_is_even) (sc := defScope s_L_is_even) (by decide +kernel)) (by repeat (first | exact True.intro | refine And.intro True.intro ?_)) (by decide) (fun _ _ _ _ _ => (fg_nameK (i := 3) sc_L_is_even.nd)) (fun _ _ _ _ _ => fts_nil) (fun _ _ _ _ _ => (fe_and (fe_ch op_le s_le op_le s_le fe_int (fe_len (by exact rfl) B.len (fe_var 3)) (fe_var 2)) (fe_one (fe_cmp (op_eqD hr.units) s_eq (fe_len (by exact rfl) B.len (fe_var 3)) (fe_len (by exact rfl) B.len (fe_ix (fe_var 0) fe_int)) (nomark _))))))))) (RetK.oth rfl (RetK.oth rfl (RetK.oth rfl RetK.nil)))))
abbrev s_L_are_from_0 : Stmt := topS 72
abbrev N_L_are_from_0 : List Str := ["rows", "row", "item"]
theorem sc_L_are_from_0 : FnScope N_L_are_from_0 ["rows"] (defScope s_L_are_from_0) := ⟨rfl, rfl, rfl, by decide +kernel, rfl, by decide +kernel, by decide +kernel⟩
noncomputable def b_L_are_from_0 : FN.Env → Option Fl :=
  (sRet (f1 (.t (.v true)) dAll (fLc [1] (iSeq (fVar 0)) (gNm 1) tYesF (f1 (.t (.v true)) dAll (fLc [2] (iSeq (fVar 1)) (gNm 2) tYesF (fOr (f2 (.t (.v true)) (.t (.v true)) dIs (fVar 2) (fC .none)) (f2 (.t (.v true)) (.t (.v true)) dGe (fVar 2) (fC (.int 0)))))))))
noncomputable def m_L_are_from_0 : M D := runF [(.v true)] (.v true) 2 b_L_are_from_0
theorem ok_L_are_from_0 (B : Bt mg) (a : At K mg "_law_are_from_0" s_L_are_from_0 ["rows"])  : Kn P w K mg base CX0 1 "_law_are_from_0" ["rows"] (spF K mg [(.v true)] (.v true) (noErr m_L_are_from_0)) := by
  refine fn_ok0 (κl := [(.v true), (.v true)]) a sc_L_are_from_0 rfl ⟨True.intro, True.intro⟩ ⟨True.intro, True.intro, True.intro⟩ rfl fun f cdv A outer s H vs E hv hr => ?_
  match vs, hv with
  | [v0], _ =>
  refine ⟨[(.v true), (.v true), (.v true)], (RetK.oth rfl RetK.nil), ?_⟩
  show FSs _ _ _ [(.v true), (.v true), (.v true)] _ _ _
  exact (fss_one (fs_ret (κn := _) (fe_all rfl (by exact rfl) B.all (fe_lc (kd := (.v _)) (own := [("row", 1)]) (sl := [1]) rfl rfl sc_L_are_from_0.nd (fi_seq (fe_var 0)) (blkOk_by (N := N_L_are_from_0) (sc := defScope s_L_are_from_0) (by decide +kernel)) (by repeat (first | exact True.intro | refine And.intro True.intro ?_)) (by decide) (fun _ _ _ _ _ => (fg_nameK (i := 1) sc_L_are_from_0.nd)) (fun _ _ _ _ _ => fts_nil) (fun _ _ _ _ _ => (fe_all rfl (by exact rfl) B.all (fe_lc (kd := (.v _)) (own := [("item", 2)]) (sl := [2]) rfl rfl sc_L_are_from_0.nd (fi_seq (fe_var 1)) (blkOk_by (N := N_L_are_from_0) (sc := _) (by kernel_rfl)) (by repeat (first | exact True.intro | refine And.intro True.intro ?_)) (by decide) (fun _ _ _ _ _ => (fg_nameK (i := 2) sc_L_are_from_0.nd)) (fun _ _ _ _ _ => fts_nil) (fun _ _ _ _ _ => (fe_or (fe_cmp op_isA s_is (fe_var 2) fe_non (nomark _)) (fe_one (fe_cmp op_ge s_ge (fe_var 2) fe_int (nomark _)))))))))) (RetK.oth rfl RetK.nil)))
abbrev s_L_found : Stmt := topS 73
abbrev N_L_found : List Str := ["kind", "text", "parts", "right", "rows", "found", "one", "columns", "other", "limits", "third", "row", "item"]
theorem sc_L_found : FnScope N_L_found ["kind", "text"] (defScope s_L_found) := ⟨rfl, rfl, rfl, by decide +kernel, rfl, by decide +kernel, by decide +kernel⟩
noncomputable def b_L_found : FN.Env → Option Fl :=
  (sSeq (sIf (fTst (f2 (.t (.v true)) (.t (.v true)) dEq (fVar 0) (fC (.int 0))))
  (sSeq (sAsg (gTp (gsCons (gNm 5) (gsCons (gNm 3) gsNil))) (fCall [.t (.v true), .t (.v true), .t (.v true)] (noErr m_L_items) (aCons (fVar 1) (aCons (fC (.str (" " : Str))) (aCons (fC (.bool false)) aNil)))))
  (sRet (fIf (fTst (f2 (.t (.v true)) (.t (.v true)) dEq (fVar 1) (fC (.str ("-" : Str))))) (fLst (aCons (fTup aNil) aNil)) (fIf (tAndF (fTru (.t (.v true)) (fVar 3)) (fTst (f2 (.t (.v true)) (.t (.v true)) dLe (f1 (.t (.v true)) dLen (fVar 5)) (fC (.int 20))))) (fLst (aCons (fVar 5) aNil)) (fLst aNil)))))
  sNx)
  (sSeq (sIf (fTst (f2 (.t (.v true)) (.t (.v true)) dEq (fVar 0) (fC (.int 4))))
  (sSeq (sSet 2 (fM1 (.t (.v true)) dSplit (fVar 1) (fC (.str (" | " : Str)))))
  (sSeq (sIf (fTst (f2 (.t (.v true)) (.t (.v true)) dNe (f1 (.t (.v true)) dLen (fVar 2)) (fC (.int 3))))
  (sRet (fLst aNil))
  sNx)
  (sSeq (sAsg (gTp (gsCons (gNm 4) (gsCons (gNm 6) gsNil))) (fCall [.t (.v true), .t (.v true)] (noErr m_L_lines) (aCons (f2 (.t (.v true)) (.t (.v true)) dIx (fVar 2) (fC (.int 0))) (aCons (fC (.bool false)) aNil))))
  (sSeq (sAsg (gTp (gsCons (gNm 7) (gsCons (gNm 8) gsNil))) (fCall [.t (.v true), .t (.v true)] (noErr m_L_lines) (aCons (f2 (.t (.v true)) (.t (.v true)) dIx (fVar 2) (fC (.int 1))) (aCons (fC (.bool false)) aNil))))
  (sSeq (sAsg (gTp (gsCons (gNm 9) (gsCons (gNm 10) gsNil))) (fCall [.t (.v true), .t (.v true)] (noErr m_L_lines) (aCons (f2 (.t (.v true)) (.t (.v true)) dIx (fVar 2) (fC (.int 2))) (aCons (fC (.bool true)) aNil))))
  (sSeq (sIf (tOrF (tNotF (fTru (.t (.v true)) (fVar 6))) (tOrF (tNotF (fTru (.t (.v true)) (fVar 8))) (tOrF (tNotF (fTru (.t (.v true)) (fVar 10))) (tOrF (fTst (f2 (.t (.v true)) (.t (.v true)) dNe (f1 (.t (.v true)) dLen (fVar 4)) (fC (.int 1)))) (fTst (f2 (.t (.v true)) (.t (.v true)) dNe (f1 (.t (.v true)) dLen (fVar 7)) (fC (.int 1))))))))
  (sRet (fLst aNil))
  sNx)
  (sSeq (sSet 3 (fAnd (fCall [.t (.v true), .t (.v true), .t (.v true)] (noErr m_L_is_even) (aCons (fVar 4) (aCons (fC (.int 1)) (aCons (fC (.int 5)) aNil)))) (fAnd (fCall [.t (.v true), .t (.v true), .t (.v true)] (noErr m_L_is_even) (aCons (fVar 7) (aCons (fC (.int 1)) (aCons (fC (.int 5)) aNil)))) (fCall [.t (.v true), .t (.v true), .t (.v true)] (noErr m_L_is_even) (aCons (fVar 9) (aCons (fC (.int 5)) (aCons (fC (.int 5)) aNil)))))))
  (sSeq (sSet 3 (fAnd (fVar 3) (fAnd (f2 (.t (.v true)) (.t (.v true)) dEq (f1 (.t (.v true)) dLen (fVar 9)) (f1 (.t (.v true)) dLen (f2 (.t (.v true)) (.t (.v true)) dIx (fVar 4) (fC (.int 0))))) (f2 (.t (.v true)) (.t (.v true)) dEq (f1 (.t (.v true)) dLen (f2 (.t (.v true)) (.t (.v true)) dIx (fVar 9) (fC (.int 0)))) (f1 (.t (.v true)) dLen (f2 (.t (.v true)) (.t (.v true)) dIx (fVar 7) (fC (.int 0))))))))
  (sRet (fIf (tAndF (fTru (.t (.v true)) (fVar 3)) (fTru (.t (.v true)) (fCall [.t (.v true)] (noErr m_L_are_from_0) (aCons (f2 (.t (.v true)) (.t (.v true)) dAdd (f2 (.t (.v true)) (.t (.v true)) dAdd (fVar 4) (fVar 7)) (fVar 9)) aNil)))) (fLst (aCons (fTup (aCons (f2 (.t (.v true)) (.t (.v true)) dIx (fVar 4) (fC (.int 0))) (aCons (f2 (.t (.v true)) (.t (.v true)) dIx (fVar 7) (fC (.int 0))) (aCons (fVar 9) aNil)))) aNil)) (fLst aNil)))))))))))
  sNx)
  (sSeq (sAsg (gTp (gsCons (gNm 4) (gsCons (gNm 3) gsNil))) (fCall [.t (.v true), .t (.v true)] (noErr m_L_lines) (aCons (fVar 1) (aCons (f2 (.t (.v true)) (.t (.v true)) dEq (fVar 0) (fC (.int 3))) aNil))))
  (sSeq (sIf (tOrF (tNotF (fTru (.t (.v true)) (fVar 3))) (tNotF (fTru (.t (.v true)) (fCall [.t (.v true)] (noErr m_L_are_from_0) (aCons (fVar 4) aNil)))))
  (sRet (fLst aNil))
  sNx)
  (sSeq (sIf (fTst (f2 (.t (.v true)) (.t (.v true)) dEq (fVar 0) (fC (.int 2))))
  (sSet 3 (f1 (.t (.v true)) dAll (fLc [11] (iSeq (fVar 4)) (gNm 11) tYesF (f1 (.t (.v true)) dAll (fLc [12] (iSeq (fVar 11)) (gNm 12) tYesF (f2 (.t (.v true)) (.t (.v true)) dIn (fVar 12) (fTup (aCons (fC (.int 0)) (aCons (fC (.int 1)) aNil)))))))))
  sNx)
  (sRet (fIf (tAndF (fTru (.t (.v true)) (fVar 3)) (fTru (.t (.v true)) (fCall [.t (.v true), .t (.v true), .t (.v true)] (noErr m_L_is_even) (aCons (fVar 4) (aCons (f2 (.t (.v true)) (.t (.v true)) dIx (fLst (aCons (fC (.int 0)) (aCons (fC (.int 7)) (aCons (fC (.int 7)) (aCons (fC (.int 6)) aNil))))) (fVar 0)) (aCons (f2 (.t (.v true)) (.t (.v true)) dIx (fLst (aCons (fC (.int 0)) (aCons (fC (.int 8)) (aCons (fC (.int 8)) (aCons (fC (.int 7)) aNil))))) (fVar 0)) aNil)))))) (fLst (aCons (fVar 4) aNil)) (fLst aNil))))))))
noncomputable def m_L_found : M D := runF [(.v true), (.v true)] (.v true) 11 b_L_found
theorem ok_L_found (B : Bt mg) (a : At K mg "_law_found" s_L_found ["kind", "text"]) (G_L_are_from_0 : Kn P w K mg base CX0 1 "_law_are_from_0" ["rows"] (spF K mg [(.v true)] (.v true) (noErr m_L_are_from_0))) (G_L_is_even : Kn P w K mg base CX0 1 "_law_is_even" ["rows", "most", "wide"] (spF K mg [(.v true), (.v true), (.v true)] (.v true) (noErr m_L_is_even))) (G_L_items : Kn P w K mg base CX0 2 "_law_items" ["text", "between", "is_none_let"] (spF K mg [(.v true), (.v true), (.v true)] (.v true) (noErr m_L_items))) (G_L_lines : Kn P w K mg base CX0 3 "_law_lines" ["text", "is_none_let"] (spF K mg [(.v true), (.v true)] (.v true) (noErr m_L_lines))) : Kn P w K mg base CX0 4 "_law_found" ["kind", "text"] (spF K mg [(.v true), (.v true)] (.v true) (noErr m_L_found)) := by
  refine fn_ok0 (κl := [(.v true), (.v true), (.v true), (.v true), (.v true), (.v true), (.v true), (.v true), (.v true), (.v true), (.v true)]) a sc_L_found rfl ⟨True.intro, True.intro, True.intro⟩ ⟨True.intro, True.intro, True.intro, True.intro, True.intro, True.intro, True.intro, True.intro, True.intro, True.intro, True.intro, True.intro⟩ rfl fun f cdv A outer s H vs E hv hr => ?_
  match vs, hv with
  | [v0, v1], _ =>
  refine ⟨[(.v true), (.v true), (.v true), (.v true), (.v true), (.v true), (.v true), (.v true), (.v true), (.v true), (.v true), (.v true), (.v true)], (RetK.oth rfl (RetK.oth rfl RetK.nil)), ?_⟩
  show FSs _ _ _ [(.v true), (.v true), (.v true), (.v true), (.v true), (.v true), (.v true), (.v true), (.v true), (.v true), (.v true), (.v true), (.v true)] _ _ _
  exact (fss_cons (fs_if (ft_cmp (op_eqD hr.units) s_eq (fe_var 0) fe_int (nomark _))
    (fss_cons (fs_asg (fe_fn G_L_items (hr.mono (by decide)) (Fits.t (nofix_ne True.intro) (Fits.t (nofix_ne True.intro) (Fits.t (nofix_ne True.intro) Fits.nil))) (fa_cons (fe_var 1) (fa_cons fe_str (fa_cons fe_bl fa_nil)))) (fg_tup rfl (gs_lenS (gs_lenS gs_len0)) (fgs_cons (fg_nameK (i := 5) sc_L_found.nd) (fgs_cons (fg_nameK (i := 3) sc_L_found.nd) fgs_nil))))
    (fss_one (fs_ret (κn := _) (fe_if (ft_cmp (op_eqD hr.units) s_eq (fe_var 1) fe_str (nomark _)) (fe_lst (k := true) (kd := (.v _)) (fa_cons (fe_tup (k := true) fa_nil) fa_nil)) (fe_if (ft_w (fw_and (ft_tru (fe_var 3)) (fw_and1 (ft_cmp op_le s_le (fe_len (by exact rfl) B.len (fe_var 5)) fe_int (nomark _))))) (fe_lst (k := true) (kd := (.v _)) (fa_cons (fe_var 5) fa_nil)) (fe_lst (k := true) (kd := (.v _)) fa_nil))) (RetK.oth rfl (RetK.oth rfl RetK.nil)))))
    fss_nil)
    (fss_cons (fs_if (ft_cmp (op_eqD hr.units) s_eq (fe_var 0) fe_int (nomark _))
    (fss_cons (fs_setK (i := 2) (fe_split (b := true) (kd := (.v true)) rfl (fe_var 1) fe_str) sc_L_found.nd)
    (fss_cons (fs_if (ft_cmp (op_neD hr.units) s_ne (fe_len (by exact rfl) B.len (fe_var 2)) fe_int (nomark _))
    (fss_one (fs_ret (κn := _) (fe_lst (k := true) (kd := (.v _)) fa_nil) (RetK.oth rfl (RetK.oth rfl RetK.nil))))
    fss_nil)
    (fss_cons (fs_asg (fe_fn G_L_lines (hr.mono (by decide)) (Fits.t (nofix_ne True.intro) (Fits.t (nofix_ne True.intro) Fits.nil)) (fa_cons (fe_ix (fe_var 2) fe_int) (fa_cons fe_bl fa_nil))) (fg_tup rfl (gs_lenS (gs_lenS gs_len0)) (fgs_cons (fg_nameK (i := 4) sc_L_found.nd) (fgs_cons (fg_nameK (i := 6) sc_L_found.nd) fgs_nil))))
    (fss_cons (fs_asg (fe_fn G_L_lines (hr.mono (by decide)) (Fits.t (nofix_ne True.intro) (Fits.t (nofix_ne True.intro) Fits.nil)) (fa_cons (fe_ix (fe_var 2) fe_int) (fa_cons fe_bl fa_nil))) (fg_tup rfl (gs_lenS (gs_lenS gs_len0)) (fgs_cons (fg_nameK (i := 7) sc_L_found.nd) (fgs_cons (fg_nameK (i := 8) sc_L_found.nd) fgs_nil))))
    (fss_cons (fs_asg (fe_fn G_L_lines (hr.mono (by decide)) (Fits.t (nofix_ne True.intro) (Fits.t (nofix_ne True.intro) Fits.nil)) (fa_cons (fe_ix (fe_var 2) fe_int) (fa_cons fe_bl fa_nil))) (fg_tup rfl (gs_lenS (gs_lenS gs_len0)) (fgs_cons (fg_nameK (i := 9) sc_L_found.nd) (fgs_cons (fg_nameK (i := 10) sc_L_found.nd) fgs_nil))))
    (fss_cons (fs_if (ft_w (fw_or (ft_not (ft_tru (fe_var 6))) (fw_or (ft_not (ft_tru (fe_var 8))) (fw_or (ft_not (ft_tru (fe_var 10))) (fw_or (ft_cmp (op_neD hr.units) s_ne (fe_len (by exact rfl) B.len (fe_var 4)) fe_int (nomark _)) (fw_or1 (ft_cmp (op_neD hr.units) s_ne (fe_len (by exact rfl) B.len (fe_var 7)) fe_int (nomark _))))))))
    (fss_one (fs_ret (κn := _) (fe_lst (k := true) (kd := (.v _)) fa_nil) (RetK.oth rfl (RetK.oth rfl RetK.nil))))
    fss_nil)
    (fss_cons (fs_setK (i := 3) (fe_and (fe_fn G_L_is_even (hr.mono (by decide)) (Fits.t (nofix_ne True.intro) (Fits.t (nofix_ne True.intro) (Fits.t (nofix_ne True.intro) Fits.nil))) (fa_cons (fe_var 4) (fa_cons fe_int (fa_cons fe_int fa_nil)))) (fe_and (fe_fn G_L_is_even (hr.mono (by decide)) (Fits.t (nofix_ne True.intro) (Fits.t (nofix_ne True.intro) (Fits.t (nofix_ne True.intro) Fits.nil))) (fa_cons (fe_var 7) (fa_cons fe_int (fa_cons fe_int fa_nil)))) (fe_one (fe_fn G_L_is_even (hr.mono (by decide)) (Fits.t (nofix_ne True.intro) (Fits.t (nofix_ne True.intro) (Fits.t (nofix_ne True.intro) Fits.nil))) (fa_cons (fe_var 9) (fa_cons fe_int (fa_cons fe_int fa_nil))))))) sc_L_found.nd)
    (fss_cons (fs_setK (i := 3) (fe_and (fe_var 3) (fe_and (fe_cmp (op_eqD hr.units) s_eq (fe_len (by exact rfl) B.len (fe_var 9)) (fe_len (by exact rfl) B.len (fe_ix (fe_var 4) fe_int)) (nomark _)) (fe_one (fe_cmp (op_eqD hr.units) s_eq (fe_len (by exact rfl) B.len (fe_ix (fe_var 9) fe_int)) (fe_len (by exact rfl) B.len (fe_ix (fe_var 7) fe_int)) (nomark _))))) sc_L_found.nd)
    (fss_one (fs_ret (κn := _) (fe_if (ft_w (fw_and (ft_tru (fe_var 3)) (fw_and1 (ft_tru (fe_fn G_L_are_from_0 (hr.mono (by decide)) (Fits.t (nofix_ne True.intro) Fits.nil) (fa_cons (fe_add (fe_add (fe_var 4) (fe_var 7)) (fe_var 9)) fa_nil)))))) (fe_lst (k := true) (kd := (.v _)) (fa_cons (fe_tup (k := true) (fa_cons (fe_ix (fe_var 4) fe_int) (fa_cons (fe_ix (fe_var 7) fe_int) (fa_cons (fe_var 9) fa_nil)))) fa_nil)) (fe_lst (k := true) (kd := (.v _)) fa_nil)) (RetK.oth rfl (RetK.oth rfl RetK.nil))))))))))))
    fss_nil)
    (fss_cons (fs_asg (fe_fn G_L_lines (hr.mono (by decide)) (Fits.t (nofix_ne True.intro) (Fits.t (nofix_ne True.intro) Fits.nil)) (fa_cons (fe_var 1) (fa_cons (fe_cmp (op_eqD hr.units) s_eq (fe_var 0) fe_int (nomark _)) fa_nil))) (fg_tup rfl (gs_lenS (gs_lenS gs_len0)) (fgs_cons (fg_nameK (i := 4) sc_L_found.nd) (fgs_cons (fg_nameK (i := 3) sc_L_found.nd) fgs_nil))))
    (fss_cons (fs_if (ft_w (fw_or (ft_not (ft_tru (fe_var 3))) (fw_or1 (ft_not (ft_tru (fe_fn G_L_are_from_0 (hr.mono (by decide)) (Fits.t (nofix_ne True.intro) Fits.nil) (fa_cons (fe_var 4) fa_nil)))))))
    (fss_one (fs_ret (κn := _) (fe_lst (k := true) (kd := (.v _)) fa_nil) (RetK.oth rfl (RetK.oth rfl RetK.nil))))
    fss_nil)
    (fss_cons (fs_if (ft_cmp (op_eqD hr.units) s_eq (fe_var 0) fe_int (nomark _))
    (fss_one (fs_setK (i := 3) (fe_all rfl (by exact rfl) B.all (fe_lc (kd := (.v _)) (own := [("row", 11)]) (sl := [11]) rfl rfl sc_L_found.nd (fi_seq (fe_var 4)) (blkOk_by (N := N_L_found) (sc := defScope s_L_found) (by decide +kernel)) (by repeat (first | exact True.intro | refine And.intro True.intro ?_)) (by decide) (fun _ _ _ _ _ => (fg_nameK (i := 11) sc_L_found.nd)) (fun _ _ _ _ _ => fts_nil) (fun _ _ _ _ _ => (fe_all rfl (by exact rfl) B.all (fe_lc (kd := (.v _)) (own := [("item", 12)]) (sl := [12]) rfl rfl sc_L_found.nd (fi_seq (fe_var 11)) (blkOk_by (N := N_L_found) (sc := _) (by kernel_rfl)) (by repeat (first | exact True.intro | refine And.intro True.intro ?_)) (by decide) (fun _ _ _ _ _ => (fg_nameK (i := 12) sc_L_found.nd)) (fun _ _ _ _ _ => fts_nil) (fun _ _ _ _ _ => (fe_cmp (op_inA hr) s_in (fe_var 12) (fe_tup (k := true) (fa_cons fe_int (fa_cons fe_int fa_nil))) (by rfl)))))))) sc_L_found.nd))
    fss_nil)
    (fss_one (fs_ret (κn := _) (fe_if (ft_w (fw_and (ft_tru (fe_var 3)) (fw_and1 (ft_tru (fe_fn G_L_is_even (hr.mono (by decide)) (Fits.t (nofix_ne True.intro) (Fits.t (nofix_ne True.intro) (Fits.t (nofix_ne True.intro) Fits.nil))) (fa_cons (fe_var 4) (fa_cons (fe_ix (fe_lst (k := true) (kd := (.v _)) (fa_cons fe_int (fa_cons fe_int (fa_cons fe_int (fa_cons fe_int fa_nil))))) (fe_var 0)) (fa_cons (fe_ix (fe_lst (k := true) (kd := (.v _)) (fa_cons fe_int (fa_cons fe_int (fa_cons fe_int (fa_cons fe_int fa_nil))))) (fe_var 0)) fa_nil)))))))) (fe_lst (k := true) (kd := (.v _)) (fa_cons (fe_var 4) fa_nil)) (fe_lst (k := true) (kd := (.v _)) fa_nil)) (RetK.oth rfl (RetK.oth rfl RetK.nil)))))))))
abbrev s_L_read : Stmt := topS 74
abbrev N_L_read : List Str := ["kind", "text", "found", "e"]
theorem sc_L_read : FnScope N_L_read ["kind", "text"] (defScope s_L_read) := ⟨rfl, rfl, rfl, by decide +kernel, rfl, by decide +kernel, by decide +kernel⟩
noncomputable def b_L_read : FN.Env → Option Fl :=
  (sSeq (sSet 2 (fLst aNil))
  (sSeq (sTry sel_Unreadable 3
  (sIf (fTst (f2 (.t (.v true)) (.t (.v true)) dEq (fVar 0) (fC (.int 0))))
  (sSet 2 (fLst (aCons (fCall [.t (.v true)] m_read_numbers (aCons (fVar 1) aNil)) aNil)))
  (sIf (fTst (f2 (.t (.v true)) (.t (.v true)) dEq (fVar 0) (fC (.int 1))))
  (sSet 2 (fLst (aCons (fCall [.t (.v true)] m_read_table (aCons (fVar 1) aNil)) aNil)))
  (sIf (fTst (f2 (.t (.v true)) (.t (.v true)) dEq (fVar 0) (fC (.int 2))))
  (sSet 2 (fLst (aCons (fCall [.t (.v true)] m_read_board (aCons (fVar 1) aNil)) aNil)))
  (sSet 2 (fLst (aCons (fIf (fTst (f2 (.t (.v true)) (.t (.v true)) dEq (fVar 0) (fC (.int 3)))) (fCall [.t (.v true)] m_read_costs (aCons (fVar 1) aNil)) (fCall [.t (.v true)] m_read_frame (aCons (fVar 1) aNil))) aNil))))))
  (sSet 2 (fLst (aCons (fC (.str ("unreadable" : Str))) (aCons (fXv 3) (aCons (fIsX 3) aNil))))))
  (sRet (fVar 2))))
noncomputable def m_L_read : M D := runF [(.v true), (.v true)] (.v true) 2 b_L_read
theorem ok_L_read (B : Bt mg) (a : At K mg "_law_read" s_L_read ["kind", "text"]) (ER : Er P K mg DE fI C_StandError C_Unreadable) (G_read_board : Kn P w K mg base (L2.CX P w) 8 "read_board" ["text"] (spF K mg [(.v true)] (.v true) m_read_board)) (G_read_costs : Kn P w K mg base (L2.CX P w) 8 "read_costs" ["text"] (spF K mg [(.v true)] (.v true) m_read_costs)) (G_read_frame : Kn P w K mg base (L2.CX P w) 8 "read_frame" ["text"] (spF K mg [(.v true)] (.v true) m_read_frame)) (G_read_numbers : Kn P w K mg base (L2.CX P w) 6 "read_numbers" ["text"] (spF K mg [(.v true)] (.v true) m_read_numbers)) (G_read_table : Kn P w K mg base (L2.CX P w) 8 "read_table" ["text"] (spF K mg [(.v true)] (.v true) m_read_table)) : Kn P w K mg base CX0 9 "_law_read" ["kind", "text"] (spF K mg [(.v true), (.v true)] (.v true) (noErr m_L_read)) := by
  refine fn_ok0 (κl := [(.v true), (.v true)]) a sc_L_read rfl ⟨True.intro, True.intro, True.intro⟩ ⟨True.intro, True.intro, True.intro⟩ rfl fun f cdv A outer s H vs E hv hr => ?_
  match vs, hv with
  | [v0, v1], _ =>
  refine ⟨[(.v true), (.v true), (.v true), (.v true)], (RetK.oth rfl (RetK.oth rfl RetK.nil)), ?_⟩
  show FSs _ _ _ [(.v true), (.v true), (.v true), (.v true)] _ _ _
  exact (fss_cons (fs_setK (i := 2) (fe_lst (k := true) (kd := (.v _)) fa_nil) sc_L_read.nd)
    (fss_cons (fs_try (k := (.v true)) (κs := [(.v true), (.v true), (.v true), (.v true)]) (i := 3) (selk_Unreadable ER) ⟨by exact rfl, by decide, .inl ER.m_Unreadable⟩ takesF sc_L_read.nd
    (fun _ _ _ tk1 _ => (fss_one (fs_if (ft_cmp (op_eqD hr.units) s_eq (fe_var 0) fe_int (nomark _))
    (fss_one (fs_setK (i := 2) (fe_lst (k := true) (kd := (.v _)) (fa_cons (fe_fnX G_read_numbers tk1 (hr.mono (by decide)) (Fits.t (nofix_ne True.intro) Fits.nil) (fa_cons (fe_var 1) fa_nil)) fa_nil)) sc_L_read.nd))
    (fss_one (fs_if (ft_cmp (op_eqD hr.units) s_eq (fe_var 0) fe_int (nomark _))
    (fss_one (fs_setK (i := 2) (fe_lst (k := true) (kd := (.v _)) (fa_cons (fe_fnX G_read_table tk1 (hr.mono (by decide)) (Fits.t (nofix_ne True.intro) Fits.nil) (fa_cons (fe_var 1) fa_nil)) fa_nil)) sc_L_read.nd))
    (fss_one (fs_if (ft_cmp (op_eqD hr.units) s_eq (fe_var 0) fe_int (nomark _))
    (fss_one (fs_setK (i := 2) (fe_lst (k := true) (kd := (.v _)) (fa_cons (fe_fnX G_read_board tk1 (hr.mono (by decide)) (Fits.t (nofix_ne True.intro) Fits.nil) (fa_cons (fe_var 1) fa_nil)) fa_nil)) sc_L_read.nd))
    (fss_one (fs_setK (i := 2) (fe_lst (k := true) (kd := (.v _)) (fa_cons (fe_if (ft_cmp (op_eqD hr.units) s_eq (fe_var 0) fe_int (nomark _)) (fe_fnX G_read_costs tk1 (hr.mono (by decide)) (Fits.t (nofix_ne True.intro) Fits.nil) (fa_cons (fe_var 1) fa_nil)) (fe_fnX G_read_frame tk1 (hr.mono (by decide)) (Fits.t (nofix_ne True.intro) Fits.nil) (fa_cons (fe_var 1) fa_nil))) fa_nil)) sc_L_read.nd)))))))))
    (fun _ _ _ _ _ hz hf => (fss_one (fs_setK (i := 2) (fe_lst (k := true) (kd := (.v _)) (fa_cons fe_str (fa_cons (fe_xv (i := 3) hz hf) (fa_cons (fe_isX hz hf (by exact rfl) B.isinstance (by exact rfl) ER.m_StandError) fa_nil)))) sc_L_read.nd))))
    (fss_one (fs_ret (κn := _) (fe_var 2) (RetK.oth rfl (RetK.oth rfl RetK.nil))))))
abbrev s_L_drawn : Stmt := topS 75
abbrev N_L_drawn : List Str := ["bag", "kind", "items", "rows", "sums", "m", "n", "i", "k", "j"]
theorem sc_L_drawn : FnScope N_L_drawn ["bag", "kind"] (defScope s_L_drawn) := ⟨rfl, rfl, rfl, by decide +kernel, rfl, by decide +kernel, by decide +kernel⟩
noncomputable def b_L_drawn : FN.Env → Option Fl :=
  (sSeq (sIf (fTst (f2 (.t (.v true)) (.t (.v true)) dEq (fVar 1) (fC (.int 0))))
  (sRet (f1 (.t (.v true)) dTuple (fLc [8] (iRg1 (.t (.v true)) (fCall [.r 0, .t (.v true)] (noErr m_L_take) (aCons (fRef 0) (aCons (fC (.int 21)) aNil)))) (gNm 8) tYesF (fCall [.r 0, .t (.v true)] (noErr m_L_one_of) (aCons (fRef 0) (aCons (fLst (aCons (fC (.int 0)) (aCons (fC (.int 7)) (aCons (f1 (.t (.v true)) dNeg (fC (.int 12))) (aCons (f2 (.t (.v true)) (.t (.v true)) dPow (fC (.int 10)) (fC (.int 29))) (aCons (f1 (.t (.v true)) dNeg (f2 (.t (.v true)) (.t (.v true)) dPow (fC (.int 10)) (fC (.int 29)))) aNil)))))) aNil))))))
  sNx)
  (sSeq (sAsg (gTp (gsCons (gNm 5) (gsCons (gNm 6) gsNil))) (fTup (aCons (f2 (.t (.v true)) (.t (.v true)) dAdd (fC (.int 1)) (fCall [.r 0, .t (.v true)] (noErr m_L_take) (aCons (fRef 0) (aCons (f2 (.t (.v true)) (.t (.v true)) dIx (fLst (aCons (fC (.int 0)) (aCons (fC (.int 7)) (aCons (fC (.int 7)) (aCons (fC (.int 6)) (aCons (fC (.int 5)) aNil)))))) (fVar 1)) aNil)))) (aCons (f2 (.t (.v true)) (.t (.v true)) dAdd (fC (.int 1)) (fCall [.r 0, .t (.v true)] (noErr m_L_take) (aCons (fRef 0) (aCons (f2 (.t (.v true)) (.t (.v true)) dIx (fLst (aCons (fC (.int 0)) (aCons (fC (.int 8)) (aCons (fC (.int 8)) (aCons (fC (.int 7)) (aCons (fC (.int 5)) aNil)))))) (fVar 1)) aNil)))) aNil))))
  (sSeq (sSet 2 (f2 (.t (.v true)) (.t (.v true)) dIx (fLst (aCons (fLst aNil) (aCons (fLst (aCons (fC (.int 0)) (aCons (fC (.int 3)) (aCons (fC (.int 12)) (aCons (f2 (.t (.v true)) (.t (.v true)) dPow (fC (.int 10)) (fC (.int 29))) aNil))))) (aCons (fLst (aCons (fC (.int 0)) (aCons (fC (.int 1)) aNil))) (aCons (fLst (aCons (fC (.int 0)) (aCons (fC (.int 5)) (aCons (fC .none) (aCons (f2 (.t (.v true)) (.t (.v true)) dPow (fC (.int 10)) (fC (.int 20))) aNil))))) (aCons (fLst (aCons (fC (.int 0)) (aCons (fC (.int 1)) (aCons (fC .none) (aCons (fC (.int 30)) aNil))))) aNil)))))) (fVar 1)))
  (sSeq (sSet 3 (f1 (.t (.v true)) dTuple (fLc [7] (iRg1 (.t (.v true)) (fVar 5)) (gNm 7) tYesF (f1 (.t (.v true)) dTuple (fLc [9] (iRg1 (.t (.v true)) (fVar 6)) (gNm 9) tYesF (fCall [.r 0, .t (.v true)] (noErr m_L_one_of) (aCons (fRef 0) (aCons (fVar 2) aNil))))))))
  (sSeq (sIf (fTst (f2 (.t (.v true)) (.t (.v true)) dLt (fVar 1) (fC (.int 4))))
  (sRet (fVar 3))
  sNx)
  (sSeq (sSet 4 (fLst (aCons (fC (.int 0)) (aCons (fC (.int 4)) (aCons (f2 (.t (.v true)) (.t (.v true)) dPow (fC (.int 10)) (fC (.int 25))) aNil)))))
  (sRet (fTup (aCons (f1 (.t (.v true)) dTuple (fLc [7] (iRg1 (.t (.v true)) (fVar 5)) (gNm 7) tYesF (fCall [.r 0, .t (.v true)] (noErr m_L_one_of) (aCons (fRef 0) (aCons (fVar 4) aNil))))) (aCons (f1 (.t (.v true)) dTuple (fLc [9] (iRg1 (.t (.v true)) (fVar 6)) (gNm 9) tYesF (fCall [.r 0, .t (.v true)] (noErr m_L_one_of) (aCons (fRef 0) (aCons (fVar 4) aNil))))) (aCons (fVar 3) aNil)))))))))))
noncomputable def m_L_drawn : M D := runF [(.lst (.v true)), (.v true)] (.v true) 8 b_L_drawn
theorem ok_L_drawn (B : Bt mg) (a : At K mg "_law_drawn" s_L_drawn ["bag", "kind"]) (G_L_one_of : Kn P w K mg base CX0 2 "_law_one_of" ["bag", "items"] (spF K mg [(.lst (.v true)), (.v true)] (.v true) (noErr m_L_one_of))) (G_L_take : Kn P w K mg base CX0 1 "_law_take" ["bag", "many"] (spF K mg [(.lst (.v true)), (.v true)] (.v true) (noErr m_L_take))) : Kn P w K mg base CX0 3 "_law_drawn" ["bag", "kind"] (spF K mg [(.lst (.v true)), (.v true)] (.v true) (noErr m_L_drawn)) := by
  refine fn_ok0 (κl := [(.v true), (.v true), (.v true), (.v true), (.v true), (.v true), (.v true), (.v true)]) a sc_L_drawn rfl ⟨True.intro, True.intro, True.intro⟩ ⟨True.intro, True.intro, True.intro, True.intro, True.intro, True.intro, True.intro, True.intro, True.intro⟩ rfl fun f cdv A outer s H vs E hv hr => ?_
  match vs, hv with
  | [v0, v1], _ =>
  refine ⟨[.fix v0 (.lst (.v true)), (.v true), (.v true), (.v true), (.v true), (.v true), (.v true), (.v true), (.v true), (.v true)], (RetK.own rfl (RetK.oth rfl RetK.nil)), ?_⟩
  show FSs _ _ _ [.fix v0 (.lst (.v true)), (.v true), (.v true), (.v true), (.v true), (.v true), (.v true), (.v true), (.v true), (.v true)] _ _ _
  exact (fss_cons (fs_if (ft_cmp (op_eqD hr.units) s_eq (fe_var 1) fe_int (nomark _))
    (fss_one (fs_ret (κn := _) (fe_tuple (by exact rfl) B.tuple (fe_lc (kd := (.v _)) (own := [("k", 8)]) (sl := [8]) rfl rfl sc_L_drawn.nd (fi_range1 (by exact rfl) B.range (fe_fn G_L_take (hr.mono (by decide)) (Fits.r (by first | exact .inl ⟨rfl, nofix_ne True.intro⟩ | exact .inr ⟨_, rfl, nofix_ne True.intro⟩) (Fits.t (nofix_ne True.intro) Fits.nil)) (fa_cons (fe_ref 0) (fa_cons fe_int fa_nil)))) (blkOk_by (N := N_L_drawn) (sc := defScope s_L_drawn) (by decide +kernel)) (by repeat (first | exact True.intro | refine And.intro True.intro ?_)) (by decide) (fun _ _ _ _ _ => (fg_nameK (i := 8) sc_L_drawn.nd)) (fun _ _ _ _ _ => fts_nil) (fun _ _ _ _ _ => (fe_fn G_L_one_of (hr.mono (by decide)) (Fits.r (by first | exact .inl ⟨rfl, nofix_ne True.intro⟩ | exact .inr ⟨_, rfl, nofix_ne True.intro⟩) (Fits.t (nofix_ne True.intro) Fits.nil)) (fa_cons (fe_ref 0) (fa_cons (fe_lst (k := true) (kd := (.v _)) (fa_cons fe_int (fa_cons fe_int (fa_cons (fe_neg fe_int) (fa_cons (fe_op op_pow s_pow fe_int fe_int) (fa_cons (fe_neg (fe_op op_pow s_pow fe_int fe_int)) fa_nil)))))) fa_nil)))))) (RetK.own rfl (RetK.oth rfl RetK.nil))))
    fss_nil)
    (fss_cons (fs_asg (fe_tup (k := true) (fa_cons (fe_add fe_int (fe_fn G_L_take (hr.mono (by decide)) (Fits.r (by first | exact .inl ⟨rfl, nofix_ne True.intro⟩ | exact .inr ⟨_, rfl, nofix_ne True.intro⟩) (Fits.t (nofix_ne True.intro) Fits.nil)) (fa_cons (fe_ref 0) (fa_cons (fe_ix (fe_lst (k := true) (kd := (.v _)) (fa_cons fe_int (fa_cons fe_int (fa_cons fe_int (fa_cons fe_int (fa_cons fe_int fa_nil)))))) (fe_var 1)) fa_nil)))) (fa_cons (fe_add fe_int (fe_fn G_L_take (hr.mono (by decide)) (Fits.r (by first | exact .inl ⟨rfl, nofix_ne True.intro⟩ | exact .inr ⟨_, rfl, nofix_ne True.intro⟩) (Fits.t (nofix_ne True.intro) Fits.nil)) (fa_cons (fe_ref 0) (fa_cons (fe_ix (fe_lst (k := true) (kd := (.v _)) (fa_cons fe_int (fa_cons fe_int (fa_cons fe_int (fa_cons fe_int (fa_cons fe_int fa_nil)))))) (fe_var 1)) fa_nil)))) fa_nil))) (fg_tup rfl (gs_lenS (gs_lenS gs_len0)) (fgs_cons (fg_nameK (i := 5) sc_L_drawn.nd) (fgs_cons (fg_nameK (i := 6) sc_L_drawn.nd) fgs_nil))))
    (fss_cons (fs_setK (i := 2) (fe_ix (fe_lst (k := true) (kd := (.v _)) (fa_cons (fe_lst (k := true) (kd := (.v _)) fa_nil) (fa_cons (fe_lst (k := true) (kd := (.v _)) (fa_cons fe_int (fa_cons fe_int (fa_cons fe_int (fa_cons (fe_op op_pow s_pow fe_int fe_int) fa_nil))))) (fa_cons (fe_lst (k := true) (kd := (.v _)) (fa_cons fe_int (fa_cons fe_int fa_nil))) (fa_cons (fe_lst (k := true) (kd := (.v _)) (fa_cons fe_int (fa_cons fe_int (fa_cons fe_non (fa_cons (fe_op op_pow s_pow fe_int fe_int) fa_nil))))) (fa_cons (fe_lst (k := true) (kd := (.v _)) (fa_cons fe_int (fa_cons fe_int (fa_cons fe_non (fa_cons fe_int fa_nil))))) fa_nil)))))) (fe_var 1)) sc_L_drawn.nd)
    (fss_cons (fs_setK (i := 3) (fe_tuple (by exact rfl) B.tuple (fe_lc (kd := (.v _)) (own := [("i", 7)]) (sl := [7]) rfl rfl sc_L_drawn.nd (fi_range1 (by exact rfl) B.range (fe_var 5)) (blkOk_by (N := N_L_drawn) (sc := defScope s_L_drawn) (by decide +kernel)) (by repeat (first | exact True.intro | refine And.intro True.intro ?_)) (by decide) (fun _ _ _ _ _ => (fg_nameK (i := 7) sc_L_drawn.nd)) (fun _ _ _ _ _ => fts_nil) (fun _ _ _ _ _ => (fe_tuple (by exact rfl) B.tuple (fe_lc (kd := (.v _)) (own := [("j", 9)]) (sl := [9]) rfl rfl sc_L_drawn.nd (fi_range1 (by exact rfl) B.range (fe_var 6)) (blkOk_by (N := N_L_drawn) (sc := _) (by kernel_rfl)) (by repeat (first | exact True.intro | refine And.intro True.intro ?_)) (by decide) (fun _ _ _ _ _ => (fg_nameK (i := 9) sc_L_drawn.nd)) (fun _ _ _ _ _ => fts_nil) (fun _ _ _ _ _ => (fe_fn G_L_one_of (hr.mono (by decide)) (Fits.r (by first | exact .inl ⟨rfl, nofix_ne True.intro⟩ | exact .inr ⟨_, rfl, nofix_ne True.intro⟩) (Fits.t (nofix_ne True.intro) Fits.nil)) (fa_cons (fe_ref 0) (fa_cons (fe_var 2) fa_nil))))))))) sc_L_drawn.nd)
    (fss_cons (fs_if (ft_cmp op_lt s_lt (fe_var 1) fe_int (nomark _))
    (fss_one (fs_ret (κn := _) (fe_var 3) (RetK.own rfl (RetK.oth rfl RetK.nil))))
    fss_nil)
    (fss_cons (fs_setK (i := 4) (fe_lst (k := true) (kd := (.v _)) (fa_cons fe_int (fa_cons fe_int (fa_cons (fe_op op_pow s_pow fe_int fe_int) fa_nil)))) sc_L_drawn.nd)
    (fss_one (fs_ret (κn := _) (fe_tup (k := true) (fa_cons (fe_tuple (by exact rfl) B.tuple (fe_lc (kd := (.v _)) (own := [("i", 7)]) (sl := [7]) rfl rfl sc_L_drawn.nd (fi_range1 (by exact rfl) B.range (fe_var 5)) (blkOk_by (N := N_L_drawn) (sc := defScope s_L_drawn) (by decide +kernel)) (by repeat (first | exact True.intro | refine And.intro True.intro ?_)) (by decide) (fun _ _ _ _ _ => (fg_nameK (i := 7) sc_L_drawn.nd)) (fun _ _ _ _ _ => fts_nil) (fun _ _ _ _ _ => (fe_fn G_L_one_of (hr.mono (by decide)) (Fits.r (by first | exact .inl ⟨rfl, nofix_ne True.intro⟩ | exact .inr ⟨_, rfl, nofix_ne True.intro⟩) (Fits.t (nofix_ne True.intro) Fits.nil)) (fa_cons (fe_ref 0) (fa_cons (fe_var 4) fa_nil)))))) (fa_cons (fe_tuple (by exact rfl) B.tuple (fe_lc (kd := (.v _)) (own := [("j", 9)]) (sl := [9]) rfl rfl sc_L_drawn.nd (fi_range1 (by exact rfl) B.range (fe_var 6)) (blkOk_by (N := N_L_drawn) (sc := defScope s_L_drawn) (by decide +kernel)) (by repeat (first | exact True.intro | refine And.intro True.intro ?_)) (by decide) (fun _ _ _ _ _ => (fg_nameK (i := 9) sc_L_drawn.nd)) (fun _ _ _ _ _ => fts_nil) (fun _ _ _ _ _ => (fe_fn G_L_one_of (hr.mono (by decide)) (Fits.r (by first | exact .inl ⟨rfl, nofix_ne True.intro⟩ | exact .inr ⟨_, rfl, nofix_ne True.intro⟩) (Fits.t (nofix_ne True.intro) Fits.nil)) (fa_cons (fe_ref 0) (fa_cons (fe_var 4) fa_nil)))))) (fa_cons (fe_var 3) fa_nil)))) (RetK.own rfl (RetK.oth rfl RetK.nil))))))))))
abbrev s_L_shown : Stmt := topS 76
abbrev N_L_shown : List Str := ["kind", "value"]
theorem sc_L_shown : FnScope N_L_shown ["kind", "value"] (defScope s_L_shown) := ⟨rfl, rfl, rfl, by decide +kernel, rfl, by decide +kernel, by decide +kernel⟩
noncomputable def b_L_shown : FN.Env → Option Fl :=
  (sSeq (sIf (fTst (f2 (.t (.v true)) (.t (.v true)) dEq (fVar 0) (fC (.int 0))))
  (sRet (fCall [.t (.v true)] (noErr m_show_numbers) (aCons (fVar 1) aNil)))
  sNx)
  (sSeq (sIf (fTst (f2 (.t (.v true)) (.t (.v true)) dEq (fVar 0) (fC (.int 4))))
  (sRet (fCall [.t (.v true)] (noErr m_show_frame) (aCons (fVar 1) aNil)))
  sNx)
  (sRet (fIf (fTst (f2 (.t (.v true)) (.t (.v true)) dEq (fVar 0) (fC (.int 3)))) (fCall [.t (.v true)] (noErr m_show_costs) (aCons (fVar 1) aNil)) (fCall [.t (.v true)] (noErr m_show_table) (aCons (fVar 1) aNil))))))
noncomputable def m_L_shown : M D := runF [(.v true), (.v true)] (.v true) 0 b_L_shown
theorem ok_L_shown (B : Bt mg) (a : At K mg "_law_shown" s_L_shown ["kind", "value"]) (G_show_costs : Kn P w K mg base CX0 4 "show_costs" ["costs"] (spF K mg [(.v true)] (.v true) (noErr m_show_costs))) (G_show_frame : Kn P w K mg base CX0 4 "show_frame" ["frame"] (spF K mg [(.v true)] (.v true) (noErr m_show_frame))) (G_show_numbers : Kn P w K mg base CX0 2 "show_numbers" ["numbers"] (spF K mg [(.v true)] (.v true) (noErr m_show_numbers))) (G_show_table : Kn P w K mg base CX0 4 "show_table" ["table"] (spF K mg [(.v true)] (.v true) (noErr m_show_table))) : Kn P w K mg base CX0 5 "_law_shown" ["kind", "value"] (spF K mg [(.v true), (.v true)] (.v true) (noErr m_L_shown)) := by
  refine fn_ok0 (κl := []) a sc_L_shown rfl ⟨True.intro, True.intro, True.intro⟩ True.intro rfl fun f cdv A outer s H vs E hv hr => ?_
  match vs, hv with
  | [v0, v1], _ =>
  refine ⟨[(.v true), (.v true)], (RetK.oth rfl (RetK.oth rfl RetK.nil)), ?_⟩
  show FSs _ _ _ [(.v true), (.v true)] _ _ _
  exact (fss_cons (fs_if (ft_cmp (op_eqD hr.units) s_eq (fe_var 0) fe_int (nomark _))
    (fss_one (fs_ret (κn := _) (fe_fn G_show_numbers (hr.mono (by decide)) (Fits.t (nofix_ne True.intro) Fits.nil) (fa_cons (fe_var 1) fa_nil)) (RetK.oth rfl (RetK.oth rfl RetK.nil))))
    fss_nil)
    (fss_cons (fs_if (ft_cmp (op_eqD hr.units) s_eq (fe_var 0) fe_int (nomark _))
    (fss_one (fs_ret (κn := _) (fe_fn G_show_frame (hr.mono (by decide)) (Fits.t (nofix_ne True.intro) Fits.nil) (fa_cons (fe_var 1) fa_nil)) (RetK.oth rfl (RetK.oth rfl RetK.nil))))
    fss_nil)
    (fss_one (fs_ret (κn := _) (fe_if (ft_cmp (op_eqD hr.units) s_eq (fe_var 0) fe_int (nomark _)) (fe_fn G_show_costs (hr.mono (by decide)) (Fits.t (nofix_ne True.intro) Fits.nil) (fa_cons (fe_var 1) fa_nil)) (fe_fn G_show_table (hr.mono (by decide)) (Fits.t (nofix_ne True.intro) Fits.nil) (fa_cons (fe_var 1) fa_nil))) (RetK.oth rfl (RetK.oth rfl RetK.nil))))))
abbrev s_L_right : Stmt := topS 77
abbrev N_L_right : List Str := ["bag", "kind", "placing", "value", "text", "odd", "other", "thing", "found", "turn", "k"]
theorem sc_L_right : FnScope N_L_right ["bag"] (defScope s_L_right) := ⟨rfl, rfl, rfl, by decide +kernel, rfl, by decide +kernel, by decide +kernel⟩
noncomputable def b_L_right : FN.Env → Option Fl :=
  (sSeq (sFor (iRg1 (.t (.v true)) (fC (.int 5))) (gNm 1)
  (sSeq (sSet 3 (fCall [.r 0, .t (.v true)] (noErr m_L_drawn) (aCons (fRef 0) (aCons (fVar 1) aNil))))
  (sSeq (sSet 4 (fCall [.t (.v true), .t (.v true)] (noErr m_L_text) (aCons (fVar 1) (aCons (fVar 3) aNil))))
  (sSeq (sIf (tNotF (fTru (.t (.v true)) (fCall [.t (.v true), .t (.v true)] (noErr (m_L_same 8)) (aCons (fLst (aCons (fCall [.t (.v true), .t (.v true)] (noErr m_L_shown) (aCons (fVar 1) (aCons (fVar 3) aNil))) (aCons (fCall [.t (.v true), .t (.v true)] (noErr m_L_read) (aCons (fVar 1) (aCons (fVar 4) aNil))) aNil))) (aCons (fLst (aCons (fVar 4) (aCons (fLst (aCons (fVar 3) aNil)) aNil))) aNil)))))
  (sRet (fC (.bool false)))
  sNx)
  (sSeq (sSet 5 (fLc [9] (iRg1 (.t (.v true)) (fC (.int 4))) (gNm 9) tYesF (fCall [.r 0, .t (.v true)] (noErr m_L_unreadable) (aCons (fRef 0) (aCons (fVar 4) aNil)))))
  (sSeq (sFor (iSeq (f2 (.t (.v true)) (.t (.v true)) dAdd (fVar 5) (fLst (aCons (fCall [.r 0, .t (.v true)] (noErr m_L_unreadable) (aCons (fRef 0) (aCons (f2 (.t (.v true)) (.t (.v true)) dIx (fVar 5) (fC (.int 0))) aNil))) (aCons (fC (.str ("" : Str))) (aCons (fC (.str (" " : Str))) (aCons (fC (.str ("-" : Str))) (aCons (fC (.str ("0" : Str))) (aCons (f2 (.t (.v true)) (.t (.v true)) dAdd (fVar 4) (fC (.str ("\n" : Str)))) (aCons (f2 (.t (.v true)) (.t (.v true)) dAdd (fVar 4) (fC (.str (" " : Str)))) aNil)))))))))) (gNm 6)
  (sSeq (sSet 8 (fCall [.t (.v true), .t (.v true)] (noErr m_L_found) (aCons (fVar 1) (aCons (fVar 6) aNil))))
  (sIf (tNotF (fTru (.t (.v true)) (fCall [.t (.v true), .t (.v true)] (noErr (m_L_same 8)) (aCons (fCall [.t (.v true), .t (.v true)] (noErr m_L_read) (aCons (fVar 1) (aCons (fVar 6) aNil))) (aCons (fIf (fTst (f2 (.t (.v true)) (.t (.v true)) dNe (fVar 8) (fLst aNil))) (fVar 8) (fLst (aCons (fC (.str ("unreadable" : Str))) (aCons (fVar 6) (aCons (fC (.bool true)) aNil))))) aNil)))))
  (sRet (fC (.bool false)))
  sNx)))
  (sSeq (sSet 7 (fCall [.r 0, .t (.v true)] (noErr m_L_one_of) (aCons (fRef 0) (aCons (fLst (aCons (fC .none) (aCons (fC (.int 0)) (aCons (fC (.bool true)) (aCons (fTup aNil) (aCons (fLst (aCons (fVar 4) aNil)) (aCons (fTup (aCons (fC (.str ("0" : Str))) aNil)) (aCons (fVar 3) aNil)))))))) aNil))))
  (sIf (tNotF (fTru (.t (.v true)) (fCall [.t (.v true), .t (.v true)] (noErr (m_L_same 8)) (aCons (fCall [.t (.v true), .t (.v true)] (noErr m_L_read) (aCons (fVar 1) (aCons (fVar 7) aNil))) (aCons (fLst (aCons (fC (.str ("unreadable" : Str))) (aCons (fVar 7) (aCons (fC (.bool true)) aNil)))) aNil)))))
  (sRet (fC (.bool false)))
  sNx))))))))
  (sSeq (sSet 2 (f1 (.t (.v true)) dTuple (fLc [10] (iRg1 (.t (.v true)) (f2 (.t (.v true)) (.t (.v true)) dAdd (fC (.int 1)) (fCall [.r 0, .t (.v true)] (noErr m_L_take) (aCons (fRef 0) (aCons (fC (.int 7)) aNil))))) (gNm 10) tYesF (fCall [.r 0, .t (.v true)] (noErr m_L_one_of) (aCons (fRef 0) (aCons (fLst (aCons (fC .none) (aCons (fC (.int 0)) (aCons (fC (.int 3)) aNil)))) aNil))))))
  (sRet (fCall [.t (.v true), .t (.v true)] (noErr (m_L_same 8)) (aCons (fLst (aCons (fCall [.t (.v true)] (noErr m_show_placing) (aCons (fVar 2) aNil)) (aCons (fCall [.t (.v true)] (kwM [0] (noErr m_show_placing)) (aCons (fVar 2) aNil)) aNil))) (aCons (f2 (.t (.v true)) (.t (.v true)) dMul (fLst (aCons (fCall [.t (.v true)] (noErr m_L_row_text) (aCons (fVar 2) aNil)) aNil)) (fC (.int 2))) aNil))))))
noncomputable def m_L_right : M D := runF [(.lst (.v true))] (.v true) 10 b_L_right
theorem ok_L_right (B : Bt mg) (a : At K mg "_law_right" s_L_right ["bag"]) (G_L_drawn : Kn P w K mg base CX0 3 "_law_drawn" ["bag", "kind"] (spF K mg [(.lst (.v true)), (.v true)] (.v true) (noErr m_L_drawn))) (G_L_found : Kn P w K mg base CX0 4 "_law_found" ["kind", "text"] (spF K mg [(.v true), (.v true)] (.v true) (noErr m_L_found))) (G_L_one_of : Kn P w K mg base CX0 2 "_law_one_of" ["bag", "items"] (spF K mg [(.lst (.v true)), (.v true)] (.v true) (noErr m_L_one_of))) (G_L_read : Kn P w K mg base CX0 9 "_law_read" ["kind", "text"] (spF K mg [(.v true), (.v true)] (.v true) (noErr m_L_read))) (G_L_row_text : Kn P w K mg base CX0 2 "_law_row_text" ["row"] (spF K mg [(.v true)] (.v true) (noErr m_L_row_text))) (G_L_same : Kn P w K mg base CX0 9 "_law_same" ["got", "due"] (spF K mg [(.v true), (.v true)] (.v true) (noErr (m_L_same 8)))) (G_L_shown : Kn P w K mg base CX0 5 "_law_shown" ["kind", "value"] (spF K mg [(.v true), (.v true)] (.v true) (noErr m_L_shown))) (G_L_take : Kn P w K mg base CX0 1 "_law_take" ["bag", "many"] (spF K mg [(.lst (.v true)), (.v true)] (.v true) (noErr m_L_take))) (G_L_text : Kn P w K mg base CX0 4 "_law_text" ["kind", "value"] (spF K mg [(.v true), (.v true)] (.v true) (noErr m_L_text))) (G_L_unreadable : Kn P w K mg base CX0 3 "_law_unreadable" ["bag", "text"] (spF K mg [(.lst (.v true)), (.v true)] (.v true) (noErr m_L_unreadable))) (G_show_placing : Kn P w K mg base CX0 2 "show_placing" ["placing"] (spF K mg [(.v true)] (.v true) (noErr m_show_placing))) (KW_show_placing_placing : KwAt K mg "show_placing" ["placing"] ["placing"] [0]) : Kn P w K mg base CX0 10 "_law_right" ["bag"] (spF K mg [(.lst (.v true))] (.v true) (noErr m_L_right)) := by
  refine fn_ok0 (κl := [(.v true), (.v true), (.v true), (.v true), (.v true), (.v true), (.v true), (.v true), (.v true), (.v true)]) a sc_L_right rfl ⟨True.intro, True.intro⟩ ⟨True.intro, True.intro, True.intro, True.intro, True.intro, True.intro, True.intro, True.intro, True.intro, True.intro, True.intro⟩ rfl fun f cdv A outer s H vs E hv hr => ?_
  match vs, hv with
  | [v0], _ =>
  refine ⟨[.fix v0 (.lst (.v true)), (.v true), (.v true), (.v true), (.v true), (.v true), (.v true), (.v true), (.v true), (.v true), (.v true)], (RetK.own rfl RetK.nil), ?_⟩
  show FSs _ _ _ [.fix v0 (.lst (.v true)), (.v true), (.v true), (.v true), (.v true), (.v true), (.v true), (.v true), (.v true), (.v true), (.v true)] _ _ _
  exact (fss_cons (fs_for PassesOwn.never rfl (fi_range1 (by exact rfl) B.range fe_int) (fg_nameK (i := 1) sc_L_right.nd)
    (fss_cons (fs_setK (i := 3) (fe_fn G_L_drawn (hr.mono (by decide)) (Fits.r (by first | exact .inl ⟨rfl, nofix_ne True.intro⟩ | exact .inr ⟨_, rfl, nofix_ne True.intro⟩) (Fits.t (nofix_ne True.intro) Fits.nil)) (fa_cons (fe_ref 0) (fa_cons (fe_var 1) fa_nil))) sc_L_right.nd)
    (fss_cons (fs_setK (i := 4) (fe_fn G_L_text (hr.mono (by decide)) (Fits.t (nofix_ne True.intro) (Fits.t (nofix_ne True.intro) Fits.nil)) (fa_cons (fe_var 1) (fa_cons (fe_var 3) fa_nil))) sc_L_right.nd)
    (fss_cons (fs_if (ft_not (ft_tru (fe_fn G_L_same (hr.mono (by decide)) (Fits.t (nofix_ne True.intro) (Fits.t (nofix_ne True.intro) Fits.nil)) (fa_cons (fe_lst (k := true) (kd := (.v _)) (fa_cons (fe_fn G_L_shown (hr.mono (by decide)) (Fits.t (nofix_ne True.intro) (Fits.t (nofix_ne True.intro) Fits.nil)) (fa_cons (fe_var 1) (fa_cons (fe_var 3) fa_nil))) (fa_cons (fe_fn G_L_read (hr.mono (by decide)) (Fits.t (nofix_ne True.intro) (Fits.t (nofix_ne True.intro) Fits.nil)) (fa_cons (fe_var 1) (fa_cons (fe_var 4) fa_nil))) fa_nil))) (fa_cons (fe_lst (k := true) (kd := (.v _)) (fa_cons (fe_var 4) (fa_cons (fe_lst (k := true) (kd := (.v _)) (fa_cons (fe_var 3) fa_nil)) fa_nil))) fa_nil)))))
    (fss_one (fs_ret (κn := _) fe_bl (RetK.own rfl RetK.nil)))
    fss_nil)
    (fss_cons (fs_setLc (i := 5) (kd := (.v _)) (own := [("turn", 9)]) (sl := [9]) rfl rfl sc_L_right.nd rfl (sw_true rfl rfl rfl (by decide +kernel)) (fi_range1 (by exact rfl) B.range fe_int) (blkOk_by (N := N_L_right) (sc := defScope s_L_right) (by decide +kernel)) (by repeat (first | exact True.intro | refine And.intro True.intro ?_)) (by decide) (fun _ _ _ _ _ => (fg_nameK (i := 9) sc_L_right.nd)) (fun _ _ _ _ _ => fts_nil) (fun _ _ _ _ _ => (fe_fn G_L_unreadable (hr.mono (by decide)) (Fits.r (by first | exact .inl ⟨rfl, nofix_ne True.intro⟩ | exact .inr ⟨_, rfl, nofix_ne True.intro⟩) (Fits.t (nofix_ne True.intro) Fits.nil)) (fa_cons (fe_ref 0) (fa_cons (fe_var 4) fa_nil)))))
    (fss_cons (fs_for PassesOwn.never rfl (fi_seq (fe_add (fe_var 5) (fe_lst (k := true) (kd := (.v _)) (fa_cons (fe_fn G_L_unreadable (hr.mono (by decide)) (Fits.r (by first | exact .inl ⟨rfl, nofix_ne True.intro⟩ | exact .inr ⟨_, rfl, nofix_ne True.intro⟩) (Fits.t (nofix_ne True.intro) Fits.nil)) (fa_cons (fe_ref 0) (fa_cons (fe_ix (fe_var 5) fe_int) fa_nil))) (fa_cons fe_str (fa_cons fe_str (fa_cons fe_str (fa_cons fe_str (fa_cons (fe_add (fe_var 4) fe_str) (fa_cons (fe_add (fe_var 4) fe_str) fa_nil)))))))))) (fg_nameK (i := 6) sc_L_right.nd)
    (fss_cons (fs_setK (i := 8) (fe_fn G_L_found (hr.mono (by decide)) (Fits.t (nofix_ne True.intro) (Fits.t (nofix_ne True.intro) Fits.nil)) (fa_cons (fe_var 1) (fa_cons (fe_var 6) fa_nil))) sc_L_right.nd)
    (fss_one (fs_if (ft_not (ft_tru (fe_fn G_L_same (hr.mono (by decide)) (Fits.t (nofix_ne True.intro) (Fits.t (nofix_ne True.intro) Fits.nil)) (fa_cons (fe_fn G_L_read (hr.mono (by decide)) (Fits.t (nofix_ne True.intro) (Fits.t (nofix_ne True.intro) Fits.nil)) (fa_cons (fe_var 1) (fa_cons (fe_var 6) fa_nil))) (fa_cons (fe_if (ft_cmp (op_neD hr.units) s_ne (fe_var 8) (fe_lst (k := true) (kd := (.v _)) fa_nil) (nomark _)) (fe_var 8) (fe_lst (k := true) (kd := (.v _)) (fa_cons fe_str (fa_cons (fe_var 6) (fa_cons fe_bl fa_nil))))) fa_nil)))))
    (fss_one (fs_ret (κn := _) fe_bl (RetK.own rfl RetK.nil)))
    fss_nil))))
    (fss_cons (fs_setK (i := 7) (fe_fn G_L_one_of (hr.mono (by decide)) (Fits.r (by first | exact .inl ⟨rfl, nofix_ne True.intro⟩ | exact .inr ⟨_, rfl, nofix_ne True.intro⟩) (Fits.t (nofix_ne True.intro) Fits.nil)) (fa_cons (fe_ref 0) (fa_cons (fe_lst (k := true) (kd := (.v _)) (fa_cons fe_non (fa_cons fe_int (fa_cons fe_bl (fa_cons (fe_tup (k := true) fa_nil) (fa_cons (fe_lst (k := true) (kd := (.v _)) (fa_cons (fe_var 4) fa_nil)) (fa_cons (fe_tup (k := true) (fa_cons fe_str fa_nil)) (fa_cons (fe_var 3) fa_nil)))))))) fa_nil))) sc_L_right.nd)
    (fss_one (fs_if (ft_not (ft_tru (fe_fn G_L_same (hr.mono (by decide)) (Fits.t (nofix_ne True.intro) (Fits.t (nofix_ne True.intro) Fits.nil)) (fa_cons (fe_fn G_L_read (hr.mono (by decide)) (Fits.t (nofix_ne True.intro) (Fits.t (nofix_ne True.intro) Fits.nil)) (fa_cons (fe_var 1) (fa_cons (fe_var 7) fa_nil))) (fa_cons (fe_lst (k := true) (kd := (.v _)) (fa_cons fe_str (fa_cons (fe_var 7) (fa_cons fe_bl fa_nil)))) fa_nil)))))
    (fss_one (fs_ret (κn := _) fe_bl (RetK.own rfl RetK.nil)))
    fss_nil)))))))))
    (fss_cons (fs_setK (i := 2) (fe_tuple (by exact rfl) B.tuple (fe_lc (kd := (.v _)) (own := [("k", 10)]) (sl := [10]) rfl rfl sc_L_right.nd (fi_range1 (by exact rfl) B.range (fe_add fe_int (fe_fn G_L_take (hr.mono (by decide)) (Fits.r (by first | exact .inl ⟨rfl, nofix_ne True.intro⟩ | exact .inr ⟨_, rfl, nofix_ne True.intro⟩) (Fits.t (nofix_ne True.intro) Fits.nil)) (fa_cons (fe_ref 0) (fa_cons fe_int fa_nil))))) (blkOk_by (N := N_L_right) (sc := defScope s_L_right) (by decide +kernel)) (by repeat (first | exact True.intro | refine And.intro True.intro ?_)) (by decide) (fun _ _ _ _ _ => (fg_nameK (i := 10) sc_L_right.nd)) (fun _ _ _ _ _ => fts_nil) (fun _ _ _ _ _ => (fe_fn G_L_one_of (hr.mono (by decide)) (Fits.r (by first | exact .inl ⟨rfl, nofix_ne True.intro⟩ | exact .inr ⟨_, rfl, nofix_ne True.intro⟩) (Fits.t (nofix_ne True.intro) Fits.nil)) (fa_cons (fe_ref 0) (fa_cons (fe_lst (k := true) (kd := (.v _)) (fa_cons fe_non (fa_cons fe_int (fa_cons fe_int fa_nil)))) fa_nil)))))) sc_L_right.nd)
    (fss_one (fs_ret (κn := _) (fe_fn G_L_same (hr.mono (by decide)) (Fits.t (nofix_ne True.intro) (Fits.t (nofix_ne True.intro) Fits.nil)) (fa_cons (fe_lst (k := true) (kd := (.v _)) (fa_cons (fe_fn G_show_placing (hr.mono (by decide)) (Fits.t (nofix_ne True.intro) Fits.nil) (fa_cons (fe_var 2) fa_nil)) (fa_cons (fe_fnK (n := 1) G_show_placing KW_show_placing_placing (hr.mono (by decide)) (Fits.t (nofix_ne True.intro) Fits.nil) (fk_cons (fe_var 2) fk_nil)) fa_nil))) (fa_cons (fe_mul (fe_lst (k := true) (kd := (.v _)) (fa_cons (fe_fn G_L_row_text (hr.mono (by decide)) (Fits.t (nofix_ne True.intro) Fits.nil) (fa_cons (fe_var 2) fa_nil)) fa_nil)) fe_int) fa_nil))) (RetK.own rfl RetK.nil)))))
abbrev s_law : Stmt := topS 78
abbrev N_law : List Str := ["script", "k"]
theorem sc_law : FnScope N_law ["script"] (defScope s_law) := ⟨rfl, rfl, rfl, by decide +kernel, rfl, by decide +kernel, by decide +kernel⟩
noncomputable def b_law : FN.Env → Option Fl :=
  (sSeq (sFor (iRg1 (.t (.v true)) (f2 (.t (.v true)) (.t (.v true)) dMax2 (fC (.int 1)) (f2 (.t (.v true)) (.t (.v true)) dMin2 (fC (.int 3)) (f1 (.r 0) dLen (fRef 0))))) (gNm 1)
  (sIf (tNotF (fTru (.t (.v true)) (fCall [.t (.lst (.v true))] (noErr m_L_right) (aCons (fCall [.r 0, .t (.v true)] (noErr m_L_bag) (aCons (fRef 0) (aCons (fVar 1) aNil))) aNil))))
  (sRet (fC (.bool false)))
  sNx))
  (sRet (fC (.bool true))))
noncomputable def m_law : M D := runF [.scr] (.v true) 1 b_law
theorem ok_law (B : Bt mg) (a : At K mg "law" s_law ["script"]) (G_L_bag : Kn P w K mg base CX0 1 "_law_bag" ["script", "k"] (spF K mg [.scr, (.v true)] (.lst (.v true)) (noErr m_L_bag))) (G_L_right : Kn P w K mg base CX0 10 "_law_right" ["bag"] (spF K mg [(.lst (.v true))] (.v true) (noErr m_L_right))) : Kn P w K mg base CX0 11 "law" ["script"] (spF K mg [.scr] (.v true) (noErr m_law)) := by
  refine fn_ok0 (κl := [(.v true)]) a sc_law rfl ⟨True.intro, True.intro⟩ ⟨True.intro, True.intro⟩ rfl fun f cdv A outer s H vs E hv hr => ?_
  match vs, hv with
  | [v0], _ =>
  refine ⟨[.fix v0 .scr, (.v true)], (RetK.own rfl RetK.nil), ?_⟩
  show FSs _ _ _ [.fix v0 .scr, (.v true)] _ _ _
  exact (fss_cons (fs_for PassesOwn.never rfl (fi_range1 (by exact rfl) B.range (fe_max2 rfl (by exact rfl) B.max fe_int (fe_min2 rfl (by exact rfl) B.min fe_int (fe_len (by exact rfl) B.len (fe_ref 0))))) (fg_nameK (i := 1) sc_law.nd)
    (fss_one (fs_if (ft_not (ft_tru (fe_fn G_L_right (hr.mono (by decide)) (Fits.t (nofix_ne True.intro) Fits.nil) (fa_cons (fe_fn G_L_bag (hr.mono (by decide)) (Fits.r (by first | exact .inl ⟨rfl, nofix_ne True.intro⟩ | exact .inr ⟨_, rfl, nofix_ne True.intro⟩) (Fits.t (nofix_ne True.intro) Fits.nil)) (fa_cons (fe_ref 0) (fa_cons (fe_var 1) fa_nil))) fa_nil))))
    (fss_one (fs_ret (κn := _) fe_bl (RetK.own rfl RetK.nil)))
    fss_nil)))
    (fss_one (fs_ret (κn := _) fe_bl (RetK.own rfl RetK.nil))))
end
end K82
set_option Elab.async false
set_option linter.all false
set_option maxRecDepth 100000
set_option maxHeartbeats 2000000
namespace K82
open PySem PySem.Spec PyProof.Rows L2 FN
open PySem.PyData (strOk)
/-! ### checks -/
def itD : Option Int → FN.D
  | none => .none
  | some i => .int i
theorem e_is_integer (d : FN.D) : m_is_integer [some d] = some (.ok (.bool (isInt d && !isBool d)) [none]) := by
  cases d <;> rfl
/-- a whole number of at least lo, of at most hi -/
def inB (lo : Int) (hi : Option Int) : FN.D → Bool
  | .int i => decide (lo ≤ i) && (match hi with | none => true | some h => decide (i ≤ h))
  | _ => false
theorem e_between (d : FN.D) (lo : Int) (hi : Option Int) : m_is_between [some d, some (.int lo), some (itD hi)] = some (.ok (.bool (inB lo hi d)) [none, none, none]) := by
  simp [m_is_between, u_runF, b_is_between, u_noErr, u_fCall, e_is_integer]
  cases d <;> simp [FN.isInt, isBool, dLe, dIs, oI, inB]
  rename_i i
  cases hi <;> by_cases h : lo ≤ i <;> simp [h, isNone, itD, oI, dLe]
/-- a tuple of lo to hi elements -/
def inT (lo hi : Int) : FN.D → Bool
  | .tuple ds => decide (lo ≤ ds.length) && decide ((ds.length : Int) ≤ hi)
  | _ => false
theorem e_is_tuple (d : FN.D) (lo hi : Int) : m_is_tuple [some d, some (.int lo), some (.int hi)] = some (.ok (.bool (inT lo hi d)) [none, none, none]) := by
  simp [m_is_tuple, u_runF, b_is_tuple, fCh]
  cases d <;> simp [isTuple, inT, dLen, dLe, oI]
  rename_i ds
  by_cases h : lo ≤ ds.length <;> simp [h]
theorem e_are_integers (ds : List FN.D) (lo : Int) (hi : Option Int) (hl : ds.length ≤ sizeLine) : m_are_integers [some (.tuple ds), some (.int lo), some (itD hi)] = some (.ok (.bool (ds.all (inB lo hi))) [none, none, none]) := by
  simp [m_are_integers, u_runF, b_are_integers, isTuple]
  rw [lc_same (ds := ds) (fun d => .bool (inB lo hi d)) hl ?_ ?_]
  · simp
  · simp
  · intro d _
    simp [u_fCall, u_noErr, e_between]
/-! ### texts shown -/
theorem e_show_item {o : Option Int} (h : Sm o) : m_show_item [some (itD o)] = some (.ok (.str (wS o)) [none]) := by
  cases o with
  | none => simp [m_show_item, u_runF, b_show_item, itD, dIs, isNone, wS]
  | some i =>
    have := log_small (show i.natAbs < 10 ^ 30 from h)
    simp [m_show_item, u_runF, b_show_item, itD, dIs, isNone, wS, dStr, this, dstr]
def rowD (l : List (Option Int)) : FN.D := .tuple (l.map itD)
def tabD (l : List (List (Option Int))) : FN.D := .tuple (l.map rowD)
theorem e_joined {α : Type} (s : Str) (q : α → Str) (l : List α) (hl : l ≠ []) (hs : s.length ≤ 1000) (h : (Txt.join s (l.map q)).length ≤ 1000000) : m_joined [some (.list (l.map fun x => .str (q x))), some (.str s)] = some (.ok (.str (Txt.join s (l.map q))) [none, none]) := by
  have : 0 < l.length := List.length_pos_iff.mpr hl
  simp [m_joined, u_runF, b_joined, dLen, dGt, oI, this, dJoin_txt h hs]
theorem e_show_placing {l : List (Option Int)} (hl : l ≠ []) (hs : ∀ o ∈ l, Sm o) (h : (rowS l).length ≤ 1000000) (hn : l.length ≤ 1000000) : m_show_placing [some (rowD l)] = some (.ok (.str (rowS l)) [none]) := by
  simp [m_show_placing, u_runF, b_show_placing]
  rw [u_fCall, u_aCons, lc_map (xs := l) (g := itD) (fun o => .str (wS o)) (by unfold sizeLine; omega) ?_ ?_]
  · simp [u_noErr, e_joined sp1 wS l hl (by rw [len1]; decide) h, rowS]
  · simp [rowD]
  · intro o ho
    simp [u_fCall, u_noErr, e_show_item (hs o ho)]
theorem e_show_numbers {l : List (Option Int)} (hl : l ≠ []) (hs : ∀ o ∈ l, Sm o ∧ o.isSome = true) (h : (rowS l).length ≤ 1000000) (hn : l.length ≤ 1000000) : m_show_numbers [some (rowD l)] = some (.ok (.str (rowS l)) [none]) := by
  simp [m_show_numbers, u_runF, b_show_numbers]
  rw [u_fCall, u_aCons, lc_map (xs := l) (g := itD) (fun o => .str (wS o)) (by unfold sizeLine; omega) ?_ ?_]
  · simp [u_noErr, e_joined sp1 wS l hl (by rw [len1]; decide) h, rowS]
  · simp [rowD]
  · intro o ho
    obtain ⟨h1, h2⟩ := hs o ho
    cases o with
    | none => cases h2
    | some i =>
      have := log_small (show i.natAbs < 10 ^ 30 from h1)
      simp [itD, dStr, this, wS, dstr]
theorem e_show_rows {l : List (List (Option Int))} (hs : ∀ r ∈ l, r ≠ [] ∧ r.length ≤ 1000000 ∧ ∀ o ∈ r, Sm o) (h : (tabS l).length ≤ 1000000) (hn : l.length ≤ 1000000) : m_show_rows [some (tabD l)] = some (.ok (.str (tabS l)) [none]) := by
  simp [m_show_rows, u_runF, b_show_rows]
  rw [lc_map (xs := l) (g := rowD) (fun o => .str (rowS o)) (by unfold sizeLine; omega) ?_ ?_]
  · simp [dJoin_txt (s := sp3) (q := rowS) (l := l) h (by rw [len3]; decide), tabS]
  · simp [tabD]
  · intro r hr
    have h1 : (rowS r).length ≤ 1000000 := Nat.le_trans (join_piece (List.mem_map.mpr ⟨r, hr, rfl⟩)) h
    simp [u_fCall, u_noErr, e_show_placing (hs r hr).1 (hs r hr).2.2 h1 (hs r hr).2.1]
theorem e_show_table (d : FN.D) {s : Str} (h : m_show_rows [some d] = some (.ok (.str s) [none])) : m_show_table [some d] = some (.ok (.str s) [none]) := by
  simp [m_show_table, u_runF, b_show_table, u_fCall, u_noErr, h]
theorem e_show_costs (d : FN.D) {s : Str} (h : m_show_rows [some d] = some (.ok (.str s) [none])) : m_show_costs [some d] = some (.ok (.str s) [none]) := by
  simp [m_show_costs, u_runF, b_show_costs, u_fCall, u_noErr, h]
def frS (a b c : Str) : Str := Txt.join bar3 [a, b, c]
theorem e_show_frame {r c l : FN.D} {x y z : Str} (h1 : m_show_numbers [some r] = some (.ok (.str x) [none])) (h2 : m_show_numbers [some c] = some (.ok (.str y) [none])) (h3 : m_show_rows [some l] = some (.ok (.str z) [none])) (h : (frS x y z).length ≤ 1000000) : m_show_frame [some (.tuple [r, c, l])] = some (.ok (.str (frS x y z)) [none]) := by
  have e := dJoin_txt (s := bar3) (q := fun x => x) (l := [x, y, z]) (by simpa [frS] using h) (by rw [lenb]; decide)
  simp at e
  simp [m_show_frame, u_runF, b_show_frame, u_fCall, u_noErr, gsCons, h1, h2, h3, sizeLine, e, frS]
/-! ### texts read -/
theorem strOk_lit {s : Str} (h : cs s = [45]) : strOk s = true := strOk_of fun c hc => by rw [h] at hc; simp at hc; omega
theorem strOk_sub {x y : Str} (h : strOk x = true) (hs : ∀ c ∈ cs y, c ∈ cs x) : strOk y = true := strOk_of fun c hc => of_strOk h c (hs c hc)
theorem strIn_one (c : Nat) (x : Str) : strIn ⟨#[c]⟩ x = decide (c ∈ cs x) := rfl
theorem dig_mem (c : Nat) : decide (c ∈ cs ("0123456789" : Str)) = (decide (48 ≤ c) && decide (c ≤ 57)) := by
  rw [show cs ("0123456789" : Str) = [48, 49, 50, 51, 52, 53, 54, 55, 56, 57] by decide +kernel]
  rw [Bool.eq_iff_iff]
  simp
  omega
theorem cut1 (x : Str) : (cutS x none (some 1) = ("-" : Str)) ↔ (cs x).head? = some 45 := by
  have e : cs (cutS x none (some 1)) = (cs x).take 1 := cs_to x 1
  constructor
  · intro h
    rw [h, cs_dash] at e
    cases hx : cs x with
    | nil => rw [hx] at e; cases e
    | cons c l =>
      rw [hx] at e
      simp at e
      simp [e]
  · intro h
    refine str_ext ?_
    rw [e, cs_dash]
    cases hx : cs x with
    | nil => rw [hx] at h; cases h
    | cons c l =>
      rw [hx] at h
      simp at h
      simp [h]
theorem intText_of_intL {x : Str} {n : Int} (h : intL (cs x) = some n) : PySem.intText? x = some n := by
  have hb := intL_bound h
  unfold intL at h
  by_cases h45 : (cs x).head? = some 45
  · simp only [h45, if_true] at h
    by_cases q : (cs x).tail.length = 0 ∨ 30 < (cs x).tail.length ∨ ¬ (∀ c ∈ (cs x).tail, 48 ≤ c ∧ c ≤ 57)
    · rw [if_pos q] at h
      cases h
    · rw [if_neg q] at h
      by_cases q2 : (cs x).tail.head? = some 48 ∧ cs x ≠ [48]
      · rw [if_pos q2] at h
        cases h
      · rw [if_neg q2] at h
        cases hx : cs x with
        | nil => rw [hx] at h45; cases h45
        | cons c l =>
          rw [hx] at h45 h q
          cases h45
          have e := PySem.intText_neg (x := x) (cs := l) hx (Classical.byContradiction fun z => q (.inr (.inr z))) (fun z => q (.inl (by rw [z]; rfl))) (by have := hb.1; rw [cs_len] at this; omega)
          rw [e, ← h]
          rfl
  · simp only [h45, if_false] at h
    by_cases q : (cs x).length = 0 ∨ 30 < (cs x).length ∨ ¬ (∀ c ∈ cs x, 48 ≤ c ∧ c ≤ 57)
    · rw [if_pos q] at h
      cases h
    · rw [if_neg q] at h
      by_cases q2 : (cs x).head? = some 48 ∧ cs x ≠ [48]
      · rw [if_pos q2] at h
        cases h
      · rw [if_neg q2] at h
        have e := PySem.intText_digits (x := x) (Classical.byContradiction fun z => q (.inr (.inr z))) (fun z => q (.inl (by rw [show cs x = [] from z]; rfl))) (by have := hb.1; rw [cs_len] at this; omega)
        rw [e, ← h]
/-- the digits of a word -/
def dg (x : Str) : Str := if (cs x).head? = some 45 then cutS x (some 1) none else x
theorem cs_dg (x : Str) : cs (dg x) = if (cs x).head? = some 45 then (cs x).tail else cs x := by
  unfold dg
  split
  · have := cs_from x 1
    rw [show ((1 : Nat) : Int) = 1 from rfl] at this
    rw [this, List.drop_one]
  · rfl
theorem dg_mem {x : Str} {c : Nat} (h : c ∈ cs (dg x)) : c ∈ cs x := by
  rw [cs_dg] at h
  split at h
  · exact List.mem_of_mem_tail h
  · exact h
theorem dg_len (x : Str) : (dg x).length ≤ x.length := by
  rw [← cs_len, ← cs_len, cs_dg]
  split
  · rw [List.length_tail]; omega
  · exact Nat.le_refl _
theorem intL_dg (x : Str) : intL (cs x) = if ¬ (0 < (dg x).length ∧ (dg x).length ≤ 30) ∨ ¬ ((cs (dg x)).all fun c => decide (48 ≤ c) && decide (c ≤ 57)) = true then none else if (cs (dg x)).head? = some 48 ∧ cs x ≠ [48] then none else PySem.intText? x := by
  have key : ∀ n, intL (cs x) = some n → PySem.intText? x = some n := fun n h => intText_of_intL h
  generalize hi : PySem.intText? x = T at key
  rw [← cs_len]
  have e := cs_dg x
  generalize cs (dg x) = d at e
  unfold intL at key ⊢
  rw [← e] at key ⊢
  simp only at key ⊢
  by_cases q : d.length = 0 ∨ 30 < d.length ∨ ¬ ∀ c ∈ d, 48 ≤ c ∧ c ≤ 57
  · rw [if_pos q, if_pos]
    rcases q with q | q | q
    · left; omega
    · left; omega
    · right
      simpa using q
  · rw [if_neg q] at key ⊢
    have hn : ¬ (¬(0 < d.length ∧ d.length ≤ 30) ∨ ¬(d.all fun c => decide (48 ≤ c) && decide (c ≤ 57)) = true) := by
      intro z
      rcases z with z | z
      · exact q (by omega)
      · exact q (.inr (.inr (by simpa using z)))
    rw [if_neg hn]
    by_cases q2 : d.head? = some 48 ∧ cs x ≠ [48]
    · rw [if_pos q2, if_pos q2]
    · rw [if_neg q2] at key ⊢
      rw [if_neg q2]
      exact (key _ rfl).symm
theorem cs_zero : cs ("0" : Str) = [48] := by decide +kernel
theorem eq_zero (x : Str) : (x = ("0" : Str)) ↔ cs x = [48] := ⟨fun h => by rw [h, cs_zero], fun h => str_ext (by rw [h, cs_zero])⟩
theorem ok_zero : strOk ("0" : Str) = true := by decide +kernel
theorem ok_dash : strOk ("-" : Str) = true := by decide +kernel
theorem e_integer_from {x : Str} (hx : x.length ≤ 1000000) (ho : strOk x = true) : m_integer_from [some (.str x)] = some (.ok (itD (intL (cs x))) [none]) := by
  have hl : x.length ≤ sizeLine := by unfold sizeLine; omega
  have hdl : (dg x).length ≤ sizeLine := Nat.le_trans (dg_len x) hl
  have ho1 : strOk (cutS x none (some 1)) = true := strOk_sub ho fun c hc => by
    rw [show cs (cutS x none (some 1)) = (cs x).take 1 from cs_to x 1] at hc
    exact List.mem_of_mem_take hc
  have e1 : (if decide (cutS x none (some 1) = ("-" : Str)) = true then cutS x (some 1) none else x) = dg x := by
    unfold dg
    by_cases h : (cs x).head? = some 45
    · rw [if_pos h, if_pos (decide_eq_true ((cut1 x).mpr h))]
    · rw [if_neg h, if_neg (by rw [decide_eq_true_eq]; exact fun z => h ((cut1 x).mp z))]
  have es : ∀ ρ : FN.Env, ρ = [some (.str x), none, none] → (fIf (fTst (f2 (.t (.v true)) (.t (.v true)) dEq (f3 (.t (.v true)) (fVar 0) oNone (oSome (fC (.int 1)))) (fC (.str ("-" : Str))))) (f3 (.t (.v true)) (fVar 0) (oSome (fC (.int 1))) oNone) (fVar 0)) ρ = some (.ok (.str (dg x)) [some (.str x), none, none]) := by
    rintro _ rfl
    rw [← e1]
    simp [oNone, oSome, dCut, hl, dEq_ss ho1 ok_dash]
    by_cases h : cutS x none (some 1) = ("-" : Str) <;> simp [h]
  rw [m_integer_from, u_runF, b_integer_from]
  simp only [List.replicate, List.cons_append, List.nil_append, u_sSeq, u_sSet]
  rw [es _ rfl, intL_dg]
  have hc : fLc [2] (iSeq (fVar 1)) (gNm 2) tYesF (f2 (.t (.v true)) (.t (.v true)) dIn (fVar 2) (fC (.str ("0123456789" : Str)))) [some (.str x), some (.str (dg x)), none] = some (.ok (.list ((cs (dg x)).map fun c => .bool (decide (48 ≤ c) && decide (c ≤ 57)))) [some (.str x), some (.str (dg x)), none]) := by
    rw [lc_map (xs := cs (dg x)) (g := fun c => .str ⟨#[c]⟩) (fun c => .bool (decide (48 ≤ c) && decide (c ≤ 57))) (by rw [cs_len]; exact hdl) ?_ ?_]
    · simp
    · simp [chD]
    · intro c _
      have := dig_mem c
      simp [dIn, dInB, strIn_one]
      simpa using this
  have h2 : (dg x).length ≤ 30 → True := fun _ => trivial
  by_cases q1 : 0 < (dg x).length
  · by_cases q2 : (dg x).length ≤ 30
    · by_cases q3 : ((cs (dg x)).all fun c => decide (48 ≤ c) && decide (c ≤ 57)) = true
      · cases hd : cs (dg x) with
        | nil =>
          rw [← cs_len, hd] at q1
          exact absurd q1 (by decide)
        | cons c l =>
          have hc1 : strOk ⟨#[c]⟩ = true := strOk_of fun e he => of_strOk ho e (dg_mem (by rw [hd]; simp at he; rw [he]; exact List.mem_cons_self))
          have hc2 : ((⟨#[c]⟩ : Str) = ("0" : Str)) ↔ c = 48 := by
            rw [eq_zero]
            show [c] = [48] ↔ c = 48
            simp
          have hix : dIx (.str (dg x)) (.int 0) = some (.str ⟨#[c]⟩) := by
            show (if (dg x).length ≤ sizeLine then (atI (cs (dg x)) 0).map fun c => PyData.str ⟨#[c]⟩ else none) = _
            rw [if_pos hdl, atI_0, hd]
            rfl
          have q3' := q3
          rw [hd] at q3'
          have hn : ¬ (¬(0 < (dg x).length ∧ (dg x).length ≤ 30) ∨ ¬((c :: l).all fun c => decide (48 ≤ c) && decide (c ≤ 57)) = true) := by
            rw [q3']
            simp [q1, q2]
          have q30 : ¬ (30 : Int) < ((dg x).length : Int) := by omega
          have key := intL_dg x
          rw [hd, if_neg hn] at key
          rw [if_neg hn, ← key]
          have hxl : x.length ≤ 640 := by
            have e := cs_dg x
            have : (cs x).length ≤ (cs (dg x)).length + 1 := by
              rw [e]
              split
              · rw [List.length_tail]; omega
              · omega
            rw [cs_len, cs_len] at this
            omega
          have hall : dAll (.list ((cs (dg x)).map fun c => .bool (decide (48 ≤ c) && decide (c ≤ 57)))) = some (.bool true) := by rw [dAll_map, q3]
          have htr : ∀ b, truD (.bool b) = some b := fun _ => rfl
          by_cases hz : c = 48 ∧ cs x ≠ [48]
          · have hz1 : (⟨#[c]⟩ : Str) = ("0" : Str) := hc2.mpr hz.1
            have hz2 : ¬ x = ("0" : Str) := fun z => hz.2 ((eq_zero x).mp z)
            rw [if_pos ⟨by rw [hz.1]; rfl, hz.2⟩] at key
            rw [key]
            simp [fCh, dLen, dLt, dLe, oI, hdl, q1, q2, hc, hall, htr, hix, dEq_ss hc1 ok_zero, dNe_ss ho ok_zero, dEq_ss ok_zero ok_zero, dNe_ss ok_zero ok_zero, q30, hz1, hz2, itD]
          · rw [if_neg (by
              intro z
              exact hz ⟨by simpa using z.1, z.2⟩)] at key
            obtain ⟨n, hn2⟩ : ∃ n, intL (cs x) = some n := by
              unfold intL
              rw [← cs_dg, hd]
              simp only
              have z1 : ¬ ((c :: l).length = 0 ∨ 30 < (c :: l).length ∨ ¬ ∀ d ∈ c :: l, 48 ≤ d ∧ d ≤ 57) := by
                rw [← hd, cs_len, hd]
                intro z
                rcases z with z | z | z
                · omega
                · omega
                · exact z (by simpa using q3')
              rw [if_neg z1, if_neg (fun z => hz ⟨by simpa using z.1, z.2⟩)]
              exact ⟨_, rfl⟩
            rw [hn2] at key ⊢
            have hd2 : dInt (.str x) = some (.int n) := by
              show (match PySem.intText? x with | some n => if x.length ≤ 640 then some (PyData.int n) else none | none => none) = _
              rw [← key]
              exact if_pos hxl
            by_cases hz1 : (⟨#[c]⟩ : Str) = ("0" : Str)
            · have hz2 : x = ("0" : Str) := (eq_zero x).mpr (Classical.byContradiction fun z => hz ⟨hc2.mp hz1, z⟩)
              simp [fCh, dLen, dLt, dLe, oI, hdl, q1, q2, hc, hall, htr, hix, dEq_ss hc1 ok_zero, dNe_ss ho ok_zero, dEq_ss ok_zero ok_zero, dNe_ss ok_zero ok_zero, q30, hz1, itD, hd2, eq_true hz2]
            · simp [fCh, dLen, dLt, dLe, oI, hdl, q1, q2, hc, hall, htr, hix, dEq_ss hc1 ok_zero, dNe_ss ho ok_zero, dEq_ss ok_zero ok_zero, dNe_ss ok_zero ok_zero, q30, hz1, itD, hd2]
      · simp [fCh, dLen, dLt, dLe, oI, hdl, q1, q2, hc, q3, truD]
        simp [q3, itD]
    · simp [fCh, dLen, dLt, dLe, oI, hdl, q1, q2, itD, show (30 : Int) < ((dg x).length : Int) by omega]
  · simp [fCh, dLen, dLt, dLe, oI, hdl, q1, itD]
theorem e_L_int {x : Str} (hx : x.length ≤ 1000000) (ho : strOk x = true) : m_L_int [some (.str x)] = some (.ok (itD (intL (cs x))) [none]) := by
  have hl : x.length ≤ sizeLine := by unfold sizeLine; omega
  have hdl : (dg x).length ≤ sizeLine := Nat.le_trans (dg_len x) hl
  have ho1 : strOk (cutS x none (some 1)) = true := strOk_sub ho fun c hc => by
    rw [show cs (cutS x none (some 1)) = (cs x).take 1 from cs_to x 1] at hc
    exact List.mem_of_mem_take hc
  have e1 : (if decide (cutS x none (some 1) = ("-" : Str)) = true then cutS x (some 1) none else x) = dg x := by
    unfold dg
    by_cases h : (cs x).head? = some 45
    · rw [if_pos h, if_pos (decide_eq_true ((cut1 x).mpr h))]
    · rw [if_neg h, if_neg (by rw [decide_eq_true_eq]; exact fun z => h ((cut1 x).mp z))]
  have es : ∀ ρ : FN.Env, ρ = [some (.str x), none, none] → (fIf (fTst (f2 (.t (.v true)) (.t (.v true)) dEq (f3 (.t (.v true)) (fVar 0) oNone (oSome (fC (.int 1)))) (fC (.str ("-" : Str))))) (f3 (.t (.v true)) (fVar 0) (oSome (fC (.int 1))) oNone) (fVar 0)) ρ = some (.ok (.str (dg x)) [some (.str x), none, none]) := by
    rintro _ rfl
    rw [← e1]
    simp [oNone, oSome, dCut, hl, dEq_ss ho1 ok_dash]
    by_cases h : cutS x none (some 1) = ("-" : Str) <;> simp [h]
  rw [m_L_int, u_runF, b_L_int]
  simp only [List.replicate, List.cons_append, List.nil_append, u_sSeq, u_sSet]
  rw [es _ rfl, intL_dg]
  have hc : fLc [2] (iSeq (fVar 1)) (gNm 2) tYesF (f2 (.t (.v true)) (.t (.v true)) dIn (fVar 2) (fC (.str ("0123456789" : Str)))) [some (.str x), some (.str (dg x)), none] = some (.ok (.list ((cs (dg x)).map fun c => .bool (decide (48 ≤ c) && decide (c ≤ 57)))) [some (.str x), some (.str (dg x)), none]) := by
    rw [lc_map (xs := cs (dg x)) (g := fun c => .str ⟨#[c]⟩) (fun c => .bool (decide (48 ≤ c) && decide (c ≤ 57))) (by rw [cs_len]; exact hdl) ?_ ?_]
    · simp
    · simp [chD]
    · intro c _
      have := dig_mem c
      simp [dIn, dInB, strIn_one]
      simpa using this
  have h2 : (dg x).length ≤ 30 → True := fun _ => trivial
  by_cases q1 : 0 < (dg x).length
  · by_cases q2 : (dg x).length ≤ 30
    · by_cases q3 : ((cs (dg x)).all fun c => decide (48 ≤ c) && decide (c ≤ 57)) = true
      · cases hd : cs (dg x) with
        | nil =>
          rw [← cs_len, hd] at q1
          exact absurd q1 (by decide)
        | cons c l =>
          have hc1 : strOk ⟨#[c]⟩ = true := strOk_of fun e he => of_strOk ho e (dg_mem (by rw [hd]; simp at he; rw [he]; exact List.mem_cons_self))
          have hc2 : ((⟨#[c]⟩ : Str) = ("0" : Str)) ↔ c = 48 := by
            rw [eq_zero]
            show [c] = [48] ↔ c = 48
            simp
          have hix : dIx (.str (dg x)) (.int 0) = some (.str ⟨#[c]⟩) := by
            show (if (dg x).length ≤ sizeLine then (atI (cs (dg x)) 0).map fun c => PyData.str ⟨#[c]⟩ else none) = _
            rw [if_pos hdl, atI_0, hd]
            rfl
          have q3' := q3
          rw [hd] at q3'
          have hn : ¬ (¬(0 < (dg x).length ∧ (dg x).length ≤ 30) ∨ ¬((c :: l).all fun c => decide (48 ≤ c) && decide (c ≤ 57)) = true) := by
            rw [q3']
            simp [q1, q2]
          have q30 : ¬ (30 : Int) < ((dg x).length : Int) := by omega
          have key := intL_dg x
          rw [hd, if_neg hn] at key
          rw [if_neg hn, ← key]
          have hxl : x.length ≤ 640 := by
            have e := cs_dg x
            have : (cs x).length ≤ (cs (dg x)).length + 1 := by
              rw [e]
              split
              · rw [List.length_tail]; omega
              · omega
            rw [cs_len, cs_len] at this
            omega
          have hall : dAll (.list ((cs (dg x)).map fun c => .bool (decide (48 ≤ c) && decide (c ≤ 57)))) = some (.bool true) := by rw [dAll_map, q3]
          have htr : ∀ b, truD (.bool b) = some b := fun _ => rfl
          by_cases hz : c = 48 ∧ cs x ≠ [48]
          · have hz1 : (⟨#[c]⟩ : Str) = ("0" : Str) := hc2.mpr hz.1
            have hz2 : ¬ x = ("0" : Str) := fun z => hz.2 ((eq_zero x).mp z)
            rw [if_pos ⟨by rw [hz.1]; rfl, hz.2⟩] at key
            rw [key]
            simp [fCh, dLen, dLt, dLe, oI, hdl, q1, q2, hc, hall, htr, hix, dEq_ss hc1 ok_zero, dNe_ss ho ok_zero, dEq_ss ok_zero ok_zero, dNe_ss ok_zero ok_zero, q30, show (1 : Int) ≤ ((dg x).length : Int) by omega, hz1, hz2, itD]
          · rw [if_neg (by
              intro z
              exact hz ⟨by simpa using z.1, z.2⟩)] at key
            obtain ⟨n, hn2⟩ : ∃ n, intL (cs x) = some n := by
              unfold intL
              rw [← cs_dg, hd]
              simp only
              have z1 : ¬ ((c :: l).length = 0 ∨ 30 < (c :: l).length ∨ ¬ ∀ d ∈ c :: l, 48 ≤ d ∧ d ≤ 57) := by
                rw [← hd, cs_len, hd]
                intro z
                rcases z with z | z | z
                · omega
                · omega
                · exact z (by simpa using q3')
              rw [if_neg z1, if_neg (fun z => hz ⟨by simpa using z.1, z.2⟩)]
              exact ⟨_, rfl⟩
            rw [hn2] at key ⊢
            have hd2 : dInt (.str x) = some (.int n) := by
              show (match PySem.intText? x with | some n => if x.length ≤ 640 then some (PyData.int n) else none | none => none) = _
              rw [← key]
              exact if_pos hxl
            by_cases hz1 : (⟨#[c]⟩ : Str) = ("0" : Str)
            · have hz2 : x = ("0" : Str) := (eq_zero x).mpr (Classical.byContradiction fun z => hz ⟨hc2.mp hz1, z⟩)
              simp [fCh, dLen, dLt, dLe, oI, hdl, q1, q2, hc, hall, htr, hix, dEq_ss hc1 ok_zero, dNe_ss ho ok_zero, dEq_ss ok_zero ok_zero, dNe_ss ok_zero ok_zero, q30, show (1 : Int) ≤ ((dg x).length : Int) by omega, hz1, itD, hd2, eq_true hz2]
            · simp [fCh, dLen, dLt, dLe, oI, hdl, q1, q2, hc, hall, htr, hix, dEq_ss hc1 ok_zero, dNe_ss ho ok_zero, dEq_ss ok_zero ok_zero, dNe_ss ok_zero ok_zero, q30, show (1 : Int) ≤ ((dg x).length : Int) by omega, hz1, itD, hd2]
      · simp [fCh, dLen, dLt, dLe, oI, hdl, q1, q2, hc, q3, truD, show (1 : Int) ≤ ((dg x).length : Int) by omega]
        simp [q3, itD]
    · simp [fCh, dLen, dLt, dLe, oI, hdl, q1, q2, itD, show (1 : Int) ≤ ((dg x).length : Int) by omega, show (30 : Int) < ((dg x).length : Int) by omega]
  · simp [fCh, dLen, dLt, dLe, oI, hdl, q1, itD, show ¬ (1 : Int) ≤ ((dg x).length : Int) by omega]
end K82
set_option Elab.async false
set_option linter.all false
set_option maxRecDepth 100000
set_option maxHeartbeats 2000000
namespace K82
open PySem PySem.Spec PyProof.Rows L2 FN
open PySem.PyData (strOk)
/-! ### rows read -/
def oD {β : Type} (g : β → FN.D) : Option β → FN.D
  | none => .none
  | some b => g b
@[simp] theorem oD_none {β : Type} (g : β → FN.D) : oD g none = .none := rfl
@[simp] theorem oD_some {β : Type} (g : β → FN.D) (b : β) : oD g (some b) = g b := rfl
theorem mapO_cons {α β : Type} (f : α → Option β) (a : α) (l : List α) : mapO f (a :: l) = match f a with | none => none | some b => (mapO f l).map fun l => b :: l := rfl
theorem oD_any {α β : Type} (f : α → Option β) (g : β → FN.D) (hg : ∀ b, isNone (g b) = false) : ∀ l : List α, ((l.map fun a => oD g (f a)).any fun z => PyData.eqv z .none) = (mapO f l).isNone
  | [] => rfl
  | a :: l => by
    rw [List.map_cons, List.any_cons, oD_any f g hg l, mapO_cons]
    cases h : f a with
    | none => simp [oD, isNone]
    | some b => simp [oD, hg]
theorem oD_map {α β : Type} {f : α → Option β} {g : β → FN.D} {l : List α} {l' : List β} (h : mapO f l = some l') : (l.map fun a => oD g (f a)) = l'.map g := by
  have e := mapO_some.mp h
  rw [show (l.map fun a => oD g (f a)) = (l.map f).map (oD g) by rw [List.map_map]; rfl, e, List.map_map]
  rfl
theorem e_all_or_none {α β : Type} (f : α → Option β) (g : β → FN.D) (l : List α) (hg : ∀ b, isNone (g b) = false) (hs : SeqAt.shaped (.list (l.map fun a => oD g (f a))) = true) : m_all_or_none [some (.list (l.map fun a => oD g (f a)))] = some (.ok (oD (fun l' => .tuple (l'.map g)) (mapO f l)) [none]) := by
  have hI : dIn .none (.list (l.map fun a => oD g (f a))) = some (.bool (mapO f l).isNone) := by
    show Option.map _ (if (SeqAt.shaped PyData.none && SeqAt.shaped (.list (l.map fun a => oD g (f a)))) = true then some ((l.map fun a => oD g (f a)).any fun z => PyData.eqv z .none) else none) = _
    rw [hs, shaped_n, oD_any f g hg l]
    rfl
  rw [m_all_or_none, u_runF, b_all_or_none]
  cases h : mapO f l with
  | none =>
    rw [h] at hI
    simp [hI]
  | some l' =>
    rw [h] at hI
    rw [oD_map h] at hI ⊢
    simp [hI, dTuple]
def wordOk (x : Str) : Prop := x.length ≤ 1000000 ∧ strOk x = true
theorem txt_shaped {l : List FN.D} {n : Nat} (h : ∀ d ∈ l, okD n d = true) (hn : n < 64) : SeqAt.shaped (.list l) = true := shaped_ok (n := n + 1) (by
  unfold okD
  rw [List.all_eq_true]
  exact h)
theorem okD_it (n : Nat) (o : Option Int) : okD n (itD o) = true := by
  cases o <;> (unfold itD okD; rfl)
theorem okD_row (n : Nat) (l : List (Option Int)) : okD (n + 1) (rowD l) = true := by
  unfold rowD okD
  rw [List.all_map, List.all_eq_true]
  intro o _
  exact okD_it n o
theorem okD_tab (n : Nat) (l : List (List (Option Int))) : okD (n + 2) (tabD l) = true := by
  unfold tabD okD
  rw [List.all_map, List.all_eq_true]
  intro o _
  exact okD_row n o
theorem okD_oD {β : Type} {n : Nat} {g : β → FN.D} (h : ∀ b, okD n (g b) = true) (o : Option β) : okD n (oD g o) = true := by
  cases o with
  | none => unfold oD okD; rfl
  | some b => exact h b
theorem none_it (i : Int) : isNone (itD (some i)) = false := rfl
theorem piece_ok {x s w : Str} (h : wordOk x) (hw : w ∈ Txt.split x s) : wordOk w := by
  have e := join_split x s
  refine ⟨?_, strOk_sub h.2 fun c hc => ?_⟩
  · have := join_piece (s := s) hw
    rw [e] at this
    exact Nat.le_trans this h.1
  · rw [← e, cs_join]
    have : ∀ (ps : List (List Nat)), cs w ∈ ps → c ∈ jn (cs s) ps := by
      intro ps
      induction ps with
      | nil => intro z; cases z
      | cons p ps ih =>
        intro z
        cases ps with
        | nil =>
          unfold jn
          rcases List.mem_cons.mp z with z | z
          · rw [← z]; exact hc
          · cases z
        | cons q ps =>
          unfold jn
          rcases List.mem_cons.mp z with z | z
          · rw [← z]; exact List.mem_append_left _ hc
          · exact List.mem_append_right _ (List.mem_append_right _ (ih z))
    exact this _ (List.mem_map.mpr ⟨w, hw, rfl⟩)
def intW (w : Str) : Option Int := intL (cs w)
theorem mapO_opt {α β γ : Type} (f : α → Option β) (g : β → γ) : ∀ l : List α, mapO (fun w => (f w).map g) l = (mapO f l).map (List.map g)
  | [] => rfl
  | a :: l => by
    rw [mapO_cons, mapO_cons, mapO_opt f g l]
    cases f a with
    | none => rfl
    | some b => cases mapO f l <;> rfl
theorem rowP_int (x : Str) : rowP false x = (mapO intW (Txt.split x sp1)).map (List.map some) := by
  rw [← mapO_opt]
  unfold rowP
  congr 1
theorem itD_int (o : Option Int) : itD o = oD .int o := by cases o <;> rfl
theorem oD_row (o : Option (List Int)) : oD rowD (o.map (List.map some)) = oD (fun l => .tuple (l.map .int)) o := by
  cases o with
  | none => rfl
  | some l =>
    show rowD (l.map some) = _
    unfold rowD
    rw [List.map_map]
    rfl
/-- a numbers' row: all numbers, or none -/
theorem e_listed_int {x : Str} (h : wordOk x) (t : FN.D) : m_listed__integer_from [some (.str x), some (.str sp1), some t] = some (.ok (oD rowD (rowP false x)) [none, none, some t]) := by
  have e : (Txt.split x sp1).length ≤ sizeLine := by
    have := split_len x sp1 kind1 (by rw [len1]; decide)
    have := h.1
    unfold sizeLine
    omega
  have := h.1
  simp [m_listed__integer_from, u_runF, b_listed__integer_from]
  rw [u_fCall, u_aCons, lc_map (xs := Txt.split x sp1) (g := .str) (fun w => oD .int (intW w)) e ?_ ?_]
  · have hs : SeqAt.shaped (.list ((Txt.split x sp1).map fun w => oD .int (intW w))) = true := txt_shaped (n := 4) (fun d hd => by
      obtain ⟨w, _, rfl⟩ := List.mem_map.mp hd
      exact okD_oD (fun b => by unfold okD; rfl) _) (by decide)
    have r := e_all_or_none intW .int (Txt.split x sp1) (fun b => by rfl) hs
    simp only [u_ok, u_aNil, u_fillT, u_fill0, u_noErr]
    simp [r]
    rw [rowP_int, oD_row]
  · simp [dSplit, len1, show x.length + 2 ≤ sizeLine by unfold sizeLine; omega]
  · intro w hw
    have := (e_integer_from (piece_ok h hw).1 (piece_ok h hw).2).trans (by rw [itD_int]; rfl : _ = some (.ok (oD .int (intW w)) [none]))
    simp [u_fCall, u_noErr, this]
theorem e_item_from {x : Str} (h : wordOk x) : m_item_from [some (.str x)] = some (.ok (oD (fun o => .tuple [itD o]) (itm true x)) [none]) := by
  have e : (x = ("-" : Str)) ↔ cs x = [45] := ⟨fun z => by rw [z, cs_dash], fun z => str_ext (by rw [z, cs_dash])⟩
  have r := e_integer_from h.1 h.2
  unfold itm
  by_cases z : cs x = [45]
  · rw [if_pos ⟨rfl, z⟩]
    simp [m_item_from, u_runF, b_item_from, dEq_ss h.2 ok_dash, e, z, sizeLine, itD]
  · rw [if_neg (fun q => z q.2)]
    cases q : intL (cs x) with
    | none =>
      rw [q] at r
      simp [m_item_from, u_runF, b_item_from, dEq_ss h.2 ok_dash, e, z, sizeLine, u_fCall, u_noErr, r, dIs, isNone, itD]
    | some i =>
      rw [q] at r
      simp [m_item_from, u_runF, b_item_from, dEq_ss h.2 ok_dash, e, z, sizeLine, u_fCall, u_noErr, r, dIs, isNone, itD]
theorem e_listed_item {x : Str} (h : wordOk x) (t : FN.D) : m_listed__item_from [some (.str x), some (.str sp1), some t] = some (.ok (oD (fun l => .tuple (l.map fun o => .tuple [itD o])) (rowP true x)) [none, none, some t]) := by
  have e : (Txt.split x sp1).length ≤ sizeLine := by
    have := split_len x sp1 kind1 (by rw [len1]; decide)
    have := h.1
    unfold sizeLine
    omega
  have := h.1
  simp [m_listed__item_from, u_runF, b_listed__item_from]
  rw [u_fCall, u_aCons, lc_map (xs := Txt.split x sp1) (g := .str) (fun w => oD (fun o => .tuple [itD o]) ((itm true) w)) e ?_ ?_]
  · have hs : SeqAt.shaped (.list ((Txt.split x sp1).map fun w => oD (fun o => .tuple [itD o]) ((itm true) w))) = true := txt_shaped (n := 4) (fun d hd => by
      obtain ⟨w, _, rfl⟩ := List.mem_map.mp hd
      exact okD_oD (fun b => by cases b <;> (unfold okD; simp [itD]; unfold okD; rfl)) _) (by decide)
    have r := e_all_or_none (itm true) (fun o => .tuple [itD o]) (Txt.split x sp1) (fun b => by rfl) hs
    simp only [u_ok, u_aNil, u_fillT, u_fill0, u_noErr]
    simp [r]
    rfl
  · simp [dSplit, len1, show x.length + 2 ≤ sizeLine by unfold sizeLine; omega]
  · intro w hw
    have := e_item_from (piece_ok h hw)
    simp [u_fCall, u_noErr, this]
theorem e_integers_from {x : Str} (h : wordOk x) : m_integers_from [some (.str x)] = some (.ok (oD rowD (rowP false x)) [none]) := by
  simp [m_integers_from, u_runF, b_integers_from, u_fCall, u_noErr, e_listed_int h]
theorem e_items_from {x : Str} (h : wordOk x) : m_items_from [some (.str x)] = some (.ok (oD rowD (rowP true x)) [none]) := by
  have r := e_listed_item h (.dict [])
  cases q : rowP true x with
  | none =>
    rw [q] at r
    simp [m_items_from, u_runF, b_items_from, u_fCall, u_noErr, r, dIs, isNone]
  | some l =>
    rw [q] at r
    have hl : l.length ≤ sizeLine := by
      rw [mapO_length q]
      have := split_len x sp1 kind1 (by rw [len1]; decide)
      have := h.1
      unfold sizeLine
      omega
    simp [m_items_from, u_runF, b_items_from, u_fCall, u_noErr, r, dIs, isNone]
    rw [lc_map (xs := l) (g := fun o => .tuple [itD o]) itD hl ?_ ?_]
    · simp [dTuple, rowD]
    · simp
    · intro o _
      simp [dIx]
theorem e_listed_ints {x : Str} (h : wordOk x) (t : FN.D) : m_listed__integers_from [some (.str x), some (.str sp3), some t] = some (.ok (oD tabD (tabP false x)) [none, none, some t]) := by
  have e : (Txt.split x sp3).length ≤ sizeLine := by
    have := split_len x sp3 kind3 (by rw [len3]; decide)
    have := h.1
    unfold sizeLine
    omega
  have := h.1
  simp [m_listed__integers_from, u_runF, b_listed__integers_from]
  rw [u_fCall, u_aCons, lc_map (xs := Txt.split x sp3) (g := .str) (fun w => oD rowD ((rowP false) w)) e ?_ ?_]
  · have hs : SeqAt.shaped (.list ((Txt.split x sp3).map fun w => oD rowD ((rowP false) w))) = true := txt_shaped (n := 4) (fun d hd => by
      obtain ⟨w, _, rfl⟩ := List.mem_map.mp hd
      exact okD_oD (fun b => by exact okD_row 3 b) _) (by decide)
    have r := e_all_or_none (rowP false) rowD (Txt.split x sp3) (fun b => by rfl) hs
    simp only [u_ok, u_aNil, u_fillT, u_fill0, u_noErr]
    simp [r]
    rfl
  · simp [dSplit, len3, show x.length + 2 ≤ sizeLine by unfold sizeLine; omega]
  · intro w hw
    have := e_integers_from (piece_ok h hw)
    simp [u_fCall, u_noErr, this]
theorem e_listed_items {x : Str} (h : wordOk x) (t : FN.D) : m_listed__items_from [some (.str x), some (.str sp3), some t] = some (.ok (oD tabD (tabP true x)) [none, none, some t]) := by
  have e : (Txt.split x sp3).length ≤ sizeLine := by
    have := split_len x sp3 kind3 (by rw [len3]; decide)
    have := h.1
    unfold sizeLine
    omega
  have := h.1
  simp [m_listed__items_from, u_runF, b_listed__items_from]
  rw [u_fCall, u_aCons, lc_map (xs := Txt.split x sp3) (g := .str) (fun w => oD rowD ((rowP true) w)) e ?_ ?_]
  · have hs : SeqAt.shaped (.list ((Txt.split x sp3).map fun w => oD rowD ((rowP true) w))) = true := txt_shaped (n := 4) (fun d hd => by
      obtain ⟨w, _, rfl⟩ := List.mem_map.mp hd
      exact okD_oD (fun b => by exact okD_row 3 b) _) (by decide)
    have r := e_all_or_none (rowP true) rowD (Txt.split x sp3) (fun b => by rfl) hs
    simp only [u_ok, u_aNil, u_fillT, u_fill0, u_noErr]
    simp [r]
    rfl
  · simp [dSplit, len3, show x.length + 2 ≤ sizeLine by unfold sizeLine; omega]
  · intro w hw
    have := e_items_from (piece_ok h hw)
    simp [u_fCall, u_noErr, this]
end K82
set_option Elab.async false
set_option linter.all false
set_option maxRecDepth 100000
set_option maxHeartbeats 2000000
namespace K82
open PySem PySem.Spec PyProof.Rows L2 FN
open PySem.PyData (strOk)
/-! ### checks of tables -/
abbrev Tab := List (List (Option Int))
def ge0 : Option Int → Bool
  | none => true
  | some i => decide (0 ≤ i)
def in01 : Option Int → Bool
  | none => false
  | some i => decide (0 ≤ i) && decide (i ≤ 1)
def hdl (l : Tab) : Nat := (l.head?.map List.length).getD 0
def evenB (most wide : Int) (l : Tab) : Bool := decide (1 ≤ l.length) && decide ((l.length : Int) ≤ most) && l.all fun r => decide (1 ≤ r.length) && decide ((r.length : Int) ≤ wide) && decide (r.length = hdl l)
def from0 (l : Tab) : Bool := l.all fun r => r.all ge0
def smallT (l : Tab) : Prop := l.length ≤ 1000000 ∧ ∀ r ∈ l, r.length ≤ 1000000
theorem inB_it {lo : Int} {hi : Option Int} (o : Option Int) : inB lo hi (itD o) = match o with | none => false | some i => inB lo hi (.int i) := by cases o <;> rfl
theorem hd_ix {l : Tab} {r : List (Option Int)} (h : r ∈ l) : ∃ r0, dIx (tabD l) (.int 0) = some (rowD r0) ∧ hdl l = r0.length := by
  cases l with
  | nil => cases h
  | cons r0 l =>
    refine ⟨r0, ?_, rfl⟩
    show atI ((r0 :: l).map rowD) 0 = _
    rw [atI_0]
    rfl
theorem e_are_row {r : List (Option Int)} (lo : Int) (hi : Option Int) (h : r.length ≤ 1000000) : m_are_integers [some (rowD r), some (.int lo), some (itD hi)] = some (.ok (.bool (r.all fun o => inB lo hi (itD o))) [none, none, none]) := by
  unfold rowD
  rw [e_are_integers _ lo hi (by rw [List.length_map]; unfold sizeLine; omega), List.all_map]
  rfl
theorem seq_tab (l : Tab) (ρ : FN.Env) (i : Nat) (h : ρ[i]? = some (some (tabD l))) : iSeq (fVar i) ρ = some (.ok (l.map rowD) ρ) := by
  simp [h, tabD]
theorem seq_row (l : List (Option Int)) (ρ : FN.Env) (i : Nat) (h : ρ[i]? = some (some (rowD l))) : iSeq (fVar i) ρ = some (.ok (l.map itD) ρ) := by
  simp [h, rowD]
theorem tru_b (b : Bool) : truD (.bool b) = some b := rfl
theorem len_row (r : List (Option Int)) : dLen (rowD r) = some (.int r.length) := by simp [dLen, rowD]
theorem len_tab (r : Tab) : dLen (tabD r) = some (.int r.length) := by simp [dLen, tabD]
theorem inT_tab (lo hi : Int) (l : Tab) : inT lo hi (tabD l) = (decide (lo ≤ l.length) && decide ((l.length : Int) ≤ hi)) := by simp [inT, tabD]
theorem inT_row (lo hi : Int) (l : List (Option Int)) : inT lo hi (rowD l) = (decide (lo ≤ l.length) && decide ((l.length : Int) ≤ hi)) := by simp [inT, rowD]
theorem e_plain_none : m_is_a_plain_table [some .none] = some (.ok (.bool false) [none]) := by
  simp [m_is_a_plain_table, u_runF, b_is_a_plain_table, u_fCall, u_noErr, e_is_tuple, inT, tru_b]
theorem e_plain {l : Tab} (h : smallT l) (h2 : ∀ r ∈ l, ∀ o ∈ r, o.isSome = true) : m_is_a_plain_table [some (tabD l)] = some (.ok (.bool (evenB 7 8 l && from0 l)) [none]) := by
  have hl : l.length ≤ sizeLine := by have := h.1; unfold sizeLine; omega
  have f0 : (l.all fun r => r.all fun o => inB 0 none (itD o)) = from0 l := by
    unfold from0
    rw [Bool.eq_iff_iff, List.all_eq_true, List.all_eq_true]
    refine forall_congr' fun r => forall_congr' fun hr => ?_
    rw [List.all_eq_true, List.all_eq_true]
    refine forall_congr' fun o => forall_congr' fun ho => ?_
    have := h2 r hr o ho
    cases o with
    | none => cases this
    | some i => simp [inB, itD, ge0]
  have c1 : fLc [1] (iSeq (fVar 0)) (gNm 1) tYesF (fCall [.t (.v true), .t (.v true), .t (.v true)] (noErr m_are_integers) (aCons (fVar 1) (aCons (fC (.int 0)) (aCons (fC .none) aNil)))) [some (tabD l), none] = some (.ok (.list (l.map fun r => .bool (r.all fun o => inB 0 none (itD o)))) [some (tabD l), none]) := by
    rw [lc_map (xs := l) (g := rowD) (fun r => .bool (r.all fun o => inB 0 none (itD o))) hl (seq_tab l _ _ rfl) ?_]
    · simp
    · intro r hr
      have := e_are_row 0 none (h.2 r hr)
      simp [itD] at this
      simp [u_fCall, u_noErr, this, itD]
  have c2 : fLc [1] (iSeq (fVar 0)) (gNm 1) tYesF (fAnd (fCh (.t (.v true)) (.t (.v true)) (.t (.v true)) dLe dLe (fC (.int 1)) (f1 (.t (.v true)) dLen (fVar 1)) (fC (.int 8))) (f2 (.t (.v true)) (.t (.v true)) dEq (f1 (.t (.v true)) dLen (fVar 1)) (f1 (.t (.v true)) dLen (f2 (.t (.v true)) (.t (.v true)) dIx (fVar 0) (fC (.int 0)))))) [some (tabD l), none] = some (.ok (.list (l.map fun r => .bool (decide (1 ≤ r.length) && decide ((r.length : Int) ≤ 8) && decide (r.length = hdl l)))) [some (tabD l), none]) := by
    rw [lc_map (xs := l) (g := rowD) (fun r => .bool (decide (1 ≤ r.length) && decide ((r.length : Int) ≤ 8) && decide (r.length = hdl l))) hl (seq_tab l _ _ rfl) ?_]
    · simp
    · intro r hr
      obtain ⟨r0, e0, e1⟩ := hd_ix hr
      by_cases q1 : 1 ≤ r.length
      · by_cases q2 : (r.length : Int) ≤ 8
        · simp [fCh, len_row, dLe, oI, q1, q2, e0, e1, show (1 : Int) ≤ (r.length : Int) by omega, Int.natCast_inj]
        · simp [fCh, len_row, dLe, oI, q1, q2, e0, e1, show (1 : Int) ≤ (r.length : Int) by omega]
      · simp [fCh, len_row, dLe, oI, q1, e0, e1, show ¬ (1 : Int) ≤ (r.length : Int) by omega]
  have q : inT 1 7 (tabD l) = (decide (1 ≤ l.length) && decide ((l.length : Int) ≤ 7)) := by
    rw [inT_tab]
    congr 1
    rw [Bool.eq_iff_iff]
    simp
    omega
  have t := e_is_tuple (tabD l) 1 7
  rw [q] at t
  rw [m_is_a_plain_table, u_runF, b_is_a_plain_table]
  unfold evenB
  cases q1 : (decide (1 ≤ l.length) && decide ((l.length : Int) ≤ 7)) with
  | false =>
    rw [q1] at t
    simp [u_fCall, u_noErr, t, tru_b]
  | true =>
    rw [q1] at t
    cases q2 : from0 l with
    | false => simp [u_fCall, u_noErr, t, tru_b, c1, f0, q2]
    | true =>
      simp [u_fCall, u_noErr, t, tru_b, c1, f0, q2, c2]
def rowsB (wide : Int) (l : Tab) : Bool := l.all fun r => decide (1 ≤ r.length) && decide ((r.length : Int) ≤ wide)
def eqB (l : Tab) : Bool := l.all fun r => decide (r.length = hdl l)
theorem all_and {α : Type} (p q : α → Bool) : ∀ l : List α, (l.all fun a => p a && q a) = (l.all p && l.all q)
  | [] => rfl
  | a :: l => by
    rw [List.all_cons, List.all_cons, List.all_cons, all_and p q l]
    cases p a <;> cases q a <;> cases l.all p <;> rfl
theorem evenB_eq (most wide : Int) (l : Tab) : evenB most wide l = (decide (1 ≤ l.length) && decide ((l.length : Int) ≤ most) && (rowsB wide l && eqB l)) := by
  unfold evenB rowsB eqB
  rw [all_and (fun r : List (Option Int) => decide (1 ≤ r.length) && decide ((r.length : Int) ≤ wide))]
theorem one_le (n : Nat) : decide ((1 : Int) ≤ (n : Int)) = decide (1 ≤ n) := by
  rw [Bool.eq_iff_iff]
  simp
  omega
theorem c_rows {l : Tab} (wide : Int) (hl : l.length ≤ sizeLine) (rest : FN.Env) : fLc [1] (iSeq (fVar 0)) (gNm 1) tYesF (fCall [.t (.v true), .t (.v true), .t (.v true)] (noErr m_is_tuple) (aCons (fVar 1) (aCons (fC (.int 1)) (aCons (fC (.int wide)) aNil)))) (some (tabD l) :: none :: rest) = some (.ok (.list (l.map fun r => .bool (decide (1 ≤ r.length) && decide ((r.length : Int) ≤ wide)))) (some (tabD l) :: none :: rest)) := by
  rw [lc_map (xs := l) (g := rowD) (fun r => .bool (decide (1 ≤ r.length) && decide ((r.length : Int) ≤ wide))) hl (seq_tab l _ _ rfl) ?_]
  · simp
  · intro r hr
    have := e_is_tuple (rowD r) 1 wide
    rw [inT_row, one_le] at this
    simp [u_fCall, u_noErr, this]
theorem e_board_none : m_is_a_board [some .none] = some (.ok (.bool false) [none]) := by
  simp [m_is_a_board, u_runF, b_is_a_board, u_fCall, u_noErr, e_is_tuple, inT, tru_b]
def all01 (l : Tab) : Bool := l.all fun r => r.all in01
theorem e_board {l : Tab} (h : smallT l) : m_is_a_board [some (tabD l)] = some (.ok (.bool (evenB 7 8 l && all01 l)) [none]) := by
  have hl : l.length ≤ sizeLine := by have := h.1; unfold sizeLine; omega
  have c2 : fLc [1] (iSeq (fVar 0)) (gNm 1) tYesF (fAnd (f2 (.t (.v true)) (.t (.v true)) dEq (f1 (.t (.v true)) dLen (fVar 1)) (f1 (.t (.v true)) dLen (f2 (.t (.v true)) (.t (.v true)) dIx (fVar 0) (fC (.int 0))))) (fCall [.t (.v true), .t (.v true), .t (.v true)] (noErr m_are_integers) (aCons (fVar 1) (aCons (fC (.int 0)) (aCons (fC (.int 1)) aNil))))) [some (tabD l), none] = some (.ok (.list (l.map fun r => .bool (decide (r.length = hdl l) && r.all in01))) [some (tabD l), none]) := by
    rw [lc_map (xs := l) (g := rowD) (fun r => .bool (decide (r.length = hdl l) && r.all in01)) hl (seq_tab l _ _ rfl) ?_]
    · simp
    · intro r hr
      obtain ⟨r0, e0, e1⟩ := hd_ix hr
      have t := e_are_row 0 (some 1) (h.2 r hr)
      rw [show (r.all fun o => inB 0 (some 1) (itD o)) = r.all in01 by
        congr 1
        funext o
        cases o <;> rfl] at t
      simp only [itD] at t
      by_cases q1 : r.length = hdl l
      · simp [len_row, e0, ← e1, q1, Int.natCast_inj, u_fCall, u_noErr, t]
      · simp [len_row, e0, ← e1, q1, Int.natCast_inj]
  have t := e_is_tuple (tabD l) 1 7
  rw [inT_tab, one_le] at t
  have c1 := c_rows (l := l) 8 hl []
  rw [m_is_a_board, u_runF, b_is_a_board, evenB_eq]
  cases q1 : (decide (1 ≤ l.length) && decide ((l.length : Int) ≤ 7)) with
  | false =>
    rw [q1] at t
    simp [u_fCall, u_noErr, t, tru_b]
  | true =>
    rw [q1] at t
    have d1 : dAll (.list (l.map fun r => .bool (decide (1 ≤ r.length) && decide ((r.length : Int) ≤ 8)))) = some (.bool (rowsB 8 l)) := by rw [dAll_map]; rfl
    have d2 : dAll (.list (l.map fun r => .bool (decide (r.length = hdl l) && r.all in01))) = some (.bool (eqB l && all01 l)) := by rw [dAll_map, all_and]; rfl
    cases q2 : rowsB 8 l with
    | false =>
      rw [q2] at d1
      simp [u_fCall, u_noErr, t, tru_b, c1, d1]
    | true =>
      rw [q2] at d1
      simp [u_fCall, u_noErr, t, tru_b, c1, d1, c2, d2]
theorem e_costs_none : m_is_a_costs [some .none] = some (.ok (.bool false) [none]) := by
  simp [m_is_a_costs, u_runF, b_is_a_costs, u_fCall, u_noErr, e_is_tuple, inT, tru_b]
theorem opt_between (o : Option Int) : isNone (itD o) = false → inB 0 none (itD o) = ge0 o := by
  cases o with
  | none => intro z; cases z
  | some i => intro _; simp [inB, itD, ge0]
theorem e_or_between {ρ : FN.Env} {i : Nat} {o : Option Int} (h : ρ[i]? = some (some (itD o))) : (fOr (f2 (.t (.v true)) (.t (.v true)) dIs (fVar i) (fC .none)) (fCall [.t (.v true), .t (.v true), .t (.v true)] (noErr m_is_between) (aCons (fVar i) (aCons (fC (.int 0)) (aCons (fC .none) aNil))))) ρ = some (.ok (.bool (ge0 o)) ρ) := by
  have t := e_between (itD o) 0 none
  simp only [show itD none = PyData.none from rfl] at t
  cases o with
  | none => simp [h, dIs, isNone, itD, ge0]
  | some j =>
    rw [opt_between _ rfl] at t
    simp only [itD] at t h
    simp [h, dIs, isNone, itD, u_fCall, u_noErr, t]
theorem flat_all {α β : Type} (ys : α → List β) (q : β → Bool) : ∀ l : List α, dAll (.list (l.flatMap fun x => (ys x).map fun y => .bool (q y))) = some (.bool (l.all fun x => (ys x).all q)) := fun l => by
  have : (l.flatMap fun x => (ys x).map fun y => (PyData.bool (q y))) = (l.flatMap ys).map fun y => PyData.bool (q y) := by
    rw [List.map_flatMap]
  rw [this, dAll_map, List.all_flatMap]
theorem e_costs {l : Tab} (h : smallT l) (hf : l.flatten.length ≤ sizeLine) : m_is_a_costs [some (tabD l)] = some (.ok (.bool (evenB 6 7 l && from0 l)) [none]) := by
  have hl : l.length ≤ sizeLine := by have := h.1; unfold sizeLine; omega
  have c2 : fLc [1] (iSeq (fVar 0)) (gNm 1) tYesF (f2 (.t (.v true)) (.t (.v true)) dEq (f1 (.t (.v true)) dLen (fVar 1)) (f1 (.t (.v true)) dLen (f2 (.t (.v true)) (.t (.v true)) dIx (fVar 0) (fC (.int 0))))) [some (tabD l), none, none] = some (.ok (.list (l.map fun r => .bool (decide (r.length = hdl l)))) [some (tabD l), none, none]) := by
    rw [lc_map (xs := l) (g := rowD) (fun r => .bool (decide (r.length = hdl l))) hl (seq_tab l _ _ rfl) ?_]
    · simp
    · intro r hr
      obtain ⟨r0, e0, e1⟩ := hd_ix hr
      simp [len_row, e0, ← e1, Int.natCast_inj]
  have c3 : fLc2 [1, 2] [2] (iSeq (fVar 0)) (gNm 1) tYesF (iSeq (fVar 1)) (gNm 2) tYesF (fOr (f2 (.t (.v true)) (.t (.v true)) dIs (fVar 2) (fC .none)) (fCall [.t (.v true), .t (.v true), .t (.v true)] (noErr m_is_between) (aCons (fVar 2) (aCons (fC (.int 0)) (aCons (fC .none) aNil))))) [some (tabD l), none, none] = some (.ok (.list (l.flatMap fun r => r.map fun o => .bool (ge0 o))) [some (tabD l), none, none]) := by
    rw [lc2_map (xs := l) (g := rowD) (g1 := itD) (ys := fun r => r) (fun _ o => .bool (ge0 o)) (by decide) (by simpa [List.flatMap] using hf) (seq_tab l _ _ rfl) ?_]
    · simp
    · intro r hr
      exact ⟨seq_row r _ _ (by simp), fun o _ => e_or_between (by simp)⟩
  have t := e_is_tuple (tabD l) 1 6
  rw [inT_tab, one_le] at t
  have c1 := c_rows (l := l) 7 hl [none]
  rw [m_is_a_costs, u_runF, b_is_a_costs, evenB_eq]
  cases q1 : (decide (1 ≤ l.length) && decide ((l.length : Int) ≤ 6)) with
  | false =>
    rw [q1] at t
    simp [u_fCall, u_noErr, t, tru_b]
  | true =>
    rw [q1] at t
    have d1 : dAll (.list (l.map fun r => .bool (decide (1 ≤ r.length) && decide ((r.length : Int) ≤ 7)))) = some (.bool (rowsB 7 l)) := by rw [dAll_map]; rfl
    have d2 : dAll (.list (l.map fun r => .bool (decide (r.length = hdl l)))) = some (.bool (eqB l)) := by rw [dAll_map]; rfl
    have d3 : dAll (.list (l.flatMap fun r => r.map fun o => .bool (ge0 o))) = some (.bool (from0 l)) := flat_all (fun r => r) ge0 l
    cases q2 : rowsB 7 l with
    | false =>
      rw [q2] at d1
      simp [u_fCall, u_noErr, t, tru_b, c1, d1]
    | true =>
      rw [q2] at d1
      cases q3 : eqB l with
      | false =>
        rw [q3] at d2
        simp [u_fCall, u_noErr, t, tru_b, c1, d1, c2, d2]
      | true =>
        rw [q3] at d2
        simp [u_fCall, u_noErr, t, tru_b, c1, d1, c2, d2, c3, d3]
end K82
set_option Elab.async false
set_option linter.all false
set_option maxRecDepth 100000
set_option maxHeartbeats 2000000
namespace K82
open PySem PySem.Spec PyProof.Rows L2 FN
open PySem.PyData (strOk)
/-! ### frames -/
abbrev Row := List (Option Int)
def sumsB (r : Row) : Bool := decide (1 ≤ r.length) && decide ((r.length : Int) ≤ 5) && r.all ge0
theorem e_are_sums {r : Row} (h : r.length ≤ 1000000) (hs : ∀ o ∈ r, o.isSome = true) : m_are_sums [some (rowD r)] = some (.ok (.bool (sumsB r)) [none]) := by
  have t := e_is_tuple (rowD r) 1 5
  rw [inT_row, one_le] at t
  have t2 := e_are_row 0 none h
  rw [show (r.all fun o => inB 0 none (itD o)) = r.all ge0 by
    rw [Bool.eq_iff_iff, List.all_eq_true, List.all_eq_true]
    refine forall_congr' fun o => forall_congr' fun ho => ?_
    have := hs o ho
    cases o with
    | none => cases this
    | some i => simp [inB, itD, ge0]] at t2
  simp only [show itD none = PyData.none from rfl] at t2
  rw [m_are_sums, u_runF, b_are_sums]
  unfold sumsB
  cases q : (decide (1 ≤ r.length) && decide ((r.length : Int) ≤ 5)) with
  | false =>
    rw [q] at t
    simp [u_fCall, u_noErr, t]
  | true =>
    rw [q] at t
    simp [u_fCall, u_noErr, t, t2]
def limB (n : Nat) (r : Row) : Bool := decide (r.length = n) && r.all ge0
theorem le_le (a n : Nat) : (decide ((n : Int) ≤ (a : Int)) && decide ((a : Int) ≤ (n : Int))) = decide (a = n) := by
  rw [Bool.eq_iff_iff]
  simp
  omega
theorem e_are_limits {r : Row} {n : Nat} (h : r.length ≤ 1000000) : m_are_limits [some (rowD r), some (.int n)] = some (.ok (.bool (limB n r)) [none, none]) := by
  have t := e_is_tuple (rowD r) n n
  rw [inT_row, le_le] at t
  have c : fLc [2] (iSeq (fVar 0)) (gNm 2) tYesF (fOr (f2 (.t (.v true)) (.t (.v true)) dIs (fVar 2) (fC .none)) (fCall [.t (.v true), .t (.v true), .t (.v true)] (noErr m_is_between) (aCons (fVar 2) (aCons (fC (.int 0)) (aCons (fC .none) aNil))))) [some (rowD r), some (.int n), none] = some (.ok (.list (r.map fun o => .bool (ge0 o))) [some (rowD r), some (.int n), none]) := by
    rw [lc_map (xs := r) (g := itD) (fun o => .bool (ge0 o)) (by unfold sizeLine; omega) (seq_row r _ _ rfl) ?_]
    · simp
    · intro o _
      exact e_or_between (by simp)
  have d : dAll (.list (r.map fun o => .bool (ge0 o))) = some (.bool (r.all ge0)) := dAll_map ge0 r
  rw [m_are_limits, u_runF, b_are_limits]
  unfold limB
  cases q : decide (r.length = n) with
  | false =>
    rw [q] at t
    simp [u_fCall, u_noErr, t]
  | true =>
    rw [q] at t
    simp [u_fCall, u_noErr, t, c, d]
def frD (r c : Row) (l : Tab) : FN.D := .tuple [rowD r, rowD c, tabD l]
def frB (r c : Row) (l : Tab) : Bool := sumsB r && sumsB c && (decide (l.length = r.length) && l.all (limB c.length))
theorem e_frame_none : m_is_a_frame [some .none] = some (.ok (.bool false) [none]) := by
  simp [m_is_a_frame, u_runF, b_is_a_frame, u_fCall, u_noErr, e_is_tuple, inT, tru_b]
theorem e_is_a_frame {r c : Row} {l : Tab} (hr : r.length ≤ 1000000) (hc : c.length ≤ 1000000) (hl : smallT l) (sr : ∀ o ∈ r, o.isSome = true) (sc : ∀ o ∈ c, o.isSome = true) : m_is_a_frame [some (frD r c l)] = some (.ok (.bool (frB r c l)) [none]) := by
  have t := e_is_tuple (frD r c l) 3 3
  rw [show inT 3 3 (frD r c l) = true from rfl] at t
  have t1 := e_are_sums hr sr
  have t2 := e_are_sums hc sc
  have i0 : dIx (frD r c l) (.int 0) = some (rowD r) := by
    show atI [rowD r, rowD c, tabD l] 0 = _
    rw [atI_0]; rfl
  have i1 : dIx (frD r c l) (.int 1) = some (rowD c) := by
    show atI [rowD r, rowD c, tabD l] 1 = _
    rw [atI_1]; rfl
  have t3 := e_is_tuple (tabD l) r.length r.length
  rw [inT_tab, le_le] at t3
  have cc : fLc [4] (iSeq (fVar 3)) (gNm 4) tYesF (fCall [.t (.v true), .t (.v true)] (noErr m_are_limits) (aCons (fVar 4) (aCons (f1 (.t (.v true)) dLen (fVar 2)) aNil))) [some (frD r c l), some (rowD r), some (rowD c), some (tabD l), none] = some (.ok (.list (l.map fun row => .bool (limB c.length row))) [some (frD r c l), some (rowD r), some (rowD c), some (tabD l), none]) := by
    rw [lc_map (xs := l) (g := rowD) (fun row => .bool (limB c.length row)) (by have := hl.1; unfold sizeLine; omega) (seq_tab l _ _ rfl) ?_]
    · simp
    · intro row h
      simp [len_row, u_fCall, u_noErr, e_are_limits (n := c.length) (hl.2 row h)]
  have d : dAll (.list (l.map fun row => .bool (limB c.length row))) = some (.bool (l.all (limB c.length))) := dAll_map _ l
  have tp : ∀ ρ, gTp (gsCons (gNm 1) (gsCons (gNm 2) (gsCons (gNm 3) gsNil))) (frD r c l) ρ = some (((ρ.set 1 (some (rowD r))).set 2 (some (rowD c))).set 3 (some (tabD l))) := fun ρ => rfl
  rw [m_is_a_frame, u_runF, b_is_a_frame]
  unfold frB
  cases q1 : sumsB r with
  | false =>
    rw [q1] at t1
    simp [u_fCall, u_noErr, t, tru_b, i0, t1]
  | true =>
    rw [q1] at t1
    cases q2 : sumsB c with
    | false =>
      rw [q2] at t2
      simp [u_fCall, u_noErr, t, tru_b, i0, i1, t1, t2]
    | true =>
      rw [q2] at t2
      cases q3 : decide (l.length = r.length) with
      | false =>
        rw [q3] at t3
        simp [u_fCall, u_noErr, t, tru_b, i0, i1, t1, t2, tp, len_row, t3]
      | true =>
        rw [q3] at t3
        simp [u_fCall, u_noErr, t, tru_b, i0, i1, t1, t2, tp, len_row, t3, cc, d]
/-! ### the readers -/
theorem row_small {b : Bool} {x : Str} {l : Row} (h : wordOk x) (e : rowP b x = some l) : l.length ≤ 1000001 := by
  rw [mapO_length e]
  have := split_len x sp1 kind1 (by rw [len1]; decide)
  have := h.1
  omega
def wordOk' (x : Str) : Prop := x.length ≤ 900000 ∧ strOk x = true
theorem wordOk'.w {x : Str} (h : wordOk' x) : wordOk x := ⟨by have := h.1; omega, h.2⟩
theorem row_small' {b : Bool} {x : Str} {l : Row} (h : wordOk' x) (e : rowP b x = some l) : l.length ≤ 1000000 := by
  rw [mapO_length e]
  have := split_len x sp1 kind1 (by rw [len1]; decide)
  have := h.1
  omega
theorem piece_ok' {x s w : Str} (h : wordOk' x) (hw : w ∈ Txt.split x s) : wordOk' w := by
  refine ⟨?_, (piece_ok h.w hw).2⟩
  have := join_piece (s := s) hw
  rw [join_split] at this
  exact Nat.le_trans this h.1
theorem tab_small {b : Bool} {x : Str} {l : Tab} (h : wordOk' x) (e : tabP b x = some l) : smallT l := by
  constructor
  · rw [mapO_length e]
    have := split_len x sp3 kind3 (by rw [len3]; decide)
    have := h.1
    omega
  · intro r hr
    obtain ⟨w, hw, e2⟩ := mapO_mem e r hr
    exact row_small' (piece_ok' h hw) e2
theorem tab_sm {b : Bool} {x : Str} {l : Tab} (e : tabP b x = some l) : ∀ r ∈ l, r ≠ [] ∧ ∀ o ∈ r, Sm o ∧ (b = false → o.isSome = true) := fun r hr => by
  obtain ⟨w, hw, e2⟩ := mapO_mem e r hr
  exact ⟨rowP_ne e2, rowP_sm e2⟩
theorem e_shown_numbers {d : FN.D} {x s : Str} (t : FN.D) (h : m_show_numbers [some d] = some (.ok (.str s) [none])) (hs : strOk s = true) (hx : strOk x = true) (e : s = x) : m_shown__show_numbers [some d, some (.str x), some t] = some (.ok d [none, none, some t]) := by
  subst e
  simp [m_shown__show_numbers, u_runF, b_shown__show_numbers, u_fCall, u_noErr, h, dEq_ss hs hs]
theorem e_shown_table {d : FN.D} {x s : Str} (t : FN.D) (h : m_show_rows [some d] = some (.ok (.str s) [none])) (hs : strOk s = true) (e : s = x) : m_shown__show_table [some d, some (.str x), some t] = some (.ok d [none, none, some t]) := by
  subst e
  simp [m_shown__show_table, u_runF, b_shown__show_table, u_fCall, u_noErr, e_show_table d h, dEq_ss hs hs]
theorem e_shown_costs {d : FN.D} {x s : Str} (t : FN.D) (h : m_show_rows [some d] = some (.ok (.str s) [none])) (hs : strOk s = true) (e : s = x) : m_shown__show_costs [some d, some (.str x), some t] = some (.ok d [none, none, some t]) := by
  subst e
  simp [m_shown__show_costs, u_runF, b_shown__show_costs, u_fCall, u_noErr, e_show_costs d h, dEq_ss hs hs]
theorem e_shown_frame {d : FN.D} {x s : Str} (t : FN.D) (h : m_show_frame [some d] = some (.ok (.str s) [none])) (hs : strOk s = true) (e : s = x) : m_shown__show_frame [some d, some (.str x), some t] = some (.ok d [none, none, some t]) := by
  subst e
  simp [m_shown__show_frame, u_runF, b_shown__show_frame, u_fCall, u_noErr, h, dEq_ss hs hs]
theorem shown_tab {b : Bool} {x : Str} {l : Tab} (h : wordOk' x) (e : tabP b x = some l) : m_show_rows [some (tabD l)] = some (.ok (.str x) [none]) := by
  have sm := tab_small h e
  have := e_show_rows (l := l) (fun r hr => ⟨(tab_sm e r hr).1, sm.2 r hr, fun o ho => ((tab_sm e r hr).2 o ho).1⟩) (by rw [tabP_back e]; exact h.w.1) sm.1
  rw [tabP_back e] at this
  exact this
theorem shown_row {x : Str} {l : Row} (h : wordOk' x) (e : rowP false x = some l) : m_show_numbers [some (rowD l)] = some (.ok (.str x) [none]) := by
  have := e_show_numbers (l := l) (rowP_ne e) (fun o ho => ⟨(rowP_sm e o ho).1, (rowP_sm e o ho).2 rfl⟩) (by rw [rowP_back e]; exact h.w.1) (row_small' h e)
  rw [rowP_back e] at this
  exact this
/-- what each kind of text is read as -/
def tabR (b : Bool) (q : Tab → Bool) (x : Str) : Option FN.D := match tabP b x with
  | some l => if q l = true then some (tabD l) else none
  | none => none
theorem e_table_from {x : Str} (h : wordOk' x) : m_table_from [some (.str x)] = some (.ok (oD id (tabR false (fun l => evenB 7 8 l && from0 l) x)) [none]) := by
  have r := e_listed_ints h.w (.dict [])
  unfold tabR
  cases q : tabP false x with
  | none =>
    rw [q] at r
    simp [m_table_from, u_runF, b_table_from, u_fCall, u_noErr, r, e_plain_none, tru_b]
  | some l =>
    rw [q] at r
    have p := e_plain (tab_small h q) (fun r hr o ho => ((tab_sm q r hr).2 o ho).2 rfl)
    have s := e_shown_table (.dict []) (shown_tab h q) h.2 rfl
    cases z : (evenB 7 8 l && from0 l) <;> rw [z] at p <;> simp [m_table_from, u_runF, b_table_from, u_fCall, u_noErr, r, p, tru_b, s, z]
theorem e_board_from {x : Str} (h : wordOk' x) : m_board_from [some (.str x)] = some (.ok (oD id (tabR false (fun l => evenB 7 8 l && all01 l) x)) [none]) := by
  have r := e_listed_ints h.w (.dict [])
  unfold tabR
  cases q : tabP false x with
  | none =>
    rw [q] at r
    simp [m_board_from, u_runF, b_board_from, u_fCall, u_noErr, r, e_board_none, tru_b]
  | some l =>
    rw [q] at r
    have p := e_board (tab_small h q)
    have s := e_shown_table (.dict []) (shown_tab h q) h.2 rfl
    cases z : (evenB 7 8 l && all01 l) <;> rw [z] at p <;> simp [m_board_from, u_runF, b_board_from, u_fCall, u_noErr, r, p, tru_b, s, z]
end K82
set_option Elab.async false
set_option linter.all false
set_option maxRecDepth 100000
set_option maxHeartbeats 2000000
namespace K82
open PySem PySem.Spec PyProof.Rows L2 FN
open PySem.PyData (strOk)
theorem flat_len {b : Bool} : ∀ {ws : List Str} {l : Tab}, mapO (rowP b) ws = some l → l.flatten.length ≤ (ws.map (·.length)).sum + ws.length
  | [], l, h => by
    cases h
    simp
  | w :: ws, l, h => by
    rw [mapO_cons] at h
    cases q : rowP b w with
    | none => rw [q] at h; cases h
    | some r =>
      rw [q] at h
      simp only [Option.map_eq_some_iff] at h
      obtain ⟨l', e, rfl⟩ := h
      have ih := flat_len e
      have h1 : r.length ≤ w.length + 1 := by
        rw [mapO_length q]
        exact split_len w sp1 kind1 (by rw [len1]; decide)
      rw [List.flatten_cons, List.length_append, List.map_cons, List.sum_cons, List.length_cons]
      omega
theorem tab_flat {b : Bool} {x : Str} {l : Tab} (h : wordOk x) (e : tabP b x = some l) : l.flatten.length ≤ sizeLine := by
  have h1 := flat_len e
  have h2 := join_len sp3 (Txt.split x sp3) (split_ne x sp3 kind3 (by rw [len3]; decide))
  rw [join_split, len3] at h2
  have := h.1
  unfold sizeLine
  omega
theorem e_costs_from {x : Str} (h : wordOk' x) : m_costs_from [some (.str x)] = some (.ok (oD id (tabR true (fun l => evenB 6 7 l && from0 l) x)) [none]) := by
  have r := e_listed_items h.w (.dict [])
  unfold tabR
  cases q : tabP true x with
  | none =>
    rw [q] at r
    simp [m_costs_from, u_runF, b_costs_from, u_fCall, u_noErr, r, e_costs_none, tru_b]
  | some l =>
    rw [q] at r
    have p := e_costs (tab_small h q) (tab_flat h.w q)
    have s := e_shown_costs (.dict []) (shown_tab h q) h.2 rfl
    cases z : (evenB 6 7 l && from0 l) <;> rw [z] at p <;> simp [m_costs_from, u_runF, b_costs_from, u_fCall, u_noErr, r, p, tru_b, s, z]
def numR (x : Str) : Option FN.D := if x = ("-" : Str) then some (.tuple []) else match rowP false x with
  | some l => if l.length ≤ 20 then some (rowD l) else none
  | none => none
theorem shown_nil : m_show_numbers [some (.tuple [])] = some (.ok (.str ("-" : Str)) [none]) := by
  simp [m_show_numbers, u_runF, b_show_numbers, u_fCall, u_noErr, m_joined, b_joined, dLen, dGt, oI, u_fLc, compL, wipeE]
theorem e_numbers_from {x : Str} (h : wordOk' x) : m_numbers_from [some (.str x)] = some (.ok (oD id (numR x)) [none]) := by
  have r := e_integers_from h.w
  unfold numR
  by_cases d : x = ("-" : Str)
  · rw [if_pos d]
    have s := e_shown_numbers (x := x) (.dict []) shown_nil ok_dash h.2 d.symm
    have t := e_is_tuple (.tuple []) 0 20
    rw [show inT 0 20 (.tuple []) = true from rfl] at t
    have e : dEq (.str x) (.str ("-" : Str)) = some (.bool true) := by rw [dEq_ss h.2 ok_dash, decide_eq_true d]
    simp [m_numbers_from, u_runF, b_numbers_from, u_fCall, u_noErr, e, t, tru_b, s, sizeLine]
  · rw [if_neg d]
    have e : dEq (.str x) (.str ("-" : Str)) = some (.bool false) := by rw [dEq_ss h.2 ok_dash, decide_eq_false d]
    cases q : rowP false x with
    | none =>
      rw [q] at r
      have t := e_is_tuple .none 0 20
      rw [show inT 0 20 .none = false from rfl] at t
      simp [m_numbers_from, u_runF, b_numbers_from, u_fCall, u_noErr, e, r, t, tru_b]
    | some l =>
      rw [q] at r
      have t := e_is_tuple (rowD l) 0 20
      rw [inT_row] at t
      have s := e_shown_numbers (.dict []) (shown_row h q) h.2 h.2 rfl
      by_cases z : l.length ≤ 20
      · rw [show (decide ((0 : Int) ≤ (l.length : Int)) && decide ((l.length : Int) ≤ 20)) = true by simp; omega] at t
        simp [m_numbers_from, u_runF, b_numbers_from, u_fCall, u_noErr, e, r, t, tru_b, s, z]
      · rw [show (decide ((0 : Int) ≤ (l.length : Int)) && decide ((l.length : Int) ≤ 20)) = false by simp; omega] at t
        simp [m_numbers_from, u_runF, b_numbers_from, u_fCall, u_noErr, e, r, t, tru_b, s, z]
def frR (a b : Option Row) (c : Option Tab) : Option FN.D := match a, b, c with
  | some r, some s, some l => if frB r s l = true then some (frD r s l) else none
  | _, _, _ => none
def t3 (a b c : Option FN.D) : FN.D := match a, b, c with
  | some x, some y, some z => .tuple [x, y, z]
  | _, _, _ => .none
def frameR (x : Str) : Option FN.D := match Txt.split x bar3 with
  | [a, b, c] => frR (rowP false a) (rowP false b) (tabP true c)
  | _ => none
def optD (o : Option FN.D) : Option FN.D := o
theorem e_aon3 (a b c : Option FN.D) (ha : ∀ d, a = some d → isNone d = false) (hb : ∀ d, b = some d → isNone d = false) (hc : ∀ d, c = some d → isNone d = false) (hs : SeqAt.shaped (.list [oD id a, oD id b, oD id c]) = true) : m_all_or_none [some (.list [oD id a, oD id b, oD id c])] = some (.ok (t3 a b c) [none]) := by
  have hI : ∀ ds, dIn .none (.list ds) = if SeqAt.shaped (.list ds) = true then some (.bool (ds.any isNone)) else none := by
    intro ds
    show Option.map _ (if (SeqAt.shaped PyData.none && SeqAt.shaped (.list ds)) = true then some (ds.any fun z => PyData.eqv z .none) else none) = _
    rw [shaped_n, Bool.true_and]
    simp only [eqv_xn]
    split <;> rfl
  have hi := hI [oD id a, oD id b, oD id c]
  rw [hs, if_pos rfl] at hi
  rw [m_all_or_none, u_runF, b_all_or_none]
  cases a with
  | none => simp [isNone] at hi; simp [hi, t3]
  | some x =>
    have h1 := ha x rfl
    cases b with
    | none => simp [isNone] at hi; simp [hi, t3]
    | some y =>
      have h2 := hb y rfl
      cases c with
      | none => simp [isNone] at hi; simp [hi, t3]
      | some z =>
        have h3 := hc z rfl
        simp [h1, h2, h3] at hi
        simp [hi, dTuple, t3]
end K82
set_option Elab.async false
set_option linter.all false
set_option maxRecDepth 100000
set_option maxHeartbeats 2000000
namespace K82
open PySem PySem.Spec PyProof.Rows L2 FN
open PySem.PyData (strOk)
theorem oD_id {β : Type} (g : β → FN.D) (o : Option β) : oD g o = oD id (o.map g) := by cases o <;> rfl
theorem split_frame {x : Str} : dSplit x (.str bar3) = if x.length + 2 ≤ sizeLine then some (.list ((Txt.split x bar3).map .str)) else none := by
  simp [dSplit, lenb]
theorem e_frame_from {x : Str} (h : wordOk' x) : m_frame_from [some (.str x)] = some (.ok (oD id (frameR x)) [none]) := by
  have hsp : dSplit x (.str bar3) = some (.list ((Txt.split x bar3).map .str)) := by
    rw [split_frame, if_pos]
    have := h.1
    unfold sizeLine
    omega
  have hp : ∀ w ∈ Txt.split x bar3, wordOk' w := fun w hw => piece_ok' h hw
  have hj := join_split x bar3
  unfold frameR
  generalize Txt.split x bar3 = ws at *
  have no : ws.length ≠ 3 → m_frame_from [some (.str x)] = some (.ok .none [none]) := fun hn => by
    simp [m_frame_from, u_runF, b_frame_from, hsp, dLen, show ¬ ((ws.length : Int) = 3) by omega]
  match ws, hsp, hp, hj, no with
  | [], _, _, _, no => exact no (by decide)
  | [a], _, _, _, no => exact no (by simp)
  | [a, b], _, _, _, no => exact no (by simp)
  | a :: b :: c :: d :: l, _, _, _, no => exact no (by simp)
  | [a, b, c], hsp, hp, hj, _ =>
    have ra := e_integers_from (hp a (by simp)).w
    have rb := e_integers_from (hp b (by simp)).w
    have rc := e_listed_items (hp c (by simp)).w (.dict [])
    rw [oD_id] at ra rb rc
    have aon := e_aon3 ((rowP false a).map rowD) ((rowP false b).map rowD) ((tabP true c).map tabD) (fun d e => by
      cases q : rowP false a <;> rw [q] at e <;> cases e; rfl) (fun d e => by
      cases q : rowP false b <;> rw [q] at e <;> cases e; rfl) (fun d e => by
      cases q : tabP true c <;> rw [q] at e <;> cases e; rfl) (txt_shaped (n := 4) (fun d hd => by
        simp only [List.mem_cons, List.not_mem_nil, or_false] at hd
        rcases hd with rfl | rfl | rfl
        · rw [← oD_id]; exact okD_oD (okD_row 3) _
        · rw [← oD_id]; exact okD_oD (okD_row 3) _
        · rw [← oD_id]; exact okD_oD (okD_tab 2) _) (by decide))
    have i0 : dIx (.list [.str a, .str b, .str c]) (.int 0) = some (.str a) := by
      show atI [PyData.str a, .str b, .str c] 0 = _
      rw [atI_0]; rfl
    have i1 : dIx (.list [.str a, .str b, .str c]) (.int 1) = some (.str b) := by
      show atI [PyData.str a, .str b, .str c] 1 = _
      rw [atI_1]; rfl
    have i2 : dIx (.list [.str a, .str b, .str c]) (.int 2) = some (.str c) := by
      show atI [PyData.str a, .str b, .str c] 2 = _
      rw [atI_2]; rfl
    have none_case : t3 ((rowP false a).map rowD) ((rowP false b).map rowD) ((tabP true c).map tabD) = .none → m_frame_from [some (.str x)] = some (.ok .none [none]) := fun e => by
      rw [e] at aon
      simp [m_frame_from, u_runF, b_frame_from, hsp, dLen, i0, i1, i2, u_fCall, u_noErr, ra, rb, rc, aon, sizeLine, e_frame_none, tru_b]
    show m_frame_from [some (.str x)] = some (.ok (oD id (frR (rowP false a) (rowP false b) (tabP true c))) [none])
    cases qa : rowP false a with
    | none => exact none_case (by rw [qa]; rfl)
    | some r =>
      cases qb : rowP false b with
      | none => exact none_case (by rw [qa, qb]; rfl)
      | some s =>
        cases qc : tabP true c with
        | none => exact none_case (by rw [qa, qb, qc]; rfl)
        | some l =>
          rw [qa, qb, qc] at aon
          rw [qa] at ra
          rw [qb] at rb
          rw [qc] at rc
          have ha := hp a (by simp)
          have hb := hp b (by simp)
          have hc := hp c (by simp)
          have p := e_is_a_frame (row_small' ha qa) (row_small' hb qb) (tab_small hc qc) (fun o ho => (rowP_sm qa o ho).2 rfl) (fun o ho => (rowP_sm qb o ho).2 rfl)
          have sh := e_show_frame (shown_row ha qa) (shown_row hb qb) (shown_tab hc qc) (by unfold frS; rw [hj]; exact h.w.1)
          rw [show frS a b c = x from hj] at sh
          have s2 := e_shown_frame (.dict []) sh h.2 rfl
          have ft : (PyData.tuple [rowD r, rowD s, tabD l]) = frD r s l := rfl
          rw [ft] at s2
          simp only [Option.map_some, t3, ft] at aon
          simp only [Option.map_some, oD_some, id] at ra rb rc aon
          cases z : frB r s l <;> rw [z] at p <;> simp [m_frame_from, u_runF, b_frame_from, hsp, dLen, i0, i1, i2, u_fCall, u_noErr, ra, rb, rc, aon, sizeLine, p, tru_b, s2, z, frR]
/-! ### reading, refusing -/
/-- what is read at all -/
def readR (k : Int) (x : Str) : Option FN.D := if k = 0 then numR x else if k = 1 then tabR false (fun l => evenB 7 8 l && from0 l) x else if k = 2 then tabR false (fun l => evenB 7 8 l && all01 l) x else if k = 3 then tabR true (fun l => evenB 6 7 l && from0 l) x else frameR x
theorem numR_some {x : Str} {d : FN.D} (h : numR x = some d) : isNone d = false := by
  unfold numR at h
  split at h
  · cases h; rfl
  · split at h
    · split at h
      · cases h; rfl
      · cases h
    · cases h
theorem tabR_some {b : Bool} {q : Tab → Bool} {x : Str} {d : FN.D} (h : tabR b q x = some d) : isNone d = false := by
  unfold tabR at h
  split at h
  · split at h
    · cases h; rfl
    · cases h
  · cases h
theorem frameR_some {x : Str} {d : FN.D} (h : frameR x = some d) : isNone d = false := by
  unfold frameR at h
  split at h
  · unfold frR at h
    split at h
    · split at h
      · cases h; rfl
      · cases h
    · cases h
  · cases h
end K82
set_option Elab.async false
set_option linter.all false
set_option maxRecDepth 100000
set_option maxHeartbeats 2000000
namespace K82
open PySem PySem.Spec PyProof.Rows L2 FN
open PySem.PyData (strOk)
def rdO (o : Option FN.D) (d : FN.D) (ρ : FN.Env) : Option (Out FN.D) := match o with
  | some v => some (.ok v ρ)
  | none => some (.err "Unreadable" d ρ)
theorem e_rb_numbers {d t : FN.D} {o : Option FN.D} (hn : ∀ v, o = some v → isNone v = false) (h : if isStr d = true then m_numbers_from [some d] = some (.ok (oD id o) [none]) else o = none) : m_read_by__numbers_from [some t, some d] = rdO o d [some t, none] := by
  cases q : isStr d with
  | true =>
    rw [q, if_pos rfl] at h
    cases o with
    | none => simp at h; simp [m_read_by__numbers_from, u_runF, b_read_by__numbers_from, u_fCall, u_noErr, q, tru_b, h, dIs, isNone, sRaise, rdO]
    | some v => simp at h; simp [m_read_by__numbers_from, u_runF, b_read_by__numbers_from, u_fCall, u_noErr, q, tru_b, h, dIs, hn v rfl, rdO]
  | false =>
    rw [q, if_neg (by decide)] at h
    subst h
    simp [m_read_by__numbers_from, u_runF, b_read_by__numbers_from, u_fCall, u_noErr, q, tru_b, dIs, isNone, sRaise, rdO]
theorem e_rb_table {d t : FN.D} {o : Option FN.D} (hn : ∀ v, o = some v → isNone v = false) (h : if isStr d = true then m_table_from [some d] = some (.ok (oD id o) [none]) else o = none) : m_read_by__table_from [some t, some d] = rdO o d [some t, none] := by
  cases q : isStr d with
  | true =>
    rw [q, if_pos rfl] at h
    cases o with
    | none => simp at h; simp [m_read_by__table_from, u_runF, b_read_by__table_from, u_fCall, u_noErr, q, tru_b, h, dIs, isNone, sRaise, rdO]
    | some v => simp at h; simp [m_read_by__table_from, u_runF, b_read_by__table_from, u_fCall, u_noErr, q, tru_b, h, dIs, hn v rfl, rdO]
  | false =>
    rw [q, if_neg (by decide)] at h
    subst h
    simp [m_read_by__table_from, u_runF, b_read_by__table_from, u_fCall, u_noErr, q, tru_b, dIs, isNone, sRaise, rdO]
theorem e_rb_board {d t : FN.D} {o : Option FN.D} (hn : ∀ v, o = some v → isNone v = false) (h : if isStr d = true then m_board_from [some d] = some (.ok (oD id o) [none]) else o = none) : m_read_by__board_from [some t, some d] = rdO o d [some t, none] := by
  cases q : isStr d with
  | true =>
    rw [q, if_pos rfl] at h
    cases o with
    | none => simp at h; simp [m_read_by__board_from, u_runF, b_read_by__board_from, u_fCall, u_noErr, q, tru_b, h, dIs, isNone, sRaise, rdO]
    | some v => simp at h; simp [m_read_by__board_from, u_runF, b_read_by__board_from, u_fCall, u_noErr, q, tru_b, h, dIs, hn v rfl, rdO]
  | false =>
    rw [q, if_neg (by decide)] at h
    subst h
    simp [m_read_by__board_from, u_runF, b_read_by__board_from, u_fCall, u_noErr, q, tru_b, dIs, isNone, sRaise, rdO]
theorem e_rb_costs {d t : FN.D} {o : Option FN.D} (hn : ∀ v, o = some v → isNone v = false) (h : if isStr d = true then m_costs_from [some d] = some (.ok (oD id o) [none]) else o = none) : m_read_by__costs_from [some t, some d] = rdO o d [some t, none] := by
  cases q : isStr d with
  | true =>
    rw [q, if_pos rfl] at h
    cases o with
    | none => simp at h; simp [m_read_by__costs_from, u_runF, b_read_by__costs_from, u_fCall, u_noErr, q, tru_b, h, dIs, isNone, sRaise, rdO]
    | some v => simp at h; simp [m_read_by__costs_from, u_runF, b_read_by__costs_from, u_fCall, u_noErr, q, tru_b, h, dIs, hn v rfl, rdO]
  | false =>
    rw [q, if_neg (by decide)] at h
    subst h
    simp [m_read_by__costs_from, u_runF, b_read_by__costs_from, u_fCall, u_noErr, q, tru_b, dIs, isNone, sRaise, rdO]
theorem e_rb_frame {d t : FN.D} {o : Option FN.D} (hn : ∀ v, o = some v → isNone v = false) (h : if isStr d = true then m_frame_from [some d] = some (.ok (oD id o) [none]) else o = none) : m_read_by__frame_from [some t, some d] = rdO o d [some t, none] := by
  cases q : isStr d with
  | true =>
    rw [q, if_pos rfl] at h
    cases o with
    | none => simp at h; simp [m_read_by__frame_from, u_runF, b_read_by__frame_from, u_fCall, u_noErr, q, tru_b, h, dIs, isNone, sRaise, rdO]
    | some v => simp at h; simp [m_read_by__frame_from, u_runF, b_read_by__frame_from, u_fCall, u_noErr, q, tru_b, h, dIs, hn v rfl, rdO]
  | false =>
    rw [q, if_neg (by decide)] at h
    subst h
    simp [m_read_by__frame_from, u_runF, b_read_by__frame_from, u_fCall, u_noErr, q, tru_b, dIs, isNone, sRaise, rdO]
end K82
set_option Elab.async false
set_option linter.all false
set_option maxRecDepth 100000
set_option maxHeartbeats 2000000
namespace K82
open PySem PySem.Spec PyProof.Rows L2 FN
open PySem.PyData (strOk)
def readD (k : Int) : FN.D → Option FN.D
  | .str x => readR k x
  | _ => none
theorem readR_some {k : Int} {x : Str} {d : FN.D} (h : readR k x = some d) : isNone d = false := by
  unfold readR at h
  split at h
  · exact numR_some h
  · split at h
    · exact tabR_some h
    · split at h
      · exact tabR_some h
      · split at h
        · exact tabR_some h
        · exact frameR_some h
theorem readD_some {k : Int} {d v : FN.D} (h : readD k d = some v) : isNone v = false := by
  match d, h with
  | .str x, h => exact readR_some (k := k) (x := x) h
end K82
set_option Elab.async false
set_option linter.all false
set_option maxRecDepth 100000
set_option maxHeartbeats 2000000
namespace K82
open PySem PySem.Spec PyProof.Rows L2 FN
open PySem.PyData (strOk)
theorem readD_0 (x : Str) : readD 0 (.str x) = numR x := by
  show readR 0 x = _
  simp [readR]
theorem e_read_numbers {d : FN.D} (h : ∀ x, d = .str x → wordOk' x) : m_read_numbers [some d] = rdO (readD 0 d) d [none] := by
  have hyp : if isStr d = true then m_numbers_from [some d] = some (.ok (oD id (readD 0 d)) [none]) else readD 0 d = none := by
    match d, h with
    | .str x, h =>
      rw [if_pos (show isStr (.str x) = true from rfl), e_numbers_from (h x rfl), readD_0]
    | .none, _ => rw [if_neg (show ¬ isStr (.none) = true by decide)]; rfl
    | .bool _, _ => rw [if_neg (show ¬ isStr (.bool _) = true by simp [isStr])]; rfl
    | .int _, _ => rw [if_neg (show ¬ isStr (.int _) = true by simp [isStr])]; rfl
    | .list _, _ => rw [if_neg (show ¬ isStr (.list _) = true by simp [isStr])]; rfl
    | .tuple _, _ => rw [if_neg (show ¬ isStr (.tuple _) = true by simp [isStr])]; rfl
    | .dict _, _ => rw [if_neg (show ¬ isStr (.dict _) = true by simp [isStr])]; rfl
  have r := fun t => e_rb_numbers (d := d) (t := t) (o := readD 0 d) (fun v z => readD_some z) hyp
  rw [m_read_numbers, u_runF, b_read_numbers]
  cases q : readD 0 d <;> simp [u_fCall, r, q, rdO]
theorem readD_1 (x : Str) : readD 1 (.str x) = tabR false (fun l => evenB 7 8 l && from0 l) x := by
  show readR 1 x = _
  simp [readR]
theorem e_read_table {d : FN.D} (h : ∀ x, d = .str x → wordOk' x) : m_read_table [some d] = rdO (readD 1 d) d [none] := by
  have hyp : if isStr d = true then m_table_from [some d] = some (.ok (oD id (readD 1 d)) [none]) else readD 1 d = none := by
    match d, h with
    | .str x, h =>
      rw [if_pos (show isStr (.str x) = true from rfl), e_table_from (h x rfl), readD_1]
    | .none, _ => rw [if_neg (show ¬ isStr (.none) = true by decide)]; rfl
    | .bool _, _ => rw [if_neg (show ¬ isStr (.bool _) = true by simp [isStr])]; rfl
    | .int _, _ => rw [if_neg (show ¬ isStr (.int _) = true by simp [isStr])]; rfl
    | .list _, _ => rw [if_neg (show ¬ isStr (.list _) = true by simp [isStr])]; rfl
    | .tuple _, _ => rw [if_neg (show ¬ isStr (.tuple _) = true by simp [isStr])]; rfl
    | .dict _, _ => rw [if_neg (show ¬ isStr (.dict _) = true by simp [isStr])]; rfl
  have r := fun t => e_rb_table (d := d) (t := t) (o := readD 1 d) (fun v z => readD_some z) hyp
  rw [m_read_table, u_runF, b_read_table]
  cases q : readD 1 d <;> simp [u_fCall, r, q, rdO]
theorem readD_2 (x : Str) : readD 2 (.str x) = tabR false (fun l => evenB 7 8 l && all01 l) x := by
  show readR 2 x = _
  simp [readR]
theorem e_read_board {d : FN.D} (h : ∀ x, d = .str x → wordOk' x) : m_read_board [some d] = rdO (readD 2 d) d [none] := by
  have hyp : if isStr d = true then m_board_from [some d] = some (.ok (oD id (readD 2 d)) [none]) else readD 2 d = none := by
    match d, h with
    | .str x, h =>
      rw [if_pos (show isStr (.str x) = true from rfl), e_board_from (h x rfl), readD_2]
    | .none, _ => rw [if_neg (show ¬ isStr (.none) = true by decide)]; rfl
    | .bool _, _ => rw [if_neg (show ¬ isStr (.bool _) = true by simp [isStr])]; rfl
    | .int _, _ => rw [if_neg (show ¬ isStr (.int _) = true by simp [isStr])]; rfl
    | .list _, _ => rw [if_neg (show ¬ isStr (.list _) = true by simp [isStr])]; rfl
    | .tuple _, _ => rw [if_neg (show ¬ isStr (.tuple _) = true by simp [isStr])]; rfl
    | .dict _, _ => rw [if_neg (show ¬ isStr (.dict _) = true by simp [isStr])]; rfl
  have r := fun t => e_rb_board (d := d) (t := t) (o := readD 2 d) (fun v z => readD_some z) hyp
  rw [m_read_board, u_runF, b_read_board]
  cases q : readD 2 d <;> simp [u_fCall, r, q, rdO]
theorem readD_3 (x : Str) : readD 3 (.str x) = tabR true (fun l => evenB 6 7 l && from0 l) x := by
  show readR 3 x = _
  simp [readR]
theorem e_read_costs {d : FN.D} (h : ∀ x, d = .str x → wordOk' x) : m_read_costs [some d] = rdO (readD 3 d) d [none] := by
  have hyp : if isStr d = true then m_costs_from [some d] = some (.ok (oD id (readD 3 d)) [none]) else readD 3 d = none := by
    match d, h with
    | .str x, h =>
      rw [if_pos (show isStr (.str x) = true from rfl), e_costs_from (h x rfl), readD_3]
    | .none, _ => rw [if_neg (show ¬ isStr (.none) = true by decide)]; rfl
    | .bool _, _ => rw [if_neg (show ¬ isStr (.bool _) = true by simp [isStr])]; rfl
    | .int _, _ => rw [if_neg (show ¬ isStr (.int _) = true by simp [isStr])]; rfl
    | .list _, _ => rw [if_neg (show ¬ isStr (.list _) = true by simp [isStr])]; rfl
    | .tuple _, _ => rw [if_neg (show ¬ isStr (.tuple _) = true by simp [isStr])]; rfl
    | .dict _, _ => rw [if_neg (show ¬ isStr (.dict _) = true by simp [isStr])]; rfl
  have r := fun t => e_rb_costs (d := d) (t := t) (o := readD 3 d) (fun v z => readD_some z) hyp
  rw [m_read_costs, u_runF, b_read_costs]
  cases q : readD 3 d <;> simp [u_fCall, r, q, rdO]
theorem readD_4 (x : Str) : readD 4 (.str x) = frameR x := by
  show readR 4 x = _
  simp [readR]
theorem e_read_frame {d : FN.D} (h : ∀ x, d = .str x → wordOk' x) : m_read_frame [some d] = rdO (readD 4 d) d [none] := by
  have hyp : if isStr d = true then m_frame_from [some d] = some (.ok (oD id (readD 4 d)) [none]) else readD 4 d = none := by
    match d, h with
    | .str x, h =>
      rw [if_pos (show isStr (.str x) = true from rfl), e_frame_from (h x rfl), readD_4]
    | .none, _ => rw [if_neg (show ¬ isStr (.none) = true by decide)]; rfl
    | .bool _, _ => rw [if_neg (show ¬ isStr (.bool _) = true by simp [isStr])]; rfl
    | .int _, _ => rw [if_neg (show ¬ isStr (.int _) = true by simp [isStr])]; rfl
    | .list _, _ => rw [if_neg (show ¬ isStr (.list _) = true by simp [isStr])]; rfl
    | .tuple _, _ => rw [if_neg (show ¬ isStr (.tuple _) = true by simp [isStr])]; rfl
    | .dict _, _ => rw [if_neg (show ¬ isStr (.dict _) = true by simp [isStr])]; rfl
  have r := fun t => e_rb_frame (d := d) (t := t) (o := readD 4 d) (fun v z => readD_some z) hyp
  rw [m_read_frame, u_runF, b_read_frame]
  cases q : readD 4 d <;> simp [u_fCall, r, q, rdO]
end K82
set_option Elab.async false
set_option linter.all false
set_option maxRecDepth 100000
set_option maxHeartbeats 2000000
namespace K82
open PySem PySem.Spec PyProof.Rows L2 FN
open PySem.PyData (strOk)
/-! ### the law's own reading -/
theorem mapO_isSome {α β : Type} (f : α → Option β) : ∀ l : List α, (mapO f l).isSome = l.all fun a => (f a).isSome
  | [] => rfl
  | a :: l => by
    rw [mapO_cons, List.all_cons, ← mapO_isSome f l]
    cases f a with
    | none => rfl
    | some b => cases mapO f l <;> rfl
def qW (b : Bool) (w : Str) : Bool := (intL (cs w)).isSome || (b && decide (w = ("-" : Str)))
theorem dash_iff (w : Str) : (w = ("-" : Str)) ↔ cs w = [45] := ⟨fun z => by rw [z, cs_dash], fun z => str_ext (by rw [z, cs_dash])⟩
theorem qW_itm (b : Bool) (w : Str) : qW b w = (itm b w).isSome := by
  unfold qW itm
  by_cases h : cs w = [45]
  · rw [decide_eq_true ((dash_iff w).mpr h), h, intL_dash]
    cases b <;> simp
  · rw [decide_eq_false (fun z => h ((dash_iff w).mp z)), if_neg (fun z => h z.2)]
    cases intL (cs w) <;> simp
theorem isN_it (o : Option Int) : isNone (itD o) = !o.isSome := by cases o <;> rfl
theorem take_succ_map {α β : Type} (f : α → β) {l : List α} {k : Nat} {a : α} (h : l[k]? = some a) : (l.take (k + 1)).map f = (l.take k).map f ++ [f a] := by
  rw [List.take_add_one, h, List.map_append]
  rfl
theorem take_succ_all {α : Type} (f : α → Bool) {l : List α} {k : Nat} {a : α} (h : l[k]? = some a) : (l.take (k + 1)).all f = ((l.take k).all f && f a) := by
  rw [List.take_add_one, h, List.all_append]
  simp
def itsD (x : Str) : List FN.D := (Txt.split x sp1).map fun w => itD (intL (cs w))
theorem split1_len {x : Str} (h : wordOk' x) : (Txt.split x sp1).length ≤ 1000000 := by
  have := split_len x sp1 kind1 (by rw [len1]; decide)
  have := h.1
  omega
theorem split3_len {x : Str} (h : wordOk' x) : (Txt.split x sp3).length ≤ 1000000 := by
  have := split_len x sp3 kind3 (by rw [len3]; decide)
  have := h.1
  omega
theorem e_L_items {x : Str} (h : wordOk' x) (b : Bool) : m_L_items [some (.str x), some (.str sp1), some (.bool b)] = some (.ok (.tuple [.tuple (itsD x), .bool (rowP b x).isSome]) [none, none, none]) := by
  have hsp : dSplit x (.str sp1) = some (.list ((Txt.split x sp1).map .str)) := by
    have := h.1
    simp [dSplit, len1, show x.length + 2 ≤ sizeLine by unfold sizeLine; omega]
  have hp : ∀ w ∈ Txt.split x sp1, wordOk' w := fun w hw => piece_ok' h hw
  have hl := split1_len h
  have hr : (rowP b x).isSome = (Txt.split x sp1).all (qW b) := by
    unfold rowP
    rw [mapO_isSome]
    congr 1
    funext w
    exact (qW_itm b w).symm
  rw [hr]
  unfold itsD
  generalize Txt.split x sp1 = ws at *
  have G := fun (ρ1 : FN.Env) => for_inv (fi := iSeq (fVar 4)) (ft := gNm 3) (f := (sSeq (sSet 7 (fCall [.t (.v true)] (noErr m_L_int) (aCons (fVar 3) aNil)))
  (sSeq (sDrop (fMt 5 oApp (fVar 7)))
  (sSet 6 (fAnd (fVar 6) (fOr (f2 (.t (.v true)) (.t (.v true)) dIsN (fVar 7) (fC .none)) (fAnd (fVar 2) (f2 (.t (.v true)) (.t (.v true)) dEq (fVar 3) (fC (.str ("-" : Str))))))))))) (ds := ws.map .str) (ρ := [some (.str x), some (.str sp1), some (.bool b), none, some (.list (ws.map .str)), some (.list []), some (.bool true), none]) (ρ1 := ρ1) (fun k ρ => ∃ o1 o2, ρ = [some (.str x), some (.str sp1), some (.bool b), o1, some (.list (ws.map .str)), some (.list ((ws.take k).map fun w => itD (intL (cs w)))), some (.bool ((ws.take k).all (qW b))), o2])
  obtain ⟨ρ', e, o1, o2, rfl⟩ := G _ (by simp; rfl) ⟨none, none, by simp⟩ (fun k d ρ hk hg => by
    obtain ⟨o1, o2, rfl⟩ := hg
    rw [List.getElem?_map] at hk
    obtain ⟨w, hw, rfl⟩ := Option.map_eq_some_iff.mp hk
    have hm : w ∈ ws := List.mem_of_getElem? hw
    have ei := e_L_int (hp w hm).w.1 (hp w hm).2
    have hk2 : k < ws.length := (List.getElem?_eq_some_iff.mp hw).1
    have lk : ((ws.take k).map fun w => itD (intL (cs w))).length < sizeLine := by
      rw [List.length_map, List.length_take]
      unfold sizeLine
      omega
    refine ⟨_, [some (.str x), some (.str sp1), some (.bool b), some (.str w), some (.list (ws.map .str)), some (.list (((ws.take k).map fun w => itD (intL (cs w))) ++ [itD (intL (cs w))])), some (.bool ((ws.take k).all (qW b) && qW b w)), some (itD (intL (cs w)))], rfl, .inl ?_, some (.str w), some (itD (intL (cs w))), ?_⟩
    · have hd := dEq_ss (hp w hm).2 ok_dash
      simp only [List.length_map, List.length_take] at lk
      cases hA : (ws.take k).all (qW b) <;> cases hI : intL (cs w) <;> cases b <;> simp [u_fCall, u_noErr, ei, oApp, lk, hI, itD, dIsN, isNone, hd, qW]
    · rw [take_succ_map _ hw, take_succ_all _ hw])
  have lk : ws.length ≤ sizeLine := by unfold sizeLine; omega
  rw [m_L_items, u_runF, b_L_items]
  simp [hsp]
  simp at e
  rw [e]
  simp [dTuple, sizeLine]
def lnsD (x : Str) : FN.D := .tuple ((Txt.split x sp3).map fun p => .tuple (itsD p))
theorem e_L_lines {x : Str} (h : wordOk' x) (b : Bool) : m_L_lines [some (.str x), some (.bool b)] = some (.ok (.tuple [lnsD x, .bool (tabP b x).isSome]) [none, none]) := by
  have hsp : dSplit x (.str sp3) = some (.list ((Txt.split x sp3).map .str)) := by
    have := h.1
    simp [dSplit, len3, show x.length + 2 ≤ sizeLine by unfold sizeLine; omega]
  have hp : ∀ w ∈ Txt.split x sp3, wordOk' w := fun w hw => piece_ok' h hw
  have hl := split3_len h
  have hr : (tabP b x).isSome = (Txt.split x sp3).all fun p => (rowP b p).isSome := by
    unfold tabP
    rw [mapO_isSome]
  unfold lnsD
  rw [hr]
  generalize Txt.split x sp3 = ws at *
  have hl2 : ws.length ≤ sizeLine := by unfold sizeLine; omega
  rw [m_L_lines, u_runF, b_L_lines]
  simp
  rw [lc_map (xs := ws) (g := .str) (fun p => .tuple [.tuple (itsD p), .bool (rowP b p).isSome]) hl2 (by simp [hsp]) (fun w hw => by
    have := e_L_items (hp w hw) b
    simp [u_fCall, u_noErr, this])]
  simp
  rw [lc_all (ds := ws.map fun p => .tuple [.tuple (itsD p), .bool (rowP b p).isSome]) (ρw := [some (.str x), some (.bool b), some (.list (ws.map fun p => .tuple [.tuple (itsD p), .bool (rowP b p).isSome])), none, none, none]) (fun d => match d with | .tuple [a, _] => a | _ => .none) (by simpa using hl2) (by simp) rfl (fun d hd => by
    obtain ⟨p, _, rfl⟩ := List.mem_map.mp hd
    refine ⟨_, _, by simp [gsCons]; rfl, by simp; rfl, rfl⟩)]
  simp [dTuple]
  rw [lc_all (ds := ws.map fun p => .tuple [.tuple (itsD p), .bool (rowP b p).isSome]) (ρw := [some (.str x), some (.bool b), some (.list (ws.map fun p => .tuple [.tuple (itsD p), .bool (rowP b p).isSome])), none, none, none]) (fun d => match d with | .tuple [_, a] => a | _ => .none) (by simpa using hl2) (by simp) rfl (fun d hd => by
    obtain ⟨p, _, rfl⟩ := List.mem_map.mp hd
    refine ⟨_, _, by simp [gsCons]; rfl, by simp; rfl, rfl⟩)]
  simp only [List.map_map, Function.comp_def]
  simp [dAll_map, sizeLine]
end K82
set_option Elab.async false
set_option linter.all false
set_option maxRecDepth 100000
set_option maxHeartbeats 2000000
namespace K82
open PySem PySem.Spec PyProof.Rows L2 FN
open PySem.PyData (strOk)
theorem its_row {b : Bool} {x : Str} {l : Row} (h : rowP b x = some l) : itsD x = l.map itD := by
  have e := mapO_some.mp h
  unfold itsD
  have : (Txt.split x sp1).map (fun w => itD (intL (cs w))) = ((Txt.split x sp1).map (itm b)).map (fun o => match o with | some o => itD o | none => itD none) := by
    rw [List.map_map]
    refine List.map_congr_left fun w hw => ?_
    show _ = match itm b w with | some o => itD o | none => itD none
    unfold itm
    by_cases z : b = true ∧ cs w = [45]
    · rw [if_pos z, z.2, intL_dash]
    · rw [if_neg z]
      cases intL (cs w) <;> rfl
  rw [this, e, List.map_map]
  rfl
theorem lns_tab {b : Bool} {x : Str} {l : Tab} (h : tabP b x = some l) : lnsD x = tabD l := by
  have e := mapO_some.mp h
  unfold lnsD tabD
  congr 1
  have key : ∀ (ws : List Str) (l : Tab), ws.map (rowP b) = l.map some → (ws.map fun p => (PyData.tuple (itsD p))) = l.map rowD := by
    intro ws
    induction ws with
    | nil =>
      intro l h
      cases l with
      | nil => rfl
      | cons _ _ => cases h
    | cons w ws ih =>
      intro l h
      cases l with
      | nil => cases h
      | cons r l =>
        rw [List.map_cons, List.map_cons] at h
        injection h with h1 h2
        rw [List.map_cons, List.map_cons, ih l h2, its_row h1]
        rfl
  exact key _ _ e
theorem e_L_is_even {l : Tab} (most wide : Int) (hl : l.length ≤ 1000000) : m_L_is_even [some (tabD l), some (.int most), some (.int wide)] = some (.ok (.bool (evenB most wide l)) [none, none, none]) := by
  have hl2 : l.length ≤ sizeLine := by unfold sizeLine; omega
  rw [m_L_is_even, u_runF, b_L_is_even]
  have q1 : ((1 : Int) ≤ (l.length : Int)) ↔ (1 ≤ l.length) := by omega
  unfold evenB
  by_cases h1 : 1 ≤ l.length <;> by_cases h2 : (l.length : Int) ≤ most <;> simp [fCh, len_tab, q1, h1, h2]
  rw [lc_map (xs := l) (g := rowD) (fun r => .bool (decide (1 ≤ r.length) && decide ((r.length : Int) ≤ wide) && decide (r.length = hdl l))) hl2 (seq_tab l _ _ rfl) ?_]
  · simp
  · intro r hr
    obtain ⟨r0, e0, e1⟩ := hd_ix hr
    have q1 : ((1 : Int) ≤ (r.length : Int)) ↔ (1 ≤ r.length) := by omega
    by_cases h1 : 1 ≤ r.length <;> by_cases h2 : (r.length : Int) ≤ wide <;> simp [fCh, len_row, q1, h1, h2, e0, e1, Int.natCast_inj]
theorem e_L_are_from_0 {l : Tab} (h : smallT l) : m_L_are_from_0 [some (tabD l)] = some (.ok (.bool (from0 l)) [none]) := by
  have hl2 : l.length ≤ sizeLine := by have := h.1; unfold sizeLine; omega
  rw [m_L_are_from_0, u_runF, b_L_are_from_0]
  simp
  rw [lc_all (vs := [1]) (ds := l.map rowD) (ρw := [some (tabD l), none, none]) (fun d => match d with | .tuple ds => .bool (ds.all fun o => match o with | .int i => decide (0 ≤ i) | _ => true) | _ => .none) (by simpa using hl2) (seq_tab l _ _ rfl) rfl ?_]
  · have : (l.map rowD).map (fun d => match d with | PyData.tuple ds => (PyData.bool (ds.all fun o => match o with | .int i => decide (0 ≤ i) | _ => true)) | _ => .none) = l.map fun r => .bool (r.all ge0) := by
      rw [List.map_map]
      refine List.map_congr_left fun r hr => ?_
      show PyData.bool ((r.map itD).all _) = _
      rw [List.all_map]
      congr 1
      congr 1
      funext o
      cases o <;> rfl
    rw [this]
    simp [from0]
  · intro d hd
    obtain ⟨r, hr, rfl⟩ := List.mem_map.mp hd
    refine ⟨_, [some (tabD l), some (rowD r), none], rfl, ?_, rfl⟩
    have hl3 : r.length ≤ sizeLine := by have := h.2 r hr; unfold sizeLine; omega
    simp
    rw [lc_map (xs := r) (g := itD) (fun o => .bool (ge0 o)) hl3 (seq_row r _ _ rfl) ?_]
    · simp [rowD]
      congr 1
      funext o
      cases o <;> rfl
    · intro o _
      cases o <;> simp [itD, dIs, isNone, ge0]
/-- what the law finds -/
def foundL (k : Int) (x : Str) : List FN.D := (readR k x).toList
theorem tab_small' {b : Bool} {x : Str} {l : Tab} (h : wordOk' x) (e : tabP b x = some l) : smallT l := tab_small h e
theorem in01_dIn (i : Int) (hi : 0 ≤ i) : dIn (.int i) (.tuple [.int 0, .int 1]) = some (.bool (decide (0 ≤ i) && decide (i ≤ 1))) := by
  have h2 : SeqAt.shaped (.tuple [.int 0, .int 1]) = true := shaped_ok (n := 1) (by decide)
  have : (decide (0 = i) || decide (1 = i)) = (decide (0 ≤ i) && decide (i ≤ 1)) := by
    rw [Bool.eq_iff_iff]
    simp
    omega
  simp [dIn, dInB, h2, this]
theorem e_found_0 {x : Str} (h : wordOk' x) : m_L_found [some (.int 0), some (.str x)] = some (.ok (.list (foundL 0 x)) [none, none]) := by
  have r := e_L_items h false
  have ed := dEq_ss h.2 ok_dash
  have e0 : readR 0 x = numR x := by simp [readR]
  unfold foundL
  rw [e0]
  unfold numR
  rw [m_L_found, u_runF, b_L_found]
  by_cases d : x = ("-" : Str)
  · subst d
    cases q : rowP false ("-" : Str) <;> rw [q] at r <;> simp [u_fCall, u_noErr, r, gsCons, ed, sizeLine]
  · cases q : rowP false x with
    | none =>
      rw [q] at r
      simp [u_fCall, u_noErr, r, gsCons, ed, d, sizeLine]
    | some l =>
      rw [q, its_row q] at r
      have e1 : ((l.length : Int) ≤ 20) ↔ l.length ≤ 20 := by omega
      by_cases z : l.length ≤ 20 <;> simp [u_fCall, u_noErr, r, gsCons, ed, d, sizeLine, e1, z, rowD]
theorem from_01 {l : Tab} (h : all01 l = true) : from0 l = true := by
  unfold all01 from0 at *
  rw [List.all_eq_true] at *
  intro r hr
  have := h r hr
  rw [List.all_eq_true] at *
  intro o ho
  have := this o ho
  cases o with
  | none => rfl
  | some i =>
    unfold in01 at this
    rw [Bool.and_eq_true] at this
    exact this.1
theorem e_found_1 {x : Str} (h : wordOk' x) : m_L_found [some (.int 1), some (.str x)] = some (.ok (.list (foundL 1 x)) [none, none]) := by
  have r := e_L_lines h false
  have e0 : readR 1 x = tabR false (fun l => evenB 7 8 l && from0 l) x := by simp [readR]
  unfold foundL
  rw [e0]
  unfold tabR
  rw [m_L_found, u_runF, b_L_found]
  cases q : tabP false x with
  | none =>
    rw [q] at r
    simp [u_fCall, u_noErr, r, gsCons, sizeLine]
  | some l =>
    rw [q, lns_tab q] at r
    have sm := tab_small h q
    have f0 := e_L_are_from_0 sm
    have ev := e_L_is_even (l := l) 7 8 sm.1
    cases z : from0 l with
    | false =>
      rw [z] at f0
      simp [u_fCall, u_noErr, r, gsCons, sizeLine, f0, z]
    | true =>
      rw [z] at f0
      cases z2 : evenB 7 8 l <;> rw [z2] at ev <;> simp [u_fCall, u_noErr, r, gsCons, sizeLine, f0, z, ev, z2]
theorem e_found_3 {x : Str} (h : wordOk' x) : m_L_found [some (.int 3), some (.str x)] = some (.ok (.list (foundL 3 x)) [none, none]) := by
  have r := e_L_lines h true
  have e0 : readR 3 x = tabR true (fun l => evenB 6 7 l && from0 l) x := by simp [readR]
  unfold foundL
  rw [e0]
  unfold tabR
  rw [m_L_found, u_runF, b_L_found]
  have i3 : ∀ a b c d : FN.D, atI [a, b, c, d] 3 = some d := fun a b c d => by
    have := atI_nat [a, b, c, d] 3
    exact this
  cases q : tabP true x with
  | none =>
    rw [q] at r
    simp [u_fCall, u_noErr, r, gsCons, sizeLine]
  | some l =>
    rw [q, lns_tab q] at r
    have sm := tab_small h q
    have f0 := e_L_are_from_0 sm
    have ev := e_L_is_even (l := l) 6 7 sm.1
    cases z : from0 l with
    | false =>
      rw [z] at f0
      simp [u_fCall, u_noErr, r, gsCons, sizeLine, f0, z]
    | true =>
      rw [z] at f0
      cases z2 : evenB 6 7 l <;> rw [z2] at ev <;> simp [u_fCall, u_noErr, r, gsCons, sizeLine, f0, z, ev, i3, z2]
theorem e_found_2 {x : Str} (h : wordOk' x) : m_L_found [some (.int 2), some (.str x)] = some (.ok (.list (foundL 2 x)) [none, none]) := by
  have r := e_L_lines h false
  have e0 : readR 2 x = tabR false (fun l => evenB 7 8 l && all01 l) x := by simp [readR]
  unfold foundL
  rw [e0]
  unfold tabR
  rw [m_L_found, u_runF, b_L_found]
  cases q : tabP false x with
  | none =>
    rw [q] at r
    simp [u_fCall, u_noErr, r, gsCons, sizeLine]
  | some l =>
    rw [q, lns_tab q] at r
    have sm := tab_small h q
    have f0 := e_L_are_from_0 sm
    have ev := e_L_is_even (l := l) 7 8 sm.1
    cases z : from0 l with
    | false =>
      rw [z] at f0
      have : all01 l = false := by
        cases y : all01 l with
        | false => rfl
        | true => rw [from_01 y] at z; cases z
      simp [u_fCall, u_noErr, r, gsCons, sizeLine, f0, z, this]
    | true =>
      rw [z] at f0
      have hsome := fun r hr o ho => ((tab_sm q r hr).2 o ho).2 rfl
      have c : fLc [11] (iSeq (fVar 4)) (gNm 11) tYesF (f1 (.t (.v true)) dAll (fLc [12] (iSeq (fVar 11)) (gNm 12) tYesF (f2 (.t (.v true)) (.t (.v true)) dIn (fVar 12) (fTup (aCons (fC (.int 0)) (aCons (fC (.int 1)) aNil)))))) [some (.int 2), some (.str x), none, some (.bool true), some (tabD l), none, none, none, none, none, none, none, none] = some (.ok (.list (l.map fun r => .bool (r.all in01))) [some (.int 2), some (.str x), none, some (.bool true), some (tabD l), none, none, none, none, none, none, none, none]) := by
        rw [lc_map (xs := l) (g := rowD) (fun r => .bool (r.all in01)) (by have := sm.1; unfold sizeLine; omega) (seq_tab l _ _ rfl) ?_]
        · simp
        · intro r hr
          have hr2 : r.length ≤ sizeLine := by have := sm.2 r hr; unfold sizeLine; omega
          simp
          rw [lc_map (xs := r) (g := itD) (fun o => .bool (in01 o)) hr2 (seq_row r _ _ rfl) ?_]
          · simp
          · intro o ho
            have h1 := hsome r hr o ho
            have h2 : ge0 o = true := by
              unfold from0 at z
              rw [List.all_eq_true] at z
              have := z r hr
              rw [List.all_eq_true] at this
              exact this o ho
            cases o with
            | none => cases h1
            | some i => simp [itD, in01_dIn i (of_decide_eq_true h2), sizeLine, in01]
      have d : dAll (.list (l.map fun r => .bool (r.all in01))) = some (.bool (all01 l)) := dAll_map _ l
      cases z2 : all01 l with
      | false =>
        rw [z2] at d
        simp [u_fCall, u_noErr, r, gsCons, sizeLine, f0, c, d, z2]
      | true =>
        rw [z2] at d
        cases z3 : evenB 7 8 l <;> rw [z3] at ev <;> simp [u_fCall, u_noErr, r, gsCons, sizeLine, f0, c, d, ev, z2, z3]
end K82
set_option Elab.async false
set_option linter.all false
set_option maxRecDepth 100000
set_option maxHeartbeats 4000000
namespace K82
open PySem PySem.Spec PyProof.Rows L2 FN
open PySem.PyData (strOk)
/-- one row read as a table -/
theorem one_row {x : Str} {r : Row} (h : rowP false x = some r) : tabP false x = some [r] := by
  have hx := rowP_back h
  have hs := rowP_sm h
  have e := tabP_fore (b := false) (l := [r]) (by simp) (fun r' hr => by
    rw [List.mem_singleton] at hr
    subst hr
    exact ⟨rowP_ne h, hs⟩)
  have : tabS [r] = x := by
    unfold tabS
    rw [List.map_cons, List.map_nil, hx]
    refine str_ext ?_
    rw [cs_join]
    rfl
  rw [this] at e
  exact e
theorem row_one {x : Str} {r : Row} (h : tabP false x = some [r]) : rowP false x = some r := by
  have e := mapO_some.mp h
  have l := mapO_length h
  have hj := join_split x sp3
  generalize Txt.split x sp3 = ws at *
  match ws, l, e, hj with
  | [w], _, e, hj =>
    have : w = x := by
      rw [← hj]
      refine str_ext ?_
      rw [cs_join]
      rfl
    subst this
    simpa using e
theorem len_one {x : Str} {l : Tab} (h : tabP false x = some l) (h1 : l.length = 1) : ∃ r, l = [r] ∧ rowP false x = some r := by
  match l, h, h1 with
  | [r], h, _ => exact ⟨r, rfl, row_one h⟩
theorem sums_even (r : Row) : (evenB 1 5 [r] && r.all ge0) = sumsB r := by
  unfold evenB sumsB
  simp [FN.D, hdl]
theorem even_lim {r c : Row} {l : Tab} (hr : sumsB r = true) (hc : sumsB c = true) : (evenB 5 5 l && (decide (l.length = r.length) && decide (hdl l = c.length)) && from0 l) = (decide (l.length = r.length) && l.all (limB c.length)) := by
  rw [Bool.eq_iff_iff]
  unfold evenB from0 limB sumsB hdl at *
  simp only [Bool.and_eq_true, decide_eq_true_eq, List.all_eq_true] at *
  constructor
  · rintro ⟨⟨⟨_, h1⟩, h2, h3⟩, h4⟩
    exact ⟨h2, fun x hx => ⟨by rw [(h1 x hx).2, h3], h4 x hx⟩⟩
  · rintro ⟨h2, h1⟩
    have hl : 1 ≤ l.length := by omega
    have hh : (l.head?.map List.length).getD 0 = c.length := by
      cases l with
      | nil => simp at hl
      | cons a l => exact (h1 a List.mem_cons_self).1
    refine ⟨⟨⟨⟨hl, by omega⟩, fun x hx => ⟨⟨?_, ?_⟩, ?_⟩⟩, h2, hh⟩, fun x hx => (h1 x hx).2⟩
    · rw [(h1 x hx).1]; exact hc.1.1
    · rw [(h1 x hx).1]; omega
    · rw [hh]; exact (h1 x hx).1
theorem fr_all (r c : Row) (l : Tab) : (evenB 1 5 [r] && (evenB 1 5 [c] && evenB 5 5 l) && (decide (l.length = r.length) && decide (hdl l = c.length)) && from0 ([r] ++ [c] ++ l)) = frB r c l := by
  have e1 := sums_even r
  have e2 := sums_even c
  have f : from0 ([r] ++ [c] ++ l) = (r.all ge0 && (c.all ge0 && from0 l)) := by
    unfold from0
    simp [Bool.and_assoc]
  rw [f]
  unfold frB
  cases hr : sumsB r with
  | false =>
    rw [hr] at e1
    cases h1 : evenB 1 5 [r]
    · simp
    · rw [h1] at e1
      rw [show r.all ge0 = false by simpa using e1]
      simp
  | true =>
    rw [hr, Bool.and_eq_true] at e1
    rw [e1.1, e1.2]
    cases hc : sumsB c with
    | false =>
      rw [hc] at e2
      cases h1 : evenB 1 5 [c]
      · simp
      · rw [h1] at e2
        rw [show c.all ge0 = false by simpa using e2]
        simp
    | true =>
      rw [hc, Bool.and_eq_true] at e2
      rw [e2.1, e2.2]
      have := even_lim (l := l) hr hc
      simp only [Bool.true_and]
      exact this
theorem bar_split {x : Str} (h : wordOk' x) : dSplit x (.str bar3) = some (.list ((Txt.split x bar3).map .str)) := by
  rw [split_frame, if_pos]
  have := h.1
  unfold sizeLine
  omega
theorem tab_ix0 {r : Row} {l : Tab} : dIx (tabD (r :: l)) (.int 0) = some (rowD r) := by
  show atI (_ :: _) 0 = _
  rw [atI_0]
  rfl
def frW : List Str → Option FN.D
  | [a, b, c] => frR (rowP false a) (rowP false b) (tabP true c)
  | _ => none
theorem frW_eq (x : Str) : frameR x = frW (Txt.split x bar3) := by
  unfold frameR frW
  rfl
theorem frW_no : ∀ ws : List Str, ws.length ≠ 3 → frW ws = none
  | [], _ => rfl
  | [_], _ => rfl
  | [_, _], _ => rfl
  | [_, _, _], h => absurd rfl h
  | _ :: _ :: _ :: _ :: _, _ => rfl
theorem tab_app (r c : Row) (l : Tab) (h : l.length ≤ 1000000) : dAdd (tabD [r]) (tabD [c]) = some (tabD ([r] ++ [c])) ∧ dAdd (tabD ([r] ++ [c])) (tabD l) = some (tabD ([r] ++ [c] ++ l)) := by
  constructor
  · show (if [rowD r].length + [rowD c].length ≤ sizeLine then some (PyData.tuple ([rowD r] ++ [rowD c])) else none) = _
    rw [if_pos (by unfold sizeLine; simp)]
    rfl
  · show (if ([r] ++ [c] |>.map rowD).length + (l.map rowD).length ≤ sizeLine then some (PyData.tuple (([r] ++ [c] |>.map rowD) ++ l.map rowD)) else none) = _
    rw [if_pos (by unfold sizeLine; simp; omega), ← List.map_append]
    rfl
theorem e_found_4 {x : Str} (h : wordOk' x) : m_L_found [some (.int 4), some (.str x)] = some (.ok (.list (foundL 4 x)) [none, none]) := by
  have hsp := bar_split h
  have hp : ∀ w ∈ Txt.split x bar3, wordOk' w := fun w hw => piece_ok' h hw
  have e0 : readR 4 x = frameR x := by simp [readR]
  unfold foundL
  rw [e0, frW_eq, m_L_found, u_runF, b_L_found]
  generalize Txt.split x bar3 = ws at *
  by_cases h3 : ws.length = 3
  · match ws, h3, hsp, hp with
    | [a, b, c], _, hsp, hp =>
      have ha := hp a (by simp)
      have hb := hp b (by simp)
      have hc := hp c (by simp)
      have ra := e_L_lines ha false
      have rb := e_L_lines hb false
      have rc := e_L_lines hc true
      have i0 : dIx (.list [.str a, .str b, .str c]) (.int 0) = some (.str a) := by
        show atI [PyData.str a, .str b, .str c] 0 = _
        rw [atI_0]; rfl
      have i1 : dIx (.list [.str a, .str b, .str c]) (.int 1) = some (.str b) := by
        show atI [PyData.str a, .str b, .str c] 1 = _
        rw [atI_1]; rfl
      have i2 : dIx (.list [.str a, .str b, .str c]) (.int 2) = some (.str c) := by
        show atI [PyData.str a, .str b, .str c] 2 = _
        rw [atI_2]; rfl
      show _ = some (Out.ok (PyData.list (frR (rowP false a) (rowP false b) (tabP true c)).toList) [none, none])
      have nolen : ∀ y : Str, (∀ r, rowP false y ≠ some r) → ∀ l, tabP false y = some l → ¬ l.length = 1 := fun y hy l hl h1 => by
        obtain ⟨r, _, e⟩ := len_one hl h1
        exact hy r e
      cases qa : tabP false a with
      | none =>
        have : rowP false a = none := by
          cases z : rowP false a with
          | none => rfl
          | some r => rw [one_row z] at qa; cases qa
        rw [qa] at ra
        simp [u_fCall, u_noErr, hsp, i0, i1, i2, ra, rb, rc, gsCons, sizeLine, this, frR]
      | some la =>
        rw [qa, lns_tab qa] at ra
        cases qb : tabP false b with
        | none =>
          have : rowP false b = none := by
            cases z : rowP false b with
            | none => rfl
            | some r => rw [one_row z] at qb; cases qb
          rw [qb] at rb
          have : frR (rowP false a) (rowP false b) (tabP true c) = none := by
            rw [this]
            unfold frR
            cases rowP false a <;> rfl
          simp [u_fCall, u_noErr, hsp, i0, i1, i2, ra, rb, rc, gsCons, sizeLine, this]
        | some lb =>
          rw [qb, lns_tab qb] at rb
          cases qc : tabP true c with
          | none =>
            rw [qc] at rc
            have : frR (rowP false a) (rowP false b) none = none := by
              unfold frR
              cases rowP false a <;> cases rowP false b <;> rfl
            simp [u_fCall, u_noErr, hsp, i0, i1, i2, ra, rb, rc, gsCons, sizeLine, this]
          | some lc =>
            rw [qc, lns_tab qc] at rc
            by_cases na : la.length = 1
            · obtain ⟨r, rfl, pa⟩ := len_one qa na
              by_cases nb : lb.length = 1
              · obtain ⟨s, rfl, pb⟩ := len_one qb nb
                rw [pa, pb]
                have sa := tab_small ha qa
                have sb := tab_small hb qb
                have sc := tab_small hc qc
                have v1 := e_L_is_even (l := [r]) 1 5 sa.1
                have v2 := e_L_is_even (l := [s]) 1 5 sb.1
                have v3 := e_L_is_even (l := lc) 5 5 sc.1
                have hlc : lc.length ≤ 900001 := by
                  rw [mapO_length qc]
                  have := split_len c sp3 kind3 (by rw [len3]; decide)
                  have := hc.1
                  omega
                have f := e_L_are_from_0 (l := [r] ++ [s] ++ lc) ⟨by simp; omega, fun x hx => by
                  rcases List.mem_append.mp hx with hx | hx
                  · rcases List.mem_append.mp hx with hx | hx
                    · exact sa.2 x hx
                    · exact sb.2 x hx
                  · exact sc.2 x hx⟩
                have key := fr_all r s lc
                obtain ⟨a1, a2⟩ := tab_app r s lc sc.1
                have ff : ∀ o, frR (some r) (some s) (some lc) = o ↔ (if frB r s lc = true then some (frD r s lc) else none) = o := fun _ => Iff.rfl
                have fe : frR (some r) (some s) (some lc) = if frB r s lc = true then some (frD r s lc) else none := rfl
                rw [fe, ← key]
                have x1 := tab_ix0 (r := r) (l := [])
                have x2 := tab_ix0 (r := s) (l := [])
                cases b1 : evenB 1 5 [r] with
                | false =>
                  rw [b1] at v1
                  simp [u_fCall, u_noErr, hsp, i0, i1, i2, ra, rb, rc, gsCons, sizeLine, len_tab, v1]
                | true =>
                  rw [b1] at v1
                  cases b2 : evenB 1 5 [s] with
                  | false =>
                    rw [b2] at v2
                    simp [u_fCall, u_noErr, hsp, i0, i1, i2, ra, rb, rc, gsCons, sizeLine, len_tab, v1, v2]
                  | true =>
                    rw [b2] at v2
                    cases b3 : evenB 5 5 lc with
                    | false =>
                      rw [b3] at v3
                      simp [u_fCall, u_noErr, hsp, i0, i1, i2, ra, rb, rc, gsCons, sizeLine, len_tab, v1, v2, v3]
                    | true =>
                      rw [b3] at v3
                      obtain ⟨l0, x3, hh⟩ : ∃ l0, dIx (tabD lc) (.int 0) = some (rowD l0) ∧ hdl lc = l0.length := by
                        cases lc with
                        | nil => simp [evenB] at b3
                        | cons a l => exact ⟨a, tab_ix0, rfl⟩
                      rw [hh]
                      by_cases d1 : lc.length = r.length
                      · by_cases d2 : l0.length = s.length
                        · cases b4 : from0 ([r] ++ [s] ++ lc) with
                          | false =>
                            rw [b4] at f
                            simp only [List.cons_append, List.nil_append] at a1 a2 f
                            simp [u_fCall, u_noErr, hsp, i0, i1, i2, ra, rb, rc, gsCons, sizeLine, len_tab, len_row, v1, v2, v3, x1, x2, x3, d1, d2, a1, a2, f]
                          | true =>
                            rw [b4] at f
                            simp only [List.cons_append, List.nil_append] at a1 a2 f
                            simp [u_fCall, u_noErr, hsp, i0, i1, i2, ra, rb, rc, gsCons, sizeLine, len_tab, len_row, v1, v2, v3, x1, x2, x3, d1, d2, a1, a2, f, frD]
                        · simp [u_fCall, u_noErr, hsp, i0, i1, i2, ra, rb, rc, gsCons, sizeLine, len_tab, len_row, v1, v2, v3, x1, x2, x3, d1, Int.natCast_inj, d2]
                      · simp [u_fCall, u_noErr, hsp, i0, i1, i2, ra, rb, rc, gsCons, sizeLine, len_tab, len_row, v1, v2, v3, x1, x2, x3, Int.natCast_inj, d1]
              · have : rowP false b = none := by
                  cases z : rowP false b with
                  | none => rfl
                  | some s => rw [one_row z] at qb; cases qb; exact absurd rfl nb
                have : frR (rowP false a) (rowP false b) (some lc) = none := by
                  rw [this]
                  unfold frR
                  cases rowP false a <;> rfl
                simp [u_fCall, u_noErr, hsp, i0, i1, i2, ra, rb, rc, gsCons, sizeLine, this, len_tab, show ¬ (lb.length : Int) = 1 by omega]
            · have : rowP false a = none := by
                cases z : rowP false a with
                | none => rfl
                | some s => rw [one_row z] at qa; cases qa; exact absurd rfl na
              have : frR (rowP false a) (rowP false b) (some lc) = none := by
                rw [this]
                rfl
              simp [u_fCall, u_noErr, hsp, i0, i1, i2, ra, rb, rc, gsCons, sizeLine, this, len_tab, show ¬ (la.length : Int) = 1 by omega]
  · rw [frW_no ws h3]
    simp [hsp, show ¬ (ws.length : Int) = 3 by omega, sizeLine]
end K82
set_option Elab.async false
set_option linter.all false
set_option maxRecDepth 100000
set_option maxHeartbeats 400000
namespace K82
open PySem PySem.Spec PyProof.Rows L2 FN
open PySem.PyData (strOk)
/-! ### what the law reads by the program -/
def lrL (o : Option FN.D) (d : FN.D) : List FN.D := match o with
  | some v => [v]
  | none => [.str ("unreadable" : Str), d, .bool true]
theorem sel_un : sel_Unreadable "Unreadable" = some true := by decide +kernel
theorem e_L_read {k : Int} {d : FN.D} (hk : 0 ≤ k ∧ k ≤ 4) (h : ∀ x, d = .str x → wordOk' x) : m_L_read [some (.int k), some d] = some (.ok (.list (lrL (readD k d) d)) [none, none]) := by
  have st : ∀ k : Int, sSet 2 (fLst aNil) [some (.int k), some d, none, none] = some (.nx [some (.int k), some d, some (.list []), none]) := fun k => by simp [sizeLine]
  rcases (show k = 0 ∨ k = 1 ∨ k = 2 ∨ k = 3 ∨ k = 4 by omega) with rfl | rfl | rfl | rfl | rfl
  · have r0 := e_read_numbers h
    rw [m_L_read, u_runF, b_L_read]
    simp only [u_sSeq, List.replicate, List.cons_append, List.nil_append]
    rw [st]
    simp only
    cases q : readD 0 d with
    | some v =>
      rw [q] at r0
      rw [u_try_ok (ρ' := [some (.int 0), some d, some (.list [v]), none])]
      · simp [lrL]
      · simp [u_fCall, r0, rdO, sizeLine]
    | none =>
      rw [q] at r0
      rw [u_try_err (n := "Unreadable") (d := d) (ρ' := [some (.int 0), some d, some (.list []), none]) ?_ sel_un]
      · simp [sizeLine, lrL]
      · simp [u_fCall, r0, rdO]
  · have r0 := e_read_table h
    rw [m_L_read, u_runF, b_L_read]
    simp only [u_sSeq, List.replicate, List.cons_append, List.nil_append]
    rw [st]
    simp only
    cases q : readD 1 d with
    | some v =>
      rw [q] at r0
      rw [u_try_ok (ρ' := [some (.int 1), some d, some (.list [v]), none])]
      · simp [lrL]
      · simp [u_fCall, r0, rdO, sizeLine]
    | none =>
      rw [q] at r0
      rw [u_try_err (n := "Unreadable") (d := d) (ρ' := [some (.int 1), some d, some (.list []), none]) ?_ sel_un]
      · simp [sizeLine, lrL]
      · simp [u_fCall, r0, rdO]
  · have r0 := e_read_board h
    rw [m_L_read, u_runF, b_L_read]
    simp only [u_sSeq, List.replicate, List.cons_append, List.nil_append]
    rw [st]
    simp only
    cases q : readD 2 d with
    | some v =>
      rw [q] at r0
      rw [u_try_ok (ρ' := [some (.int 2), some d, some (.list [v]), none])]
      · simp [lrL]
      · simp [u_fCall, r0, rdO, sizeLine]
    | none =>
      rw [q] at r0
      rw [u_try_err (n := "Unreadable") (d := d) (ρ' := [some (.int 2), some d, some (.list []), none]) ?_ sel_un]
      · simp [sizeLine, lrL]
      · simp [u_fCall, r0, rdO]
  · have r0 := e_read_costs h
    rw [m_L_read, u_runF, b_L_read]
    simp only [u_sSeq, List.replicate, List.cons_append, List.nil_append]
    rw [st]
    simp only
    cases q : readD 3 d with
    | some v =>
      rw [q] at r0
      rw [u_try_ok (ρ' := [some (.int 3), some d, some (.list [v]), none])]
      · simp [lrL]
      · simp [u_fCall, r0, rdO, sizeLine]
    | none =>
      rw [q] at r0
      rw [u_try_err (n := "Unreadable") (d := d) (ρ' := [some (.int 3), some d, some (.list []), none]) ?_ sel_un]
      · simp [sizeLine, lrL]
      · simp [u_fCall, r0, rdO]
  · have r0 := e_read_frame h
    rw [m_L_read, u_runF, b_L_read]
    simp only [u_sSeq, List.replicate, List.cons_append, List.nil_append]
    rw [st]
    simp only
    cases q : readD 4 d with
    | some v =>
      rw [q] at r0
      rw [u_try_ok (ρ' := [some (.int 4), some d, some (.list [v]), none])]
      · simp [lrL]
      · simp [u_fCall, r0, rdO, sizeLine]
    | none =>
      rw [q] at r0
      rw [u_try_err (n := "Unreadable") (d := d) (ρ' := [some (.int 4), some d, some (.list []), none]) ?_ sel_un]
      · simp [sizeLine, lrL]
      · simp [u_fCall, r0, rdO]
/-! ### texts written -/
theorem e_L_word {o : Option Int} (h : Sm o) : m_L_word [some (itD o)] = some (.ok (.str (wS o)) [none]) := by
  cases o with
  | none => simp [m_L_word, u_runF, b_L_word, itD, dIs, isNone, wS]
  | some i =>
    have := log_small (show i.natAbs < 10 ^ 30 from h)
    simp [m_L_word, u_runF, b_L_word, itD, dIs, isNone, wS, dStr, this, dstr]
theorem e_L_row_text {l : Row} (hs : ∀ o ∈ l, Sm o) (h : (rowS l).length ≤ 1000000) (hn : l.length ≤ 1000000) : m_L_row_text [some (rowD l)] = some (.ok (.str (rowS l)) [none]) := by
  rw [m_L_row_text, u_runF, b_L_row_text]
  simp
  rw [lc_map (xs := l) (g := itD) (fun o => .str (wS o)) (by unfold sizeLine; omega) (seq_row l _ _ rfl) ?_]
  · have := dJoin_txt (s := sp1) (q := wS) (l := l) h (by rw [len1]; decide)
    simp [this, rowS]
  · intro o ho
    simp [u_fCall, u_noErr, e_L_word (hs o ho)]
theorem e_L_rows_text {l : Tab} (hs : ∀ r ∈ l, r.length ≤ 1000000 ∧ ∀ o ∈ r, Sm o) (h : (tabS l).length ≤ 1000000) (hn : l.length ≤ 1000000) : m_L_rows_text [some (tabD l)] = some (.ok (.str (tabS l)) [none]) := by
  rw [m_L_rows_text, u_runF, b_L_rows_text]
  simp
  rw [lc_map (xs := l) (g := rowD) (fun o => .str (rowS o)) (by unfold sizeLine; omega) (seq_tab l _ _ rfl) ?_]
  · have := dJoin_txt (s := sp3) (q := rowS) (l := l) h (by rw [len3]; decide)
    simp [this, tabS]
  · intro r hr
    have h1 : (rowS r).length ≤ 1000000 := Nat.le_trans (join_piece (List.mem_map.mpr ⟨r, hr, rfl⟩)) h
    simp [u_fCall, u_noErr, e_L_row_text (hs r hr).2 h1 (hs r hr).1]
/-! ### the values that are drawn -/
/-- a row of short numbers -/
def RowOk (n : Nat) (r : Row) : Prop := 1 ≤ r.length ∧ r.length ≤ n ∧ ∀ o ∈ r, Sm o
def TabOk (m n : Nat) (l : Tab) : Prop := 1 ≤ l.length ∧ l.length ≤ m ∧ ∃ c, 1 ≤ c ∧ c ≤ n ∧ ∀ r ∈ l, r.length = c ∧ ∀ o ∈ r, Sm o
theorem TabOk.row {m n : Nat} {l : Tab} (h : TabOk m n l) : ∀ r ∈ l, RowOk n r := by
  obtain ⟨_, _, c, h1, h2, h3⟩ := h
  intro r hr
  obtain ⟨a, b⟩ := h3 r hr
  exact ⟨by omega, by omega, b⟩
theorem TabOk.hd {m n : Nat} {l : Tab} (h : TabOk m n l) : ∀ r ∈ l, r.length = hdl l := by
  obtain ⟨h0, _, c, h1, h2, h3⟩ := h
  have : hdl l = c := by
    cases l with
    | nil => simp at h0
    | cons a l => exact (h3 a List.mem_cons_self).1
  intro r hr
  rw [this]
  exact (h3 r hr).1
theorem TabOk.even {m n : Nat} {l : Tab} (h : TabOk m n l) : evenB m n l = true := by
  have h1 := h.1
  have h2 := h.2.1
  unfold evenB
  simp only [Bool.and_eq_true, decide_eq_true_eq, List.all_eq_true]
  refine ⟨⟨h1, by omega⟩, fun r hr => ⟨⟨(h.row r hr).1, ?_⟩, h.hd r hr⟩⟩
  have := (h.row r hr).2.1
  omega
theorem rowS_small {n : Nat} {r : Row} (h : RowOk n r) : (rowS r).length ≤ n * 32 := Nat.le_trans (rowS_le h.2.2) (Nat.mul_le_mul_right _ h.2.1)
theorem tabS_small {m n : Nat} {l : Tab} (h : TabOk m n l) : (tabS l).length ≤ m * (n * 32 + 3) := by
  have := join_le (s := sp3) (ps := l.map rowS) (n := n * 32) (fun p hp => by
    obtain ⟨r, hr, rfl⟩ := List.mem_map.mp hp
    exact rowS_small (h.row r hr))
  rw [List.length_map, len3] at this
  exact Nat.le_trans this (Nat.mul_le_mul_right _ h.2.1)
theorem mem_jn {s : List Nat} {c : Nat} : ∀ {ps : List (List Nat)}, c ∈ jn s ps → c ∈ s ∨ ∃ p ∈ ps, c ∈ p
  | [], h => by unfold jn at h; cases h
  | [p], h => .inr ⟨p, List.mem_cons_self, by unfold jn at h; exact h⟩
  | p :: q :: ps, h => by
    unfold jn at h
    rcases List.mem_append.mp h with h | h
    · exact .inr ⟨p, List.mem_cons_self, h⟩
    · rcases List.mem_append.mp h with h | h
      · exact .inl h
      · rcases mem_jn h with h | ⟨p', hp, h⟩
        · exact .inl h
        · exact .inr ⟨p', List.mem_cons_of_mem _ hp, h⟩
theorem mem_join {s : Str} {ps : List Str} {c : Nat} (h : c ∈ cs (Txt.join s ps)) : c ∈ cs s ∨ ∃ p ∈ ps, c ∈ cs p := by
  rw [cs_join] at h
  rcases mem_jn h with h | ⟨p, hp, h⟩
  · exact .inl h
  · obtain ⟨q, hq, rfl⟩ := List.mem_map.mp hp
    exact .inr ⟨q, hq, h⟩
theorem tabS_cs {l : Tab} (h : ∀ r ∈ l, ∀ o ∈ r, Sm o) : ∀ c ∈ cs (tabS l), c = 32 ∨ c = 45 ∨ c = 59 ∨ (48 ≤ c ∧ c ≤ 57) := by
  intro c hc
  rcases mem_join hc with hc | ⟨p, hp, hc⟩
  · rw [cs_sp3] at hc
    simp at hc
    omega
  · obtain ⟨r, hr, rfl⟩ := List.mem_map.mp hp
    have := rowS_cs (h r hr) c hc
    omega
theorem frS_cs {a b c : Str} {e : Nat} (h : e ∈ cs (frS a b c)) : e = 32 ∨ e = 124 ∨ e ∈ cs a ∨ e ∈ cs b ∨ e ∈ cs c := by
  rcases mem_join h with h | ⟨p, hp, h⟩
  · rw [cs_bar3] at h
    simp at h
    omega
  · simp only [List.mem_cons, List.not_mem_nil, or_false] at hp
    rcases hp with hp | hp | hp <;> rw [hp] at h
    · exact .inr (.inr (.inl h))
    · exact .inr (.inr (.inr (.inl h)))
    · exact .inr (.inr (.inr (.inr h)))
open FNL (smD smD_le)
theorem sm_it (n : Nat) (o : Option Int) : smD n (itD o) = true := by cases o <;> (unfold itD smD; rfl)
theorem sm_row {n : Nat} {r : Row} (h : r.length ≤ 1000000) : smD (n + 1) (rowD r) = true := by
  unfold rowD smD
  rw [Bool.and_eq_true, List.all_map, List.all_eq_true, List.length_map]
  exact ⟨decide_eq_true h, fun o _ => sm_it n o⟩
theorem sm_tab {n : Nat} {l : Tab} (h : l.length ≤ 1000000) (h2 : ∀ r ∈ l, r.length ≤ 1000000) : smD (n + 2) (tabD l) = true := by
  unfold tabD smD
  rw [Bool.and_eq_true, List.all_map, List.all_eq_true, List.length_map]
  exact ⟨decide_eq_true h, fun r hr => sm_row (h2 r hr)⟩
/-- what a drawn value of the kind k keeps, with its text x -/
structure Shown (k : Int) (d : FN.D) (x : Str) : Prop where
  text : m_L_text [some (.int k), some d] = some (.ok (.str x) [none, none])
  show' : m_L_shown [some (.int k), some d] = some (.ok (.str x) [none, none])
  read : readR k x = some d
  len : x.length ≤ 100000
  ok : strOk x = true
  sm : smD 3 d = true
  tup : ∃ ds, d = .tuple ds
end K82
set_option Elab.async false
set_option linter.all false
set_option maxRecDepth 100000
set_option maxHeartbeats 1000000
namespace K82
open PySem PySem.Spec PyProof.Rows L2 FN
open PySem.PyData (strOk)
open FNL (smD smD_le)
theorem rowD_nil : rowD [] = .tuple [] := rfl
theorem row_strOk {r : Row} (h : ∀ o ∈ r, Sm o) : strOk (rowS r) = true := strOk_of fun c hc => by have := rowS_cs h c hc; omega
theorem tab_strOk {l : Tab} (h : ∀ r ∈ l, ∀ o ∈ r, Sm o) : strOk (tabS l) = true := strOk_of fun c hc => by have := tabS_cs h c hc; omega
theorem dEq_row_nil {r : Row} : dEq (rowD r) (.tuple []) = some (.bool (decide (r = []))) := by
  have h1 : SeqAt.shaped (rowD r) = true := shaped_ok (n := 1) (okD_row 0 r)
  have h2 : SeqAt.shaped (.tuple []) = true := shaped_ok (n := 1) (by decide)
  unfold dEq
  rw [h1, h2]
  unfold rowD
  cases r <;> simp
theorem rowS_ne {r : Row} (h0 : r ≠ []) (h : ∀ o ∈ r, Sm o ∧ o.isSome = true) : rowS r ≠ ("-" : Str) := fun z => by
  have e := rowP_fore (b := false) h0 (fun o ho => ⟨(h o ho).1, fun _ => (h o ho).2⟩)
  rw [z] at e
  have : rowP false ("-" : Str) = none := by
    unfold rowP
    have : Txt.split ("-" : Str) sp1 = [("-" : Str)] := by
      have := split_join mark1 kind1 (ps := [("-" : Str)]) (by simp) (fun p hp => by
        rw [List.mem_singleton] at hp
        rw [hp, cs_dash]
        simp)
      rw [show Txt.join sp1 [("-" : Str)] = ("-" : Str) from str_ext (by rw [cs_join]; rfl)] at this
      exact this
    rw [this, mapO_cons, show itm false ("-" : Str) = none by unfold itm; rw [cs_dash, intL_dash]; simp]
  rw [this] at e
  cases e
theorem shown_0 {r : Row} (hl : r.length ≤ 20) (h : ∀ o ∈ r, Sm o ∧ o.isSome = true) : Shown 0 (rowD r) (if r = [] then ("-" : Str) else rowS r) := by
  have hs : ∀ o ∈ r, Sm o := fun o ho => (h o ho).1
  have hle : (rowS r).length ≤ 640 := by
    have := rowS_le hs
    omega
  have e := dEq_row_nil (r := r)
  by_cases z : r = []
  · subst z
    rw [if_pos rfl]
    refine ⟨?_, ?_, ?_, by decide +kernel, by decide +kernel, by rw [rowD_nil]; decide +kernel, ⟨[], rfl⟩⟩
    · rw [rowD_nil] at e ⊢
      simp [m_L_text, u_runF, b_L_text, e, sizeLine]
    · have := shown_nil
      rw [rowD_nil]
      simp [m_L_shown, u_runF, b_L_shown, u_fCall, u_noErr, this]
    · simp [readR, numR, rowD_nil]
  · rw [if_neg z]
    have t := e_L_row_text hs (by omega) (by omega)
    have s := e_show_numbers z h (by omega) (by omega)
    have rd := rowP_fore (b := false) z (fun o ho => ⟨(h o ho).1, fun _ => (h o ho).2⟩)
    refine ⟨?_, ?_, ?_, by omega, row_strOk hs, smD_le (sm_row (n := 0) (by omega)) (by decide), ⟨_, rfl⟩⟩
    · simp [m_L_text, u_runF, b_L_text, e, z, sizeLine, u_fCall, u_noErr, t]
    · simp [m_L_shown, u_runF, b_L_shown, u_fCall, u_noErr, s]
    · simp [readR, numR, rowS_ne z h, rd, hl]
theorem tab_facts {m n : Nat} {l : Tab} (h : TabOk m n l) (hm : m ≤ 10) (hn : n ≤ 10) : m_L_rows_text [some (tabD l)] = some (.ok (.str (tabS l)) [none]) ∧ m_show_rows [some (tabD l)] = some (.ok (.str (tabS l)) [none]) ∧ (tabS l).length ≤ 5000 ∧ strOk (tabS l) = true ∧ smD 2 (tabD l) = true ∧ smallT l := by
  have hs : ∀ r ∈ l, ∀ o ∈ r, Sm o := fun r hr => (h.row r hr).2.2
  have hle : (tabS l).length ≤ 5000 := by
    have := tabS_small h
    have : m * (n * 32 + 3) ≤ 10 * (10 * 32 + 3) := Nat.mul_le_mul hm (by omega)
    omega
  have hr : ∀ r ∈ l, r.length ≤ 1000000 := fun r hr => by have := (h.row r hr).2.1; omega
  have hl : l.length ≤ 1000000 := by have := h.2.1; omega
  refine ⟨e_L_rows_text (fun r hr' => ⟨hr r hr', hs r hr'⟩) (by omega) hl, e_show_rows (fun r hr' => ⟨?_, hr r hr', hs r hr'⟩) (by omega) hl, hle, tab_strOk hs, sm_tab (n := 0) hl hr, hl, hr⟩
  have := (h.row r hr').1
  intro z
  rw [z] at this
  simp at this
theorem tab_ne {m n : Nat} {l : Tab} (h : TabOk m n l) : l ≠ [] ∧ ∀ r ∈ l, r ≠ [] := by
  refine ⟨fun z => ?_, fun r hr z => ?_⟩
  · have := h.1
    rw [z] at this
    simp at this
  · have := (h.row r hr).1
    rw [z] at this
    simp at this
theorem val_tab {k : Int} {m n : Nat} {l : Tab} {b : Bool} (hk : k = 1 ∨ k = 2 ∨ k = 3) (h : TabOk m n l) (hm : m ≤ 10) (hn : n ≤ 10) (hb : b = decide (k = 3)) (hsome : b = false → ∀ r ∈ l, ∀ o ∈ r, o.isSome = true) (hr : (if k = 1 then evenB 7 8 l && from0 l else if k = 2 then evenB 7 8 l && all01 l else evenB 6 7 l && from0 l) = true) : Shown k (tabD l) (tabS l) := by
  obtain ⟨t1, t2, t3, t4, t5, t6⟩ := tab_facts h hm hn
  obtain ⟨n1, n2⟩ := tab_ne h
  have rd := tabP_fore (b := b) n1 (fun r hr => ⟨n2 r hr, fun o ho => ⟨(h.row r hr).2.2 o ho, fun z => hsome z r hr o ho⟩⟩)
  refine ⟨?_, ?_, ?_, by omega, t4, smD_le t5 (by decide), ⟨_, rfl⟩⟩
  · rcases hk with rfl | rfl | rfl <;> simp [m_L_text, u_runF, b_L_text, u_fCall, u_noErr, t1]
  · have s1 := e_show_table _ t2
    have s2 := e_show_costs _ t2
    rcases hk with rfl | rfl | rfl <;> simp [m_L_shown, u_runF, b_L_shown, u_fCall, u_noErr, s1, s2]
  · rcases hk with rfl | rfl | rfl <;> simp at hb <;> subst hb <;> simp at hr <;> simp [readR, tabR, rd, hr]
theorem fr_split {a b c : Str} (ha : 124 ∉ cs a) (hb : 124 ∉ cs b) (hc : 124 ∉ cs c) : Txt.split (frS a b c) bar3 = [a, b, c] := split_join markb kindb (by simp) (fun p hp => by
  simp only [List.mem_cons, List.not_mem_nil, or_false] at hp
  rcases hp with hp | hp | hp <;> rw [hp] <;> assumption)
theorem shown_4 {r c : Row} {l : Tab} (hr : RowOk 5 r) (hc : RowOk 5 c) (hl : TabOk 5 5 l) (hrs : ∀ o ∈ r, o.isSome = true) (hcs : ∀ o ∈ c, o.isSome = true) (hf : frB r c l = true) : Shown 4 (frD r c l) (frS (rowS r) (rowS c) (tabS l)) := by
  obtain ⟨t1, t2, t3, t4, t5, t6⟩ := tab_facts hl (by decide) (by decide)
  obtain ⟨n1, n2⟩ := tab_ne hl
  have rlen := rowS_small hr
  have clen := rowS_small hc
  have hr1 := hr.2.1
  have hc1 := hc.2.1
  have rne : r ≠ [] := fun z => by have := hr.1; rw [z] at this; simp at this
  have cne : c ≠ [] := fun z => by have := hc.1; rw [z] at this; simp at this
  have r1 := e_L_row_text hr.2.2 (by omega) (by omega)
  have c1 := e_L_row_text hc.2.2 (by omega) (by omega)
  have r2 := e_show_numbers rne (fun o ho => ⟨hr.2.2 o ho, hrs o ho⟩) (by omega) (by omega)
  have c2 := e_show_numbers cne (fun o ho => ⟨hc.2.2 o ho, hcs o ho⟩) (by omega) (by omega)
  have len : (frS (rowS r) (rowS c) (tabS l)).length ≤ 50000 := by
    have := join_le (s := bar3) (ps := [rowS r, rowS c, tabS l]) (n := 5000) (fun p hp => by
      simp only [List.mem_cons, List.not_mem_nil, or_false] at hp
      rcases hp with hp | hp | hp <;> rw [hp] <;> omega)
    rw [lenb] at this
    simp at this
    unfold frS
    omega
  have j := dJoin_txt (s := bar3) (q := fun x => x) (l := [rowS r, rowS c, tabS l]) (by simpa [frS] using (by omega : (frS (rowS r) (rowS c) (tabS l)).length ≤ 1000000)) (by rw [lenb]; decide)
  simp at j
  have sf := e_show_frame r2 c2 t2 (by omega)
  have i0 : dIx (frD r c l) (.int 0) = some (rowD r) := by
    show atI _ 0 = _
    rw [atI_0]; rfl
  have i1 : dIx (frD r c l) (.int 1) = some (rowD c) := by
    show atI _ 1 = _
    rw [atI_1]; rfl
  have i2 : dIx (frD r c l) (.int 2) = some (tabD l) := by
    show atI _ 2 = _
    rw [atI_2]; rfl
  have no : ∀ r : Row, (∀ o ∈ r, Sm o) → 124 ∉ cs (rowS r) := fun r h z => by have := rowS_cs h _ z; omega
  refine ⟨?_, ?_, ?_, by omega, ?_, ?_, ⟨_, rfl⟩⟩
  · simp [m_L_text, u_runF, b_L_text, u_fCall, u_noErr, i0, i1, i2, r1, c1, t1, sizeLine, j, frS]
  · unfold frD
    simp [m_L_shown, u_runF, b_L_shown, u_fCall, u_noErr, sf]
  · have e0 : readR 4 (frS (rowS r) (rowS c) (tabS l)) = frameR (frS (rowS r) (rowS c) (tabS l)) := by simp [readR]
    rw [e0, frW_eq, fr_split (no r hr.2.2) (no c hc.2.2) (fun z => by have := tabS_cs (fun r hr => (hl.row r hr).2.2) _ z; omega)]
    show frR (rowP false (rowS r)) (rowP false (rowS c)) (tabP true (tabS l)) = _
    rw [rowP_fore (b := false) rne (fun o ho => ⟨hr.2.2 o ho, fun _ => hrs o ho⟩), rowP_fore (b := false) cne (fun o ho => ⟨hc.2.2 o ho, fun _ => hcs o ho⟩), tabP_fore (b := true) n1 (fun r hr => ⟨n2 r hr, fun o ho => ⟨(hl.row r hr).2.2 o ho, fun z => by cases z⟩⟩)]
    exact if_pos hf
  · refine strOk_of fun e he => ?_
    have a1 := rowS_cs hr.2.2
    have a2 := rowS_cs hc.2.2
    have a3 := tabS_cs (fun r hr => (hl.row r hr).2.2)
    rcases frS_cs he with h | h | h | h | h
    · omega
    · omega
    · have := a1 e h; omega
    · have := a2 e h; omega
    · have := a3 e h; omega
  · have x1 := sm_row (n := 1) (r := r) (by omega)
    have x2 := sm_row (n := 1) (r := c) (by omega)
    unfold frD smD
    simp [x1, x2, t5]
end K82
set_option Elab.async false
set_option linter.all false
set_option maxRecDepth 100000
set_option maxHeartbeats 1000000
namespace K82
open PySem PySem.Spec PyProof.Rows L2 FN
open PySem.PyData (strOk)
open FNL (Bag)
/-! ### drawing -/
theorem e_L_take {n : Nat} {bag : FN.D} {many : Int} (hb : Bag n bag) (hn : n ≤ 1000000) (h1 : 1 ≤ many) (h2 : many ≤ 2 ^ 62) : ∃ i bag', m_L_take [some bag, some (.int many)] = some (.ok (.int i) [some bag', none]) ∧ Bag (n + 1) bag' ∧ 0 ≤ i ∧ i < many := FNL.e_take hb hn h1 h2
theorem e_L_one_of {n : Nat} {bag : FN.D} {ds : List FN.D} (hb : Bag n bag) (hn : n ≤ 1000000) (h1 : ds ≠ []) (h2 : ds.length ≤ 1000000) : ∃ d bag', m_L_one_of [some bag, some (.list ds)] = some (.ok d [some bag', none]) ∧ Bag (n + 1) bag' ∧ d ∈ ds := FNL.e_one_of hb hn h1 h2
theorem one_eq : m_L_one_of = FNL.m_one_of := rfl
theorem p29 : dPow (.int 10) (.int 29) = some (.int 100000000000000000000000000000) := by simp [dPow, oI]
theorem p20 : dPow (.int 10) (.int 20) = some (.int 100000000000000000000) := by simp [dPow, oI]
theorem p25 : dPow (.int 10) (.int 25) = some (.int 10000000000000000000000000) := by simp [dPow, oI]
theorem rg_of {c : Int} (h0 : 0 ≤ c) : (rgD 0 c).length = c.toNat := by rw [rgD_len, Int.sub_zero]
def its0 : Row := [some 0, some 7, some (-12), some 100000000000000000000000000000, some (-100000000000000000000000000000)]
theorem its0_ok : ∀ o ∈ its0, Sm o ∧ o.isSome = true := by
  intro o ho
  simp only [its0, List.mem_cons, List.not_mem_nil, or_false] at ho
  rcases ho with rfl | rfl | rfl | rfl | rfl <;> exact ⟨show Int.natAbs _ < 10 ^ 30 by decide, rfl⟩
theorem mem_its {its : Row} {vs : List FN.D} (h : ∀ v ∈ vs, v ∈ its.map itD) : ∃ r : Row, vs = r.map itD ∧ (∀ o ∈ r, o ∈ its) ∧ r.length = vs.length := map_of fun v hv => by
  obtain ⟨o, ho, rfl⟩ := List.mem_map.mp (h v hv)
  exact ⟨o, rfl, ho⟩
theorem e_drawn_0 {n : Nat} {bag : FN.D} (hb : Bag n bag) (hn : n ≤ 900000) : ∃ d bag' x, m_L_drawn [some bag, some (.int 0)] = some (.ok d [some bag', none]) ∧ Bag (n + 100) bag' ∧ Shown 0 d x := by
  obtain ⟨c, b1, e1, hb1, c0, c1⟩ := e_L_take (many := 21) hb (by omega) (by decide) (by decide)
  have ew : (iRg1 (.t (.v true)) (fCall [.r 0, .t (.v true)] (noErr m_L_take) (aCons (fRef 0) (aCons (fC (.int 21)) aNil)))) [some bag, some (.int 0), none, none, none, none, none, none, none, none] = some (.ok (rgD 0 c) [some b1, some (.int 0), none, none, none, none, none, none, none, none]) := by
    rw [u_iRg1, call_r1 (b' := some b1) (b := none) rfl rfl e1]
    simp [okR_of (show -(2 ^ 62) ≤ c by omega) (show c < 2 ^ 62 by omega)]
  obtain ⟨vs, b2, e2, l2, m2, hb2⟩ := FNL.lc_draw (i := 8) (t := .v true) (fs := (fLst (aCons (fC (.int 0)) (aCons (fC (.int 7)) (aCons (f1 (.t (.v true)) dNeg (fC (.int 12))) (aCons (f2 (.t (.v true)) (.t (.v true)) dPow (fC (.int 10)) (fC (.int 29))) (aCons (f1 (.t (.v true)) dNeg (f2 (.t (.v true)) (.t (.v true)) dPow (fC (.int 10)) (fC (.int 29)))) aNil))))))) (its := its0.map itD) (by decide) hb1 rfl (fun b d => by simp [p29, sizeLine, its0, itD]) ew (by rw [rg_of c0]; omega) (by simp [its0]) (by simp [its0])
  rw [← one_eq] at e2
  obtain ⟨r, rfl, hr, lr⟩ := mem_its m2
  rw [rg_of c0] at l2 hb2
  rw [List.length_map] at l2
  refine ⟨rowD r, b2, _, ?_, hb2.mono (by omega), shown_0 (r := r) (by omega) fun o ho => its0_ok o (hr o ho)⟩
  rw [m_L_drawn, u_runF, b_L_drawn]
  simp
  rw [e2]
  simp [dTuple, rowD]
/-! kinds 1 to 4: the table -/
def itsK (k : Int) : Row := if k = 1 then [some 0, some 3, some 12, some 100000000000000000000000000000] else if k = 2 then [some 0, some 1] else if k = 3 then [some 0, some 5, none, some 100000000000000000000] else [some 0, some 1, none, some 30]
def mK (k : Int) : Int := if k = 1 then 7 else if k = 2 then 7 else if k = 3 then 6 else 5
def nK (k : Int) : Int := if k = 1 then 8 else if k = 2 then 8 else if k = 3 then 7 else 5
theorem draw_rows {n : Nat} {bag : FN.D} {k m c : Int} {its : Row} (hb : Bag n bag) (hn : n ≤ 900000) (hm : 1 ≤ m ∧ m ≤ 10) (hc : 1 ≤ c ∧ c ≤ 10) (hi : its ≠ [] ∧ its.length ≤ 10) : ∃ (l : Tab) (bag' : FN.D), (f1 (.t (.v true)) dTuple (fLc [7] (iRg1 (.t (.v true)) (fVar 5)) (gNm 7) tYesF (f1 (.t (.v true)) dTuple (fLc [9] (iRg1 (.t (.v true)) (fVar 6)) (gNm 9) tYesF (fCall [.r 0, .t (.v true)] (noErr m_L_one_of) (aCons (fRef 0) (aCons (fVar 2) aNil))))))) [some bag, some (.int k), some (.list (its.map itD)), none, none, some (.int m), some (.int c), none, none, none] = some (.ok (tabD l) [some bag', some (.int k), some (.list (its.map itD)), none, none, some (.int m), some (.int c), none, none, none]) ∧ Bag (n + 100) bag' ∧ (l.length : Int) = m ∧ ∀ r ∈ l, (r.length : Int) = c ∧ ∀ o ∈ r, o ∈ its := by
  have hne : its.map itD ≠ [] := by simpa using hi.1
  have e0 : (iRg1 (.t (.v true)) (fVar 5)) [some bag, some (.int k), some (.list (its.map itD)), none, none, some (.int m), some (.int c), none, none, none] = some (.ok (rgD 0 m) [some bag, some (.int k), some (.list (its.map itD)), none, none, some (.int m), some (.int c), none, none, none]) := by
    simp [okR_of (show -(2 ^ 62) ≤ m by omega) (show m < 2 ^ 62 by omega)]
  obtain ⟨vs, ρ', e, l1, p1, b1, rfl, hb1⟩ := lc_inv (i := 7) (fe := (f1 (.t (.v true)) dTuple (fLc [9] (iRg1 (.t (.v true)) (fVar 6)) (gNm 9) tYesF (fCall [.r 0, .t (.v true)] (noErr m_L_one_of) (aCons (fRef 0) (aCons (fVar 2) aNil)))))) (fun q ρ => ∃ b, ρ = [some b, some (.int k), some (.list (its.map itD)), none, none, some (.int m), some (.int c), none, none, none] ∧ Bag (n + q * c.toNat) b) (fun v => ∃ r : Row, v = rowD r ∧ (r.length : Int) = c ∧ ∀ o ∈ r, o ∈ its) (by rw [rg_of (by omega)]; unfold sizeLine; omega) e0 ⟨bag, rfl, by simpa using hb⟩ (fun q d ρ hk hg => by
    obtain ⟨b, rfl, hb⟩ := hg
    have hq : q < m.toNat := by
      have := (List.getElem?_eq_some_iff.mp hk).1
      rwa [rg_of (by omega)] at this
    have hqc : q * c.toNat ≤ 9 * 10 := Nat.mul_le_mul (by omega) (by omega)
    obtain ⟨vs, b2, e2, l2, m2, hb2⟩ := FNL.lc_draw (i := 9) (t := .v true) (fs := fVar 2) (its := its.map itD) (fi := iRg1 (.t (.v true)) (fVar 6)) (ρ0 := [some b, some (.int k), some (.list (its.map itD)), none, none, some (.int m), some (.int c), some d, none, none]) (ρ := [some b, some (.int k), some (.list (its.map itD)), none, none, some (.int m), some (.int c), some d, none, none]) (ds := rgD 0 c) (by decide) hb rfl (fun b d => by simp) (by simp [okR_of (show -(2 ^ 62) ≤ c by omega) (show c < 2 ^ 62 by omega)]) (by rw [rg_of (by omega)]; omega) hne (by rw [List.length_map]; omega)
    rw [← one_eq] at e2
    obtain ⟨r, rfl, hr, lr⟩ := mem_its m2
    rw [rg_of (by omega)] at l2 hb2
    rw [List.length_map] at l2
    refine ⟨rowD r, [some b2, some (.int k), some (.list (its.map itD)), none, none, some (.int m), some (.int c), some d, none, none], ?_, ⟨r, rfl, by omega, hr⟩, b2, ?_, ?_⟩
    · rw [u_f1]
      simp only [List.set_cons_succ, List.set_cons_zero] at e2 ⊢
      rw [e2]
      simp [dTuple, rowD]
    · rfl
    · rw [Nat.add_mul, Nat.one_mul, ← Nat.add_assoc]
      exact hb2)
  obtain ⟨l, rfl, hl, ll⟩ := map_of p1
  rw [rg_of (by omega)] at l1 hb1
  rw [List.length_map] at l1
  have hqc : m.toNat * c.toNat ≤ 10 * 10 := Nat.mul_le_mul (by omega) (by omega)
  refine ⟨l, b1, ?_, hb1.mono (by omega), by omega, hl⟩
  rw [u_f1, e]
  simp [dTuple, tabD]
theorem ix5 (a b c d e : FN.D) : atI [a, b, c, d, e] 3 = some d ∧ atI [a, b, c, d, e] 4 = some e := ⟨atI_nat [a, b, c, d, e] 3, atI_nat [a, b, c, d, e] 4⟩
theorem e_sizes {n : Nat} {bag : FN.D} {k : Int} (hk : 1 ≤ k ∧ k ≤ 4) (hb : Bag n bag) (hn : n ≤ 900000) : ∃ (m c : Int) (bag' : FN.D), (fTup (aCons (f2 (.t (.v true)) (.t (.v true)) dAdd (fC (.int 1)) (fCall [.r 0, .t (.v true)] (noErr m_L_take) (aCons (fRef 0) (aCons (f2 (.t (.v true)) (.t (.v true)) dIx (fLst (aCons (fC (.int 0)) (aCons (fC (.int 7)) (aCons (fC (.int 7)) (aCons (fC (.int 6)) (aCons (fC (.int 5)) aNil)))))) (fVar 1)) aNil)))) (aCons (f2 (.t (.v true)) (.t (.v true)) dAdd (fC (.int 1)) (fCall [.r 0, .t (.v true)] (noErr m_L_take) (aCons (fRef 0) (aCons (f2 (.t (.v true)) (.t (.v true)) dIx (fLst (aCons (fC (.int 0)) (aCons (fC (.int 8)) (aCons (fC (.int 8)) (aCons (fC (.int 7)) (aCons (fC (.int 5)) aNil)))))) (fVar 1)) aNil)))) aNil))) [some bag, some (.int k), none, none, none, none, none, none, none, none] = some (.ok (.tuple [.int m, .int c]) [some bag', some (.int k), none, none, none, none, none, none, none, none]) ∧ Bag (n + 2) bag' ∧ 1 ≤ m ∧ m ≤ mK k ∧ 1 ≤ c ∧ c ≤ nK k := by
  have hm : 1 ≤ mK k ∧ mK k ≤ 10 := by unfold mK; omega
  have hc : 1 ≤ nK k ∧ nK k ≤ 10 := by unfold nK; omega
  obtain ⟨i, b1, e1, hb1, i0, i1⟩ := e_L_take (many := mK k) hb (by omega) hm.1 (by omega)
  obtain ⟨j, b2, e2, hb2, j0, j1⟩ := e_L_take (many := nK k) hb1 (by omega) hc.1 (by omega)
  refine ⟨1 + i, 1 + j, b2, ?_, hb2, by omega, by omega, by omega, by omega⟩
  have x1 : ∀ b, (f2 (.t (.v true)) (.t (.v true)) dIx (fLst (aCons (fC (.int 0)) (aCons (fC (.int 7)) (aCons (fC (.int 7)) (aCons (fC (.int 6)) (aCons (fC (.int 5)) aNil)))))) (fVar 1)) [some b, some (.int k), none, none, none, none, none, none, none, none] = some (.ok (.int (mK k)) [some b, some (.int k), none, none, none, none, none, none, none, none]) := fun b => by
    rcases (show k = 1 ∨ k = 2 ∨ k = 3 ∨ k = 4 by omega) with rfl | rfl | rfl | rfl <;> simp [sizeLine, mK, ix5]
  have x2 : ∀ b, (f2 (.t (.v true)) (.t (.v true)) dIx (fLst (aCons (fC (.int 0)) (aCons (fC (.int 8)) (aCons (fC (.int 8)) (aCons (fC (.int 7)) (aCons (fC (.int 5)) aNil)))))) (fVar 1)) [some b, some (.int k), none, none, none, none, none, none, none, none] = some (.ok (.int (nK k)) [some b, some (.int k), none, none, none, none, none, none, none, none]) := fun b => by
    rcases (show k = 1 ∨ k = 2 ∨ k = 3 ∨ k = 4 by omega) with rfl | rfl | rfl | rfl <;> simp [sizeLine, nK, ix5]
  rw [u_fTup, u_aCons, u_f2, u_fC, u_ok, call_r1 (b' := some b1) (b := none) rfl (x1 bag) e1]
  simp only [u_ok, List.set_cons_zero]
  rw [u_rdv, u_rdv]
  simp only [dAdd_ii, Option.map_some, u_ok]
  rw [u_aCons, u_f2, u_fC, u_ok, call_r1 (b' := some b2) (b := none) rfl (x2 b1) e2]
  simp [sizeLine]
theorem e_items {bag : FN.D} {k : Int} (hk : 1 ≤ k ∧ k ≤ 4) (m c : FN.D) : (f2 (.t (.v true)) (.t (.v true)) dIx (fLst (aCons (fLst aNil) (aCons (fLst (aCons (fC (.int 0)) (aCons (fC (.int 3)) (aCons (fC (.int 12)) (aCons (f2 (.t (.v true)) (.t (.v true)) dPow (fC (.int 10)) (fC (.int 29))) aNil))))) (aCons (fLst (aCons (fC (.int 0)) (aCons (fC (.int 1)) aNil))) (aCons (fLst (aCons (fC (.int 0)) (aCons (fC (.int 5)) (aCons (fC .none) (aCons (f2 (.t (.v true)) (.t (.v true)) dPow (fC (.int 10)) (fC (.int 20))) aNil))))) (aCons (fLst (aCons (fC (.int 0)) (aCons (fC (.int 1)) (aCons (fC .none) (aCons (fC (.int 30)) aNil))))) aNil)))))) (fVar 1)) [some bag, some (.int k), none, none, none, some m, some c, none, none, none] = some (.ok (.list ((itsK k).map itD)) [some bag, some (.int k), none, none, none, some m, some c, none, none, none]) := by
  rcases (show k = 1 ∨ k = 2 ∨ k = 3 ∨ k = 4 by omega) with rfl | rfl | rfl | rfl <;> simp [sizeLine, itsK, ix5, p29, p20, itD]
def okItem (k : Int) (o : Option Int) : Bool := (match o with | some i => decide (i.natAbs < 10 ^ 30) | none => true) && ge0 o && (decide (k = 3 ∨ k = 4) || o.isSome) && (decide (k ≠ 2) || in01 o)
theorem itsK_ok (k : Int) (hk : 1 ≤ k ∧ k ≤ 4) : ∀ o ∈ itsK k, okItem k o = true := by
  intro o ho
  rcases (show k = 1 ∨ k = 2 ∨ k = 3 ∨ k = 4 by omega) with rfl | rfl | rfl | rfl <;> simp [itsK] at ho <;> (rcases ho with rfl | rfl | rfl | rfl) <;> decide +kernel
theorem okItem_sm {k : Int} {o : Option Int} (h : okItem k o = true) : Sm o := by
  unfold okItem at h
  rw [Bool.and_eq_true, Bool.and_eq_true, Bool.and_eq_true] at h
  cases o with
  | none => trivial
  | some i =>
    have q : decide (i.natAbs < 10 ^ 30) = true := h.1.1.1
    exact show i.natAbs < 10 ^ 30 from of_decide_eq_true q
theorem okItem_ge {k : Int} {o : Option Int} (h : okItem k o = true) : ge0 o = true := by
  unfold okItem at h
  rw [Bool.and_eq_true, Bool.and_eq_true, Bool.and_eq_true] at h
  exact h.1.1.2
theorem okItem_some {k : Int} {o : Option Int} (h : okItem k o = true) (hk : k = 1 ∨ k = 2) : o.isSome = true := by
  unfold okItem at h
  rw [Bool.and_eq_true, Bool.and_eq_true, Bool.and_eq_true] at h
  have := h.1.2
  rw [decide_eq_false (by omega)] at this
  simpa using this
theorem okItem_01 {o : Option Int} (h : okItem 2 o = true) : in01 o = true := by
  unfold okItem at h
  rw [Bool.and_eq_true, Bool.and_eq_true, Bool.and_eq_true] at h
  simpa using h.2
theorem itsK_ne (k : Int) : itsK k ≠ [] ∧ (itsK k).length ≤ 10 := by
  unfold itsK
  split
  · exact ⟨by simp, by simp⟩
  · split
    · exact ⟨by simp, by simp⟩
    · split
      · exact ⟨by simp, by simp⟩
      · exact ⟨by simp, by simp⟩
theorem tab_drawn {k m c : Int} {l : Tab} (hk : 1 ≤ k ∧ k ≤ 4) (hm : 1 ≤ m ∧ m ≤ mK k) (hc : 1 ≤ c ∧ c ≤ nK k) (hl : (l.length : Int) = m) (h : ∀ r ∈ l, (r.length : Int) = c ∧ ∀ o ∈ r, o ∈ itsK k) : TabOk (mK k).toNat (nK k).toNat l ∧ ∀ r ∈ l, ∀ o ∈ r, okItem k o = true := by
  have a : ∀ r ∈ l, ∀ o ∈ r, okItem k o = true := fun r hr o ho => itsK_ok k hk o ((h r hr).2 o ho)
  exact ⟨⟨by omega, by omega, c.toNat, by omega, by omega, fun r hr => ⟨by have := (h r hr).1; omega, fun o ho => okItem_sm (a r hr o ho)⟩⟩, a⟩
theorem from0_of {l : Tab} (h : ∀ r ∈ l, ∀ o ∈ r, ge0 o = true) : from0 l = true := by
  unfold from0
  rw [List.all_eq_true]
  intro r hr
  rw [List.all_eq_true]
  exact h r hr
theorem all01_of {l : Tab} (h : ∀ r ∈ l, ∀ o ∈ r, in01 o = true) : all01 l = true := by
  unfold all01
  rw [List.all_eq_true]
  intro r hr
  rw [List.all_eq_true]
  exact h r hr
theorem e_drawn_123 {n : Nat} {bag : FN.D} {k : Int} (hk : k = 1 ∨ k = 2 ∨ k = 3) (hb : Bag n bag) (hn : n ≤ 800000) : ∃ d bag' x, m_L_drawn [some bag, some (.int k)] = some (.ok d [some bag', none]) ∧ Bag (n + 200) bag' ∧ Shown k d x := by
  obtain ⟨m, c, b1, e1, hb1, m0, m1, c0, c1⟩ := e_sizes (k := k) (by omega) hb (by omega)
  have hm10 : mK k ≤ 10 := by unfold mK; omega
  have hc10 : nK k ≤ 10 := by unfold nK; omega
  obtain ⟨l, b2, e2, hb2, ll, hl⟩ := draw_rows (k := k) (m := m) (c := c) hb1 (by omega) ⟨m0, by omega⟩ ⟨c0, by omega⟩ (itsK_ne k)
  have it := fun b => e_items (bag := b) (k := k) (by omega) (.int m) (.int c)
  obtain ⟨t, ok⟩ := tab_drawn (k := k) (by omega) ⟨m0, m1⟩ ⟨c0, c1⟩ ll hl
  refine ⟨tabD l, b2, tabS l, ?_, hb2.mono (by omega), ?_⟩
  · rw [m_L_drawn, u_runF, b_L_drawn]
    simp only [List.replicate, List.cons_append, List.nil_append, u_sSeq]
    have k0 : k ≠ 0 := by omega
    have k4 : k < 4 := by omega
    rw [show (sIf (fTst (f2 (.t (.v true)) (.t (.v true)) dEq (fVar 1) (fC (.int 0)))) _ sNx) [some bag, some (.int k), none, none, none, none, none, none, none, none] = some (.nx [some bag, some (.int k), none, none, none, none, none, none, none, none]) by simp [k0]]
    simp only []
    rw [u_sAsg, e1]
    simp only [u_ok, u_gTp, gsCons, u_gNm, u_gsN, Option.map_some, Option.bind_some, List.set_cons_succ, List.set_cons_zero]
    rw [u_sSet, it]
    simp only [u_ok, List.set_cons_succ, List.set_cons_zero]
    rw [u_sSet, e2]
    simp [k4]
  · have t' : TabOk 10 10 l := ⟨t.1, by have := t.2.1; omega, by
      obtain ⟨q, q1, q2, q3⟩ := t.2.2
      exact ⟨q, q1, by omega, q3⟩⟩
    have f0 := from0_of (fun r hr o ho => okItem_ge (ok r hr o ho))
    rcases hk with rfl | rfl | rfl
    · have ev := TabOk.even (m := 7) (n := 8) t
      exact val_tab (.inl rfl) t' (by decide) (by decide) (b := false) rfl (fun _ r hr o ho => okItem_some (ok r hr o ho) (.inl rfl)) (by rw [if_pos rfl]; simp at ev; simp [ev, f0])
    · have ev := TabOk.even (m := 7) (n := 8) t
      have f1 := all01_of (fun r hr o ho => okItem_01 (ok r hr o ho))
      exact val_tab (.inr (.inl rfl)) t' (by decide) (by decide) (b := false) rfl (fun _ r hr o ho => okItem_some (ok r hr o ho) (.inr rfl)) (by simp at ev; simp [ev, f1])
    · have ev := TabOk.even (m := 6) (n := 7) t
      exact val_tab (.inr (.inr rfl)) t' (by decide) (by decide) (b := true) rfl (fun z => by cases z) (by simp at ev; simp [ev, f0])
def sumsI : Row := [some 0, some 4, some 10000000000000000000000000]
theorem sumsI_ok : ∀ o ∈ sumsI, Sm o ∧ o.isSome = true ∧ ge0 o = true := by
  intro o ho
  simp only [sumsI, List.mem_cons, List.not_mem_nil, or_false] at ho
  rcases ho with rfl | rfl | rfl <;> exact ⟨show Int.natAbs _ < 10 ^ 30 by decide, rfl, by decide⟩
theorem e_drawn_4 {n : Nat} {bag : FN.D} (hb : Bag n bag) (hn : n ≤ 800000) : ∃ d bag' x, m_L_drawn [some bag, some (.int 4)] = some (.ok d [some bag', none]) ∧ Bag (n + 200) bag' ∧ Shown 4 d x := by
  obtain ⟨m, c, b1, e1, hb1, m0, m1, c0, c1⟩ := e_sizes (k := 4) (by omega) hb (by omega)
  have m1 : m ≤ 5 := m1
  have c1 : c ≤ 5 := c1
  obtain ⟨l, b2, e2, hb2, ll, hl⟩ := draw_rows (k := 4) (m := m) (c := c) hb1 (by omega) ⟨m0, by omega⟩ ⟨c0, by omega⟩ (itsK_ne 4)
  have it := fun b => e_items (bag := b) (k := 4) (by omega) (.int m) (.int c)
  obtain ⟨t, ok⟩ := tab_drawn (k := 4) (m := m) (c := c) (by omega) ⟨m0, m1⟩ ⟨c0, c1⟩ ll hl
  have km : okR m = true := okR_of (by omega) (by omega)
  have kc : okR c = true := okR_of (by omega) (by omega)
  obtain ⟨vs3, b3, e3, l3, m3, hb3⟩ := FNL.lc_draw (i := 7) (t := .v true) (fs := fVar 4) (its := sumsI.map itD) (fi := iRg1 (.t (.v true)) (fVar 5)) (ρ0 := [some b2, some (.int 4), some (.list ((itsK 4).map itD)), some (tabD l), some (.list (sumsI.map itD)), some (.int m), some (.int c), none, none, none]) (ρ := [some b2, some (.int 4), some (.list ((itsK 4).map itD)), some (tabD l), some (.list (sumsI.map itD)), some (.int m), some (.int c), none, none, none]) (ds := rgD 0 m) (by decide) hb2 rfl (fun b d => by simp) (by simp [km]) (by rw [rg_of (by omega)]; omega) (by simp [sumsI]) (by simp [sumsI])
  obtain ⟨r, rfl, hr, lr⟩ := mem_its m3
  rw [rg_of (by omega)] at l3 hb3
  rw [List.length_map] at l3
  obtain ⟨vs4, b4, e4, l4, m4, hb4⟩ := FNL.lc_draw (i := 9) (t := .v true) (fs := fVar 4) (its := sumsI.map itD) (fi := iRg1 (.t (.v true)) (fVar 6)) (ρ0 := [some b3, some (.int 4), some (.list ((itsK 4).map itD)), some (tabD l), some (.list (sumsI.map itD)), some (.int m), some (.int c), none, none, none]) (ρ := [some b3, some (.int 4), some (.list ((itsK 4).map itD)), some (tabD l), some (.list (sumsI.map itD)), some (.int m), some (.int c), none, none, none]) (ds := rgD 0 c) (by decide) hb3 rfl (fun b d => by simp) (by simp [kc]) (by rw [rg_of (by omega)]; omega) (by simp [sumsI]) (by simp [sumsI])
  obtain ⟨s, rfl, hs, ls⟩ := mem_its m4
  rw [rg_of (by omega)] at l4 hb4
  rw [List.length_map] at l4
  rw [← one_eq] at e3 e4
  simp only [List.set_cons_succ, List.set_cons_zero] at e3 e4
  have rk : RowOk 5 r := ⟨by omega, by omega, fun o ho => (sumsI_ok o (hr o ho)).1⟩
  have sk : RowOk 5 s := ⟨by omega, by omega, fun o ho => (sumsI_ok o (hs o ho)).1⟩
  have t' : TabOk 5 5 l := t
  have fb : frB r s l = true := by
    unfold frB sumsB
    have h1 : r.all ge0 = true := by rw [List.all_eq_true]; exact fun o ho => (sumsI_ok o (hr o ho)).2.2
    have h2 : s.all ge0 = true := by rw [List.all_eq_true]; exact fun o ho => (sumsI_ok o (hs o ho)).2.2
    have h3 : l.all (limB s.length) = true := by
      rw [List.all_eq_true]
      intro x hx
      unfold limB
      rw [Bool.and_eq_true, List.all_eq_true]
      exact ⟨decide_eq_true (by have := (hl x hx).1; omega), fun o ho => okItem_ge (ok x hx o ho)⟩
    rw [h1, h2, h3]
    simp only [Bool.and_true, Bool.and_eq_true, decide_eq_true_eq]
    omega
  refine ⟨frD r s l, b4, _, ?_, hb4.mono (by omega), shown_4 rk sk t' (fun o ho => (sumsI_ok o (hr o ho)).2.1) (fun o ho => (sumsI_ok o (hs o ho)).2.1) fb⟩
  rw [m_L_drawn, u_runF, b_L_drawn]
  simp only [List.replicate, List.cons_append, List.nil_append, u_sSeq]
  rw [show (sIf (fTst (f2 (.t (.v true)) (.t (.v true)) dEq (fVar 1) (fC (.int 0)))) _ sNx) [some bag, some (.int 4), none, none, none, none, none, none, none, none] = some (.nx [some bag, some (.int 4), none, none, none, none, none, none, none, none]) by simp]
  simp only []
  rw [u_sAsg, e1]
  simp only [u_ok, u_gTp, gsCons, u_gNm, u_gsN, Option.map_some, Option.bind_some, List.set_cons_succ, List.set_cons_zero]
  rw [u_sSet, it]
  simp only [u_ok, List.set_cons_succ, List.set_cons_zero]
  rw [u_sSet, e2]
  simp only [u_ok, List.set_cons_succ, List.set_cons_zero]
  rw [show (sIf (fTst (f2 (.t (.v true)) (.t (.v true)) dLt (fVar 1) (fC (.int 4)))) (sRet (fVar 3)) sNx) [some b2, some (.int 4), some (.list ((itsK 4).map itD)), some (tabD l), none, some (.int m), some (.int c), none, none, none] = some (.nx [some b2, some (.int 4), some (.list ((itsK 4).map itD)), some (tabD l), none, some (.int m), some (.int c), none, none, none]) by simp]
  simp only []
  rw [u_sSet, show (fLst (aCons (fC (.int 0)) (aCons (fC (.int 4)) (aCons (f2 (.t (.v true)) (.t (.v true)) dPow (fC (.int 10)) (fC (.int 25))) aNil)))) [some b2, some (.int 4), some (.list ((itsK 4).map itD)), some (tabD l), none, some (.int m), some (.int c), none, none, none] = some (.ok (.list (sumsI.map itD)) [some b2, some (.int 4), some (.list ((itsK 4).map itD)), some (tabD l), none, some (.int m), some (.int c), none, none, none]) by simp [sizeLine, p25, sumsI, itD]]
  simp only [u_ok, List.set_cons_succ, List.set_cons_zero]
  rw [u_sRet, u_fTup, u_aCons, u_f1, e3]
  simp only [u_ok, u_rdv, dTuple, Option.map_some]
  rw [u_aCons, u_f1, e4]
  simp [dTuple, sizeLine, frD, rowD]
theorem e_drawn {n : Nat} {bag : FN.D} {k : Int} (hk : 0 ≤ k ∧ k ≤ 4) (hb : Bag n bag) (hn : n ≤ 800000) : ∃ d bag' x, m_L_drawn [some bag, some (.int k)] = some (.ok d [some bag', none]) ∧ Bag (n + 200) bag' ∧ Shown k d x := by
  rcases (show k = 0 ∨ (k = 1 ∨ k = 2 ∨ k = 3) ∨ k = 4 by omega) with rfl | h | rfl
  · obtain ⟨d, b, x, e, h, s⟩ := e_drawn_0 hb (by omega)
    exact ⟨d, b, x, e, h.mono (by omega), s⟩
  · exact e_drawn_123 h hb hn
  · exact e_drawn_4 hb hn
end K82
set_option Elab.async false
set_option linter.all false
set_option maxRecDepth 100000
set_option maxHeartbeats 1000000
namespace K82
open PySem PySem.Spec PyProof.Rows L2 FN
open PySem.PyData (strOk)
open FNL (Bag)
/-! ### texts changed -/
def signs : List Str := [" ", "-", "0", "1", ";", "|", "/", ",", "  ", " ; ", "x", "+", "", Txt.mul "9" 31, " | "]
theorem signs_ok : ∀ s ∈ signs, s.length ≤ 31 ∧ strOk s = true := by
  have : (signs.all fun s => decide (s.length ≤ 31) && strOk s) = true := by decide +kernel
  rw [List.all_eq_true] at this
  intro s hs
  have := this s hs
  rw [Bool.and_eq_true] at this
  exact ⟨of_decide_eq_true this.1, this.2⟩
theorem cut_len (x : Str) (lo hi : Option Int) : (cutS x lo hi).length ≤ x.length := by
  rw [← cs_len, ← cs_len, cs_cut, List.length_take, List.length_drop]
  omega
theorem cut_ok {x : Str} (lo hi : Option Int) (h : strOk x = true) : strOk (cutS x lo hi) = true := strOk_sub h fun c hc => by
  rw [cs_cut] at hc
  exact List.mem_of_mem_drop (List.mem_of_mem_take hc)
theorem app_ok {x y : Str} (hx : strOk x = true) (hy : strOk y = true) : strOk (x ++ y) = true := strOk_of fun c hc => by
  rw [cs_app] at hc
  rcases List.mem_append.mp hc with hc | hc
  · exact of_strOk hx c hc
  · exact of_strOk hy c hc
theorem app_len (x y : Str) : (x ++ y).length = x.length + y.length := by
  rw [← cs_len, cs_app, List.length_append, cs_len, cs_len]
theorem dAdd_ss {x y : Str} (h : x.length + y.length ≤ sizeLine) : dAdd (.str x) (.str y) = some (.str (x ++ y)) := if_pos h
theorem dCut_s {x : Str} (lo hi : Option Int) (h : x.length ≤ sizeLine) : dCut (.str x) lo hi = some (.str (cutS x lo hi)) := if_pos h
theorem mul9 : dMulS (.str ("9" : Str)) (.int 31) = some (.str (Txt.mul ("9" : Str) 31)) := by
  simp [dMulS]
  decide +kernel
theorem e_L_unreadable {n : Nat} {bag : FN.D} {x : Str} (hb : Bag n bag) (hn : n ≤ 900000) (hx : x.length ≤ 400000) (ho : strOk x = true) : ∃ y bag', m_L_unreadable [some bag, some (.str x)] = some (.ok (.str y) [some bag', none]) ∧ Bag (n + 3) bag' ∧ y.length ≤ 2 * x.length + 31 ∧ strOk y = true := by
  have xs : x.length ≤ sizeLine := by unfold sizeLine; omega
  obtain ⟨i, b1, e1, hb1, i0, i1⟩ := e_L_take (many := (x.length : Int) + 1) hb (by omega) (by omega) (by omega)
  obtain ⟨j, b2, e2, hb2, j0, j1⟩ := e_L_take (many := 4) hb1 (by omega) (by decide) (by decide)
  obtain ⟨d, b3, e3, hb3, hd⟩ := e_L_one_of (ds := signs.map .str) hb2 (by omega) (by simp [signs]) (by simp [signs])
  obtain ⟨s, hs, rfl⟩ := List.mem_map.mp hd
  obtain ⟨s1, s2⟩ := signs_ok s hs
  have p : (sPar 3 4 (aCons (fCall [.r 0, .t (.v true)] (noErr m_L_take) (aCons (fRef 0) (aCons (f2 (.t (.v true)) (.t (.v true)) dAdd (f1 (.t (.v true)) dLen (fVar 1)) (fC (.int 1))) aNil))) (aCons (fCall [.r 0, .t (.v true)] (noErr m_L_take) (aCons (fRef 0) (aCons (fC (.int 4)) aNil))) aNil))) [some bag, some (.str x), none, none, none] = some (.nx [some b2, some (.str x), none, some (.int i), some (.int j)]) := by
    rw [u_sPar, u_aCons, call_r1 (b' := some b1) (b := none) (x := .int ((x.length : Int) + 1)) rfl (by simp [dLen, xs]) e1]
    simp only [u_ok, List.set_cons_zero]
    rw [u_aCons, call_r1 (b' := some b2) (b := none) rfl (by rfl) e2]
    simp
  have l1 : ∀ lo hi, (cutS x lo hi).length ≤ x.length := fun lo hi => cut_len x lo hi
  have l2 : ∀ lo hi lo' hi', (cutS x lo hi).length + (cutS x lo' hi').length ≤ sizeLine := fun lo hi lo' hi' => by
    have := l1 lo hi
    have := l1 lo' hi'
    unfold sizeLine
    omega
  have l3 : ∀ lo hi, (cutS x lo hi).length + s.length ≤ sizeLine := fun lo hi => by
    have := l1 lo hi
    unfold sizeLine
    omega
  have l4 : ∀ lo hi lo' hi', ((cutS x lo hi) ++ s).length + (cutS x lo' hi').length ≤ sizeLine := fun lo hi lo' hi' => by
    have := l1 lo hi
    have := l1 lo' hi'
    rw [app_len]
    unfold sizeLine
    omega
  have q := fun lo hi => cut_ok lo hi ho
  refine ⟨if j = 0 then cutS x none (some i) ++ cutS x (some (i + 1)) none else if j = 1 then cutS x none (some i) ++ s ++ cutS x (some (i + 1)) none else cutS x none (some i) ++ s ++ cutS x (some i) none, b3, ?_, hb3, ?_, ?_⟩
  · rw [m_L_unreadable, u_runF, b_L_unreadable]
    simp only [List.replicate, List.cons_append, List.nil_append, u_sSeq]
    rw [p]
    simp only []
    rw [u_sSet, call_r1 (b' := some b3) (b := none) (x := .list (signs.map .str)) rfl (by simp [signs, sizeLine, mul9]) e3]
    simp only [u_ok, List.set_cons_zero, List.set_cons_succ]
    by_cases z0 : j = 0
    · simp [z0, oNone, oSome, dCut_s _ _ xs, dAdd_ss (l2 _ _ _ _)]
    · by_cases z1 : j = 1
      · simp [z1, oNone, oSome, dCut_s _ _ xs, dAdd_ss (l3 _ _), dAdd_ss (l4 _ _ _ _)]
      · simp [z0, z1, oNone, oSome, dCut_s _ _ xs, dAdd_ss (l3 _ _), dAdd_ss (l4 _ _ _ _)]
  · have a := l1 none (some i)
    have b := l1 (some (i + 1)) none
    have c := l1 (some i) none
    split
    · rw [app_len]; omega
    · split <;> (rw [app_len, app_len]; omega)
  · split
    · exact app_ok (q _ _) (q _ _)
    · split <;> exact app_ok (app_ok (q _ _) s2) (q _ _)
end K82
set_option Elab.async false
set_option linter.all false
set_option maxRecDepth 100000
set_option maxHeartbeats 1000000
namespace K82
open PySem PySem.Spec PyProof.Rows L2 FN
open PySem.PyData (strOk)
open FNL (Bag smD smD_le)
noncomputable def inner : FN.Env → Option Fl :=
  (sSeq (sSet 8 (fCall [.t (.v true), .t (.v true)] (noErr m_L_found) (aCons (fVar 1) (aCons (fVar 6) aNil))))
  (sIf (tNotF (fTru (.t (.v true)) (fCall [.t (.v true), .t (.v true)] (noErr (m_L_same 8)) (aCons (fCall [.t (.v true), .t (.v true)] (noErr m_L_read) (aCons (fVar 1) (aCons (fVar 6) aNil))) (aCons (fIf (fTst (f2 (.t (.v true)) (.t (.v true)) dNe (fVar 8) (fLst aNil))) (fVar 8) (fLst (aCons (fC (.str ("unreadable" : Str))) (aCons (fVar 6) (aCons (fC (.bool true)) aNil))))) aNil)))))
  (sRet (fC (.bool false)))
  sNx))
noncomputable def others : M (List FN.D) := (iSeq (f2 (.t (.v true)) (.t (.v true)) dAdd (fVar 5) (fLst (aCons (fCall [.r 0, .t (.v true)] (noErr m_L_unreadable) (aCons (fRef 0) (aCons (f2 (.t (.v true)) (.t (.v true)) dIx (fVar 5) (fC (.int 0))) aNil))) (aCons (fC (.str ("" : Str))) (aCons (fC (.str (" " : Str))) (aCons (fC (.str ("-" : Str))) (aCons (fC (.str ("0" : Str))) (aCons (f2 (.t (.v true)) (.t (.v true)) dAdd (fVar 4) (fC (.str ("\n" : Str)))) (aCons (f2 (.t (.v true)) (.t (.v true)) dAdd (fVar 4) (fC (.str (" " : Str)))) aNil))))))))))
noncomputable def oddC : M FN.D := (fLc [9] (iRg1 (.t (.v true)) (fC (.int 4))) (gNm 9) tYesF (fCall [.r 0, .t (.v true)] (noErr m_L_unreadable) (aCons (fRef 0) (aCons (fVar 4) aNil))))
noncomputable def placC : M FN.D := (fLc [10] (iRg1 (.t (.v true)) (f2 (.t (.v true)) (.t (.v true)) dAdd (fC (.int 1)) (fCall [.r 0, .t (.v true)] (noErr m_L_take) (aCons (fRef 0) (aCons (fC (.int 7)) aNil))))) (gNm 10) tYesF (fCall [.r 0, .t (.v true)] (noErr m_L_one_of) (aCons (fRef 0) (aCons (fLst (aCons (fC .none) (aCons (fC (.int 0)) (aCons (fC (.int 3)) aNil)))) aNil))))
noncomputable def turn : FN.Env → Option Fl :=
  (sSeq (sSet 3 (fCall [.r 0, .t (.v true)] (noErr m_L_drawn) (aCons (fRef 0) (aCons (fVar 1) aNil))))
  (sSeq (sSet 4 (fCall [.t (.v true), .t (.v true)] (noErr m_L_text) (aCons (fVar 1) (aCons (fVar 3) aNil))))
  (sSeq (sIf (tNotF (fTru (.t (.v true)) (fCall [.t (.v true), .t (.v true)] (noErr (m_L_same 8)) (aCons (fLst (aCons (fCall [.t (.v true), .t (.v true)] (noErr m_L_shown) (aCons (fVar 1) (aCons (fVar 3) aNil))) (aCons (fCall [.t (.v true), .t (.v true)] (noErr m_L_read) (aCons (fVar 1) (aCons (fVar 4) aNil))) aNil))) (aCons (fLst (aCons (fVar 4) (aCons (fLst (aCons (fVar 3) aNil)) aNil))) aNil)))))
  (sRet (fC (.bool false)))
  sNx)
  (sSeq (sSet 5 oddC)
  (sSeq (sFor others (gNm 6) inner)
  (sSeq (sSet 7 (fCall [.r 0, .t (.v true)] (noErr m_L_one_of) (aCons (fRef 0) (aCons (fLst (aCons (fC .none) (aCons (fC (.int 0)) (aCons (fC (.bool true)) (aCons (fTup aNil) (aCons (fLst (aCons (fVar 4) aNil)) (aCons (fTup (aCons (fC (.str ("0" : Str))) aNil)) (aCons (fVar 3) aNil)))))))) aNil))))
  (sIf (tNotF (fTru (.t (.v true)) (fCall [.t (.v true), .t (.v true)] (noErr (m_L_same 8)) (aCons (fCall [.t (.v true), .t (.v true)] (noErr m_L_read) (aCons (fVar 1) (aCons (fVar 7) aNil))) (aCons (fLst (aCons (fC (.str ("unreadable" : Str))) (aCons (fVar 7) (aCons (fC (.bool true)) aNil)))) aNil)))))
  (sRet (fC (.bool false)))
  sNx)))))))
noncomputable def lastR : FN.Env → Option Fl :=
  (sSeq (sSet 2 (f1 (.t (.v true)) dTuple placC))
  (sRet (fCall [.t (.v true), .t (.v true)] (noErr (m_L_same 8)) (aCons (fLst (aCons (fCall [.t (.v true)] (noErr m_show_placing) (aCons (fVar 2) aNil)) (aCons (fCall [.t (.v true)] (kwM [0] (noErr m_show_placing)) (aCons (fVar 2) aNil)) aNil))) (aCons (f2 (.t (.v true)) (.t (.v true)) dMul (fLst (aCons (fCall [.t (.v true)] (noErr m_L_row_text) (aCons (fVar 2) aNil)) aNil)) (fC (.int 2))) aNil)))))
theorem right_eq : b_L_right = sSeq (sFor (iRg1 (.t (.v true)) (fC (.int 5))) (gNm 1) turn) lastR := rfl
theorem same_eq : ∀ n, m_L_same n = FNL.m_same n
  | 0 => rfl
  | n + 1 => by
    show runF _ _ _ (b_L_same (m_L_same n)) = runF _ _ _ (FNL.b_same (FNL.m_same n))
    rw [same_eq n]
    rfl
theorem e_L_same {d : FN.D} (h : smD 7 d = true) : m_L_same 8 [some d, some d] = some (.ok (.bool true) [none, none]) := by
  rw [same_eq]
  exact FNL.e_same 7 d h
theorem e_L_found {k : Int} {x : Str} (hk : 0 ≤ k ∧ k ≤ 4) (h : wordOk' x) : m_L_found [some (.int k), some (.str x)] = some (.ok (.list (foundL k x)) [none, none]) := by
  rcases (show k = 0 ∨ k = 1 ∨ k = 2 ∨ k = 3 ∨ k = 4 by omega) with rfl | rfl | rfl | rfl | rfl
  · exact e_found_0 h
  · exact e_found_1 h
  · exact e_found_2 h
  · exact e_found_3 h
  · exact e_found_4 h
theorem tab_ok {l : Tab} (h : smallT l) : okD 5 (tabD l) = true ∧ smD 5 (tabD l) = true := ⟨okD_tab 3 l, sm_tab (n := 3) h.1 h.2⟩
theorem tabR_ok {b : Bool} {q : Tab → Bool} {x : Str} {d : FN.D} (hx : wordOk' x) (h : tabR b q x = some d) : okD 5 d = true ∧ smD 5 d = true := by
  unfold tabR at h
  split at h
  · rename_i l e
    split at h
    · cases h
      exact tab_ok (tab_small hx e)
    · cases h
  · cases h
theorem readR_ok {k : Int} {x : Str} {d : FN.D} (hx : wordOk' x) (h : readR k x = some d) : okD 5 d = true ∧ smD 5 d = true := by
  unfold readR at h
  split at h
  · unfold numR at h
    split at h
    · cases h
      exact ⟨by decide +kernel, by decide +kernel⟩
    · split at h
      · rename_i l e
        split at h
        · cases h
          exact ⟨okD_row 4 l, sm_row (n := 4) (row_small' hx e)⟩
        · cases h
      · cases h
  · split at h
    · exact tabR_ok hx h
    · split at h
      · exact tabR_ok hx h
      · split at h
        · exact tabR_ok hx h
        · rw [frW_eq] at h
          have hp : ∀ w ∈ Txt.split x bar3, wordOk' w := fun w hw => piece_ok' hx hw
          generalize Txt.split x bar3 = ws at *
          match ws, h, hp with
          | [a, b, c], h, hp =>
            have h' : frR (rowP false a) (rowP false b) (tabP true c) = some d := h
            unfold frR at h'
            split at h'
            · rename_i r s l ea eb ec
              split at h'
              · cases h'
                have x1 := sm_row (n := 3) (row_small' (hp a (by simp)) ea)
                have x2 := sm_row (n := 3) (row_small' (hp b (by simp)) eb)
                have t := tab_small (hp c (by simp)) ec
                have x3 := sm_tab (n := 2) t.1 t.2
                have y1 := okD_row 3 r
                have y2 := okD_row 3 s
                have y3 := okD_tab 2 l
                unfold frD okD smD
                simp only [List.all_cons, List.all_nil, Bool.and_true, x1, x2, x3, y1, y2, y3]
                exact ⟨True.intro, by simp⟩
              · cases h'
            · cases h'
theorem un_ok : strOk ("unreadable" : Str) = true := by decide +kernel
theorem inner_ok {k : Int} {w : Str} (hk : 0 ≤ k ∧ k ≤ 4) (h : wordOk' w) (o0 o2 o3 o4 o5 o7 o8 : Option FN.D) : inner [o0, some (.int k), o2, o3, o4, o5, some (.str w), o7, o8, none, none] = some (.nx [o0, some (.int k), o2, o3, o4, o5, some (.str w), o7, some (.list (foundL k w)), none, none]) := by
  have f := e_L_found hk h
  have r := e_L_read (k := k) (d := .str w) hk (fun x e => by cases e; exact h)
  have rd : readD k (.str w) = readR k w := rfl
  rw [rd] at r
  unfold inner
  unfold foundL at f ⊢
  cases q : readR k w with
  | none =>
    rw [q] at f r
    have sm : smD 7 (.list [.str ("unreadable" : Str), .str w, .bool true]) = true := by
      unfold smD
      simp only [List.all_cons, List.all_nil, Bool.and_true]
      unfold smD
      rw [un_ok, h.2]
      simp
    have s := e_L_same sm
    have ne : dNe (.list []) (.list []) = some (.bool false) := by
      have b : SeqAt.shaped (.list []) = true := shaped_ok (n := 6) (by decide)
      unfold dNe
      rw [b]
      simp
    simp [u_fCall, u_noErr, f, r, lrL, sizeLine, s, ne]
  | some v =>
    rw [q] at f r
    obtain ⟨h1, h2⟩ := readR_ok h q
    have sm : smD 7 (.list [v]) = true := by
      have := smD_le h2 (m := 6) (by decide)
      unfold smD
      simp only [List.all_cons, List.all_nil, Bool.and_true, this]
      simp
    have s := e_L_same sm
    have ne : dNe (.list [v]) (.list []) = some (.bool true) := by
      have a : SeqAt.shaped (.list [v]) = true := shaped_ok (n := 6) (by unfold okD; simp [h1])
      have b : SeqAt.shaped (.list []) = true := shaped_ok (n := 6) (by decide)
      unfold dNe
      rw [a, b]
      simp
    simp [u_fCall, u_noErr, f, r, lrL, sizeLine, s, ne]
end K82
set_option Elab.async false
set_option linter.all false
set_option maxRecDepth 100000
set_option maxHeartbeats 1000000
namespace K82
open PySem PySem.Spec PyProof.Rows L2 FN
open PySem.PyData (strOk)
open FNL (Bag smD smD_le)
theorem sm_list {n : Nat} {ds : List FN.D} (hl : ds.length ≤ 1000000) (h : ∀ d ∈ ds, smD n d = true) : smD (n + 1) (.list ds) = true := by
  unfold smD
  rw [Bool.and_eq_true, List.all_eq_true]
  exact ⟨decide_eq_true hl, h⟩
theorem sm_str {n : Nat} {x : Str} (h : strOk x = true) : smD n (.str x) = true := by unfold smD; exact h
theorem sm_un {n : Nat} {d : FN.D} (h : smD n d = true) : smD (n + 1) (.list [.str ("unreadable" : Str), d, .bool true]) = true := sm_list (by simp) fun e he => by
  simp only [List.mem_cons, List.not_mem_nil, or_false] at he
  rcases he with rfl | rfl | rfl
  · exact sm_str un_ok
  · exact h
  · unfold smD; rfl
def TxtOk (m : Nat) (y : Str) : Prop := y.length ≤ m ∧ strOk y = true
theorem odd_ok {n : Nat} {bag d : FN.D} {k : Int} {x : Str} (hb : Bag n bag) (hn : n ≤ 800000) (hx : TxtOk 100000 x) (o2 o5 o6 o7 o8 : Option FN.D) : ∃ (ys : List Str) (bag' : FN.D), oddC [some bag, some (.int k), o2, some d, some (.str x), o5, o6, o7, o8, none, none] = some (.ok (.list (ys.map .str)) [some bag', some (.int k), o2, some d, some (.str x), o5, o6, o7, o8, none, none]) ∧ ys.length = 4 ∧ (∀ y ∈ ys, TxtOk 200031 y) ∧ Bag (n + 12) bag' := by
  have ei : (iRg1 (.t (.v true)) (fC (.int 4))) [some bag, some (.int k), o2, some d, some (.str x), o5, o6, o7, o8, none, none] = some (.ok (rgD 0 4) [some bag, some (.int k), o2, some d, some (.str x), o5, o6, o7, o8, none, none]) := by
    simp [okR_of (show -(2 ^ 62) ≤ (4 : Int) by decide) (by decide)]
  obtain ⟨vs, ρ', e, l, p, b, rfl, hb'⟩ := lc_inv (i := 9) (fe := (fCall [.r 0, .t (.v true)] (noErr m_L_unreadable) (aCons (fRef 0) (aCons (fVar 4) aNil)))) (ds := rgD 0 4) (fun q ρ => ∃ b, ρ = [some b, some (.int k), o2, some d, some (.str x), o5, o6, o7, o8, none, none] ∧ Bag (n + q * 3) b) (fun v => ∃ y : Str, v = .str y ∧ TxtOk 200031 y) (by rw [rgD_len]; decide) ei ⟨bag, rfl, by simpa using hb⟩ (fun q d' ρ hk hg => by
    obtain ⟨b, rfl, hb⟩ := hg
    have hq : q < 4 := by
      have := (List.getElem?_eq_some_iff.mp hk).1
      rwa [rgD_len] at this
    obtain ⟨y, b2, e2, hb2, y1, y2⟩ := e_L_unreadable hb (by omega) (by have := hx.1; omega) hx.2
    refine ⟨.str y, _, call_r1 (b' := some b2) (b := none) rfl (by rfl) e2, ⟨y, rfl, by have := hx.1; omega, y2⟩, b2, rfl, ?_⟩
    rw [Nat.add_mul, ← Nat.add_assoc]
    exact hb2)
  obtain ⟨ys, rfl, hys, ly⟩ := map_of p
  rw [rgD_len] at l hb'
  rw [List.length_map] at l
  exact ⟨ys, b, e, l, hys, hb'⟩
theorem lit_ok {y : Str} (h : y = "" ∨ y = " " ∨ y = "-" ∨ y = "0") : TxtOk 200031 y := by
  rcases h with rfl | rfl | rfl | rfl <;> exact ⟨by decide +kernel, by decide +kernel⟩
theorem nl_len : ("\n" : Str).length = 1 ∧ (" " : Str).length = 1 := by decide +kernel
theorem nl_ok : strOk ("\n" : Str) = true ∧ strOk (" " : Str) = true := by decide +kernel
theorem others_ok {n : Nat} {bag d : FN.D} {k : Int} {x : Str} {ys : List Str} (hb : Bag n bag) (hn : n ≤ 800000) (hx : TxtOk 100000 x) (h4 : ys.length = 4) (hys : ∀ y ∈ ys, TxtOk 200031 y) (o2 o6 o7 o8 : Option FN.D) : ∃ (ws : List Str) (bag' : FN.D), others [some bag, some (.int k), o2, some d, some (.str x), some (.list (ys.map .str)), o6, o7, o8, none, none] = some (.ok (ws.map .str) [some bag', some (.int k), o2, some d, some (.str x), some (.list (ys.map .str)), o6, o7, o8, none, none]) ∧ (∀ w ∈ ws, wordOk' w) ∧ Bag (n + 3) bag' := by
  have l1 : x.length + ("\n" : Str).length ≤ sizeLine := by rw [nl_len.1]; have := hx.1; unfold sizeLine; omega
  have l2 : x.length + (" " : Str).length ≤ sizeLine := by rw [nl_len.2]; have := hx.1; unfold sizeLine; omega
  match ys, h4, hys with
  | y0 :: yr, h4, hys =>
    have hy0 := hys y0 List.mem_cons_self
    obtain ⟨z, b1, e1, hb1, z1, z2⟩ := e_L_unreadable hb (by omega) (by have := hy0.1; omega) hy0.2
    refine ⟨(y0 :: yr) ++ [z, "", " ", "-", "0", x ++ ("\n" : Str), x ++ (" " : Str)], b1, ?_, ?_, hb1⟩
    · have ec := call_r1 (i := 0) (g := m_L_unreadable) (fx := (f2 (.t (.v true)) (.t (.v true)) dIx (fVar 5) (fC (.int 0)))) (ρ := [some bag, some (.int k), o2, some d, some (.str x), some (.list ((y0 :: yr).map .str)), o6, o7, o8, none, none]) (t := .v true) (b' := some b1) (b := none) rfl (by simp) e1
      unfold others
      rw [u_iSeq, u_f2]
      simp only [u_fVar, List.getElem?_cons_succ, List.getElem?_cons_zero, u_ok]
      rw [u_fLst, u_aCons, ec]
      simp [dAdd_ss l1, dAdd_ss l2]
      rw [if_pos (by decide)]
      have l3 : (PyData.list (PyData.str y0 :: yr.map .str)) = .list ((y0 :: yr).map .str) := rfl
      simp only [List.length_cons] at h4
      simp [dAdd, sizeLine, show yr.length + 1 + 7 ≤ 16777216 by omega]
    · intro w hw
      rcases List.mem_append.mp hw with hw | hw
      · have := hys w hw
        exact ⟨by have := this.1; omega, this.2⟩
      · simp only [List.mem_cons, List.not_mem_nil, or_false] at hw
        rcases hw with rfl | h | h | h | h | rfl | rfl
        · exact ⟨by have := hy0.1; omega, z2⟩
        · have := lit_ok (.inl h); exact ⟨by have := this.1; omega, this.2⟩
        · have := lit_ok (.inr (.inl h)); exact ⟨by have := this.1; omega, this.2⟩
        · have := lit_ok (.inr (.inr (.inl h))); exact ⟨by have := this.1; omega, this.2⟩
        · have := lit_ok (.inr (.inr (.inr h))); exact ⟨by have := this.1; omega, this.2⟩
        · exact ⟨by rw [app_len, nl_len.1]; have := hx.1; omega, app_ok hx.2 nl_ok.1⟩
        · exact ⟨by rw [app_len, nl_len.2]; have := hx.1; omega, app_ok hx.2 nl_ok.2⟩
end K82
set_option Elab.async false
set_option linter.all false
set_option maxRecDepth 100000
set_option maxHeartbeats 1000000
namespace K82
open PySem PySem.Spec PyProof.Rows L2 FN
open PySem.PyData (strOk)
open FNL (Bag smD smD_le)
theorem readD_no {k : Int} {d : FN.D} (h : isStr d = false) : readD k d = none := by
  match d, h with
  | .none, _ => rfl
  | .bool _, _ => rfl
  | .int _, _ => rfl
  | .list _, _ => rfl
  | .tuple _, _ => rfl
  | .dict _, _ => rfl
theorem turn_ok {n : Nat} {bag : FN.D} {k : Int} (hk : 0 ≤ k ∧ k ≤ 4) (hb : Bag n bag) (hn : n ≤ 700000) (o2 o3 o4 o5 o6 o7 o8 : Option FN.D) : ∃ (bag' : FN.D) (p3 p4 p5 p6 p7 p8 : Option FN.D), turn [some bag, some (.int k), o2, o3, o4, o5, o6, o7, o8, none, none] = some (.nx [some bag', some (.int k), o2, p3, p4, p5, p6, p7, p8, none, none]) ∧ Bag (n + 300) bag' := by
  obtain ⟨d, b1, x, e1, hb1, S⟩ := e_drawn hk hb (by omega)
  have hx : TxtOk 100000 x := ⟨S.len, S.ok⟩
  have hw : wordOk' x := ⟨by have := S.len; omega, S.ok⟩
  have r := e_L_read (k := k) (d := .str x) hk (fun y e => by cases e; exact hw)
  rw [show readD k (.str x) = some d from S.read] at r
  have s1 := e_L_same (d := .list [.str x, .list [d]]) (sm_list (n := 6) (by simp) fun e he => by
    simp only [List.mem_cons, List.not_mem_nil, or_false] at he
    rcases he with rfl | rfl
    · exact sm_str S.ok
    · exact sm_list (n := 5) (by simp) fun e he => by
        simp only [List.mem_cons, List.not_mem_nil, or_false] at he
        subst he
        exact smD_le S.sm (by decide))
  obtain ⟨ys, b2, e2, l2, hys, hb2⟩ := odd_ok (d := d) (k := k) hb1 (by omega) hx o2 o5 o6 o7 o8
  obtain ⟨ws, b3, e3, hws, hb3⟩ := others_ok (d := d) (k := k) hb2 (by omega) hx l2 hys o2 o6 o7 o8
  obtain ⟨ρ', e4, p6, p8, rfl⟩ := for_inv (fi := others) (ft := gNm 6) (f := inner) (fun q ρ => ∃ p6 p8, ρ = [some b3, some (.int k), o2, some d, some (.str x), some (.list (ys.map .str)), p6, o7, p8, none, none]) e3 ⟨o6, o8, rfl⟩ (fun q d' ρ hk' hg => by
    obtain ⟨p6, p8, rfl⟩ := hg
    rw [List.getElem?_map] at hk'
    obtain ⟨w, hw', rfl⟩ := Option.map_eq_some_iff.mp hk'
    exact ⟨_, _, rfl, .inl (inner_ok hk (hws w (List.mem_of_getElem? hw')) _ _ _ _ _ _ _), _, _, rfl⟩)
  obtain ⟨t, b4, e5, hb4, ht⟩ := e_L_one_of (ds := [.none, .int 0, .bool true, .tuple [], .list [.str x], .tuple [.str ("0" : Str)], d]) hb3 (by omega) (by simp) (by simp)
  have ok0 : strOk ("0" : Str) = true := ok_zero
  have td : isStr t = false ∧ smD 6 t = true := by
    obtain ⟨ds, hds⟩ := S.tup
    simp only [List.mem_cons, List.not_mem_nil, or_false] at ht
    rcases ht with rfl | rfl | rfl | rfl | rfl | rfl | rfl
    · exact ⟨rfl, by decide +kernel⟩
    · exact ⟨rfl, by decide +kernel⟩
    · exact ⟨rfl, by decide +kernel⟩
    · exact ⟨rfl, by decide +kernel⟩
    · exact ⟨rfl, sm_list (n := 5) (by simp) fun e he => by
        simp only [List.mem_cons, List.not_mem_nil, or_false] at he
        subst he
        exact sm_str S.ok⟩
    · exact ⟨rfl, by decide +kernel⟩
    · exact ⟨by rw [hds]; rfl, smD_le S.sm (by decide)⟩
  have r2 := e_L_read (k := k) (d := t) hk (fun y e => by rw [e] at td; cases td.1)
  rw [readD_no td.1] at r2
  have s2 := e_L_same (sm_un td.2)
  refine ⟨b4, some d, some (.str x), some (.list (ys.map .str)), p6, some t, p8, ?_, hb4.mono (by omega)⟩
  unfold turn
  rw [u_sSeq, u_sSet, call_r1 (b' := some b1) (b := none) rfl (by rfl) e1]
  simp only [u_ok, List.set_cons_zero, List.set_cons_succ]
  rw [u_sSeq, show (sSet 4 (fCall [.t (.v true), .t (.v true)] (noErr m_L_text) (aCons (fVar 1) (aCons (fVar 3) aNil)))) [some b1, some (.int k), o2, some d, o4, o5, o6, o7, o8, none, none] = some (.nx [some b1, some (.int k), o2, some d, some (.str x), o5, o6, o7, o8, none, none]) by simp [u_fCall, u_noErr, S.text]]
  simp only []
  rw [u_sSeq, show (sIf (tNotF (fTru (.t (.v true)) (fCall [.t (.v true), .t (.v true)] (noErr (m_L_same 8)) (aCons (fLst (aCons (fCall [.t (.v true), .t (.v true)] (noErr m_L_shown) (aCons (fVar 1) (aCons (fVar 3) aNil))) (aCons (fCall [.t (.v true), .t (.v true)] (noErr m_L_read) (aCons (fVar 1) (aCons (fVar 4) aNil))) aNil))) (aCons (fLst (aCons (fVar 4) (aCons (fLst (aCons (fVar 3) aNil)) aNil))) aNil))))) (sRet (fC (.bool false))) sNx) [some b1, some (.int k), o2, some d, some (.str x), o5, o6, o7, o8, none, none] = some (.nx [some b1, some (.int k), o2, some d, some (.str x), o5, o6, o7, o8, none, none]) by simp [u_fCall, u_noErr, S.show', r, lrL, sizeLine, s1]]
  simp only []
  rw [u_sSeq, u_sSet, e2]
  simp only [u_ok, List.set_cons_zero, List.set_cons_succ]
  rw [u_sSeq, e4]
  simp only []
  rw [u_sSeq, u_sSet, call_r1 (x := .list [.none, .int 0, .bool true, .tuple [], .list [.str x], .tuple [.str ("0" : Str)], d]) (b' := some b4) (b := none) rfl (by simp [sizeLine]) e5]
  simp only [u_ok, List.set_cons_zero, List.set_cons_succ]
  simp [u_fCall, u_noErr, r2, lrL, sizeLine, s2]
theorem last_ok {n : Nat} {bag : FN.D} (hb : Bag n bag) (hn : n ≤ 800000) (o1 o2 o3 o4 o5 o6 o7 o8 : Option FN.D) : ∃ ρ : FN.Env, lastR [some bag, o1, o2, o3, o4, o5, o6, o7, o8, none, none] = some (.ret (.bool true) ρ) ∧ ∃ bag' ρ', ρ = some bag' :: ρ' := by
  obtain ⟨c, b1, e1, hb1, c0, c1⟩ := e_L_take (many := 7) hb (by omega) (by decide) (by decide)
  have ew : (iRg1 (.t (.v true)) (f2 (.t (.v true)) (.t (.v true)) dAdd (fC (.int 1)) (fCall [.r 0, .t (.v true)] (noErr m_L_take) (aCons (fRef 0) (aCons (fC (.int 7)) aNil))))) [some bag, o1, o2, o3, o4, o5, o6, o7, o8, none, none] = some (.ok (rgD 0 (1 + c)) [some b1, o1, o2, o3, o4, o5, o6, o7, o8, none, none]) := by
    rw [u_iRg1, u_f2, u_fC, u_ok, call_r1 (b' := some b1) (b := none) rfl rfl e1]
    simp [okR_of (show -(2 ^ 62) ≤ 1 + c by omega) (show 1 + c < 2 ^ 62 by omega)]
  obtain ⟨vs, b2, e2, l2, m2, hb2⟩ := FNL.lc_draw (i := 10) (t := .v true) (fs := (fLst (aCons (fC .none) (aCons (fC (.int 0)) (aCons (fC (.int 3)) aNil))))) (its := ([none, some 0, some 3] : Row).map itD) (by decide) hb1 rfl (fun b d => by simp [sizeLine, itD]) ew (by rw [rg_of (by omega)]; omega) (by simp) (by simp)
  rw [← one_eq] at e2
  obtain ⟨r, rfl, hr, lr⟩ := mem_its m2
  rw [rg_of (by omega)] at l2
  rw [List.length_map] at l2
  have sm : ∀ o ∈ r, Sm o := fun o ho => by
    have := hr o ho
    simp only [List.mem_cons, List.not_mem_nil, or_false] at this
    rcases this with rfl | rfl | rfl
    · trivial
    · exact show Int.natAbs _ < 10 ^ 30 by decide
    · exact show Int.natAbs _ < 10 ^ 30 by decide
  have len : (rowS r).length ≤ 1000 := by
    have := rowS_le sm
    omega
  have rne : r ≠ [] := fun z => by rw [z] at l2; simp at l2; omega
  have t1 := e_show_placing rne sm (by omega) (by omega)
  have t2 := e_L_row_text sm (by omega) (by omega)
  have s := e_L_same (d := .list [.str (rowS r), .str (rowS r)]) (sm_list (n := 6) (by simp) fun e he => by
    simp only [List.mem_cons, List.not_mem_nil, or_false, or_self] at he
    subst he
    exact sm_str (row_strOk sm))
  refine ⟨_, ?_, b2, [o1, some (rowD r), o3, o4, o5, o6, o7, o8, none, none], rfl⟩
  unfold lastR placC
  simp only [List.set_cons_zero, List.set_cons_succ] at e2
  rw [u_sSeq, u_sSet, u_f1, e2]
  have fr : PyData.tuple (r.map itD) = rowD r := rfl
  simp only [u_ok, u_rdv, dTuple, Option.map_some, List.set_cons_zero, List.set_cons_succ, fr]
  simp [u_fCall, u_noErr, kwM, permE, t1, t2, sizeLine, dMul, s]
end K82
set_option Elab.async false
set_option linter.all false
set_option maxRecDepth 100000
set_option maxHeartbeats 1000000
namespace K82
open PySem PySem.Spec PyProof.Rows L2 FN
open FNL (Bag smD smD_le)
theorem e_L_bag (ns : List Int) (k : Int) (h0 : 0 ≤ k) (h1 : k ≤ 100) : ∃ bag, m_L_bag [some (.list (ns.map .int)), some (.int k)] = some (.ok bag [some (.list (ns.map .int)), none]) ∧ Bag 0 bag := FNL.e_bag ns k h0 h1
theorem e_L_right {bag : FN.D} (hb : Bag 0 bag) : ∃ bag', m_L_right [some bag] = some (.ok (.bool true) [some bag']) := by
  have ei : (iRg1 (.t (.v true)) (fC (.int 5))) [some bag, none, none, none, none, none, none, none, none, none, none] = some (.ok (rgD 0 5) [some bag, none, none, none, none, none, none, none, none, none, none]) := by
    simp [okR_of (show -(2 ^ 62) ≤ (5 : Int) by decide) (by decide)]
  obtain ⟨ρ', e, b, o1, o2, o3, o4, o5, o6, o7, o8, rfl, hb'⟩ := for_inv (fi := iRg1 (.t (.v true)) (fC (.int 5))) (ft := gNm 1) (f := turn) (fun q ρ => ∃ b o1 o2 o3 o4 o5 o6 o7 o8, ρ = [some b, o1, o2, o3, o4, o5, o6, o7, o8, none, none] ∧ Bag (q * 300) b) ei ⟨bag, _, _, _, _, _, _, _, _, rfl, by simpa using hb⟩ (fun q d ρ hk hg => by
    obtain ⟨b, o1, o2, o3, o4, o5, o6, o7, o8, rfl, hb⟩ := hg
    obtain ⟨rfl, hq⟩ := rgD_get hk
    have hq : q < 5 := hq
    obtain ⟨b2, p3, p4, p5, p6, p7, p8, e2, hb2⟩ := turn_ok (k := 0 + (q : Int)) ⟨by omega, by omega⟩ hb (by omega) o2 o3 o4 o5 o6 o7 o8
    refine ⟨_, _, rfl, .inl e2, b2, _, _, _, _, _, _, _, _, rfl, ?_⟩
    rw [Nat.add_mul]
    exact hb2)
  obtain ⟨ρ, e2, b', ρ', rfl⟩ := last_ok hb' (by rw [rgD_len]; decide) o1 o2 o3 o4 o5 o6 o7 o8
  refine ⟨b', ?_⟩
  rw [m_L_right, u_runF, right_eq]
  simp only [List.replicate, List.cons_append, List.nil_append]
  rw [u_sSeq, e]
  simp only []
  rw [e2]
  simp
theorem law_true (ns : List Int) (hl : ns.length ≤ 63) : ∃ ρ', (noErr m_law) [some (.list (ns.map .int))] = some (.ok (.bool true) ρ') := by
  obtain ⟨m, hm, m0, m1⟩ : ∃ m : Int, (f2 (.t (.v true)) (.t (.v true)) dMax2 (fC (.int 1)) (f2 (.t (.v true)) (.t (.v true)) dMin2 (fC (.int 3)) (f1 (.r 0) dLen (fRef 0)))) [some (.list (ns.map .int)), none] = some (.ok (.int m) [some (.list (ns.map .int)), none]) ∧ 1 ≤ m ∧ m ≤ 3 := by
    refine ⟨if (if (ns.length : Int) < 3 then (ns.length : Int) else 3) > 1 then (if (ns.length : Int) < 3 then (ns.length : Int) else 3) else 1, ?_, by split <;> omega, by split <;> (try split) <;> omega⟩
    simp
  have ei : (iRg1 (.t (.v true)) (f2 (.t (.v true)) (.t (.v true)) dMax2 (fC (.int 1)) (f2 (.t (.v true)) (.t (.v true)) dMin2 (fC (.int 3)) (f1 (.r 0) dLen (fRef 0))))) [some (.list (ns.map .int)), none] = some (.ok (rgD 0 m) [some (.list (ns.map .int)), none]) := by
    rw [u_iRg1, hm]
    simp [okR_of (show -(2 ^ 62) ≤ m by omega) (show m < 2 ^ 62 by omega)]
  obtain ⟨ρ', e, o1, rfl⟩ := for_inv (fi := iRg1 (.t (.v true)) (f2 (.t (.v true)) (.t (.v true)) dMax2 (fC (.int 1)) (f2 (.t (.v true)) (.t (.v true)) dMin2 (fC (.int 3)) (f1 (.r 0) dLen (fRef 0))))) (ft := gNm 1) (f := (sIf (tNotF (fTru (.t (.v true)) (fCall [.t (.lst (.v true))] (noErr m_L_right) (aCons (fCall [.r 0, .t (.v true)] (noErr m_L_bag) (aCons (fRef 0) (aCons (fVar 1) aNil))) aNil))))
  (sRet (fC (.bool false)))
  sNx)) (fun q ρ => ∃ o1, ρ = [some (.list (ns.map .int)), o1]) ei ⟨none, rfl⟩ (fun q d ρ hk hg => by
    obtain ⟨o1, rfl⟩ := hg
    obtain ⟨rfl, hq⟩ := rgD_get hk
    obtain ⟨bag, e1, hb⟩ := e_L_bag ns (0 + (q : Int)) (by omega) (by omega)
    obtain ⟨bag', e2⟩ := e_L_right hb
    refine ⟨_, [some (.list (ns.map .int)), some (.int (0 + (q : Int)))], rfl, .inl ?_, _, rfl⟩
    simp only [List.set_cons_zero, List.set_cons_succ]
    rw [u_sIf, u_tNot, u_fTru, u_fCall, u_aCons, call_r1 (b' := some (.list (ns.map .int))) (b := none) rfl (by rfl) e1]
    simp only [List.set_cons_zero, u_ok, u_aNil, u_fillT, u_fill0, Option.map_some, u_noErr, e2]
    rfl)
  refine ⟨[some (.list (ns.map .int))], ?_⟩
  rw [u_noErr, m_law, u_runF, b_law]
  simp only [List.replicate, List.cons_append, List.nil_append]
  rw [u_sSeq, e]
  simp
end K82
set_option Elab.async false
set_option linter.all false
set_option maxRecDepth 100000
set_option maxHeartbeats 8000000
namespace K82
open PySem PySem.Spec PyProof.Rows L2 FN
structure Facts (P : Program) (K : PySem.W.Frag) (mg : Str → Option Value) : Prop where
  B : Bt mg
  CN : Cs mg
  ER : ∃ DE fI C_StandError C_Unreadable : Addr, Er P K mg DE fI C_StandError C_Unreadable
  A_is_integer : At K mg "is_integer" s_is_integer ["value"]
  A_is_between : At K mg "is_between" s_is_between ["value", "low", "high"]
  A_is_tuple : At K mg "is_tuple" s_is_tuple ["value", "low", "high"]
  A_are_integers : At K mg "are_integers" s_are_integers ["value", "low", "high"]
  A_joined : At K mg "joined" s_joined ["parts", "between"]
  A_show_item : At K mg "show_item" s_show_item ["item"]
  A_show_numbers : At K mg "show_numbers" s_show_numbers ["numbers"]
  A_show_placing : At K mg "show_placing" s_show_placing ["placing"]
  A_show_rows : At K mg "show_rows" s_show_rows ["rows"]
  A_show_table : At K mg "show_table" s_show_table ["table"]
  A_show_frame : At K mg "show_frame" s_show_frame ["frame"]
  A_show_costs : At K mg "show_costs" s_show_costs ["costs"]
  A_is_a_board : At K mg "is_a_board" s_is_a_board ["value"]
  A_is_a_costs : At K mg "is_a_costs" s_is_a_costs ["value"]
  A_are_sums : At K mg "are_sums" s_are_sums ["value"]
  A_are_limits : At K mg "are_limits" s_are_limits ["value", "many"]
  A_is_a_frame : At K mg "is_a_frame" s_is_a_frame ["value"]
  A_integer_from : At K mg "integer_from" s_integer_from ["word"]
  A_all_or_none : At K mg "all_or_none" s_all_or_none ["found"]
  A_listed : At K mg "listed" s_listed__integer_from ["text", "between", "kind"]
  A_item_from : At K mg "item_from" s_item_from ["word"]
  A_integers_from : At K mg "integers_from" s_integers_from ["text"]
  A_items_from : At K mg "items_from" s_items_from ["text"]
  A_shown : At K mg "shown" s_shown__show_numbers ["found", "text", "show"]
  A_numbers_from : At K mg "numbers_from" s_numbers_from ["text"]
  A_is_a_plain_table : At K mg "is_a_plain_table" s_is_a_plain_table ["value"]
  A_table_from : At K mg "table_from" s_table_from ["text"]
  A_board_from : At K mg "board_from" s_board_from ["text"]
  A_frame_from : At K mg "frame_from" s_frame_from ["text"]
  A_costs_from : At K mg "costs_from" s_costs_from ["text"]
  A_read_by : At K mg "read_by" s_read_by__numbers_from ["kind", "text"]
  A_read_numbers : At K mg "read_numbers" s_read_numbers ["text"]
  A_read_table : At K mg "read_table" s_read_table ["text"]
  A_read_board : At K mg "read_board" s_read_board ["text"]
  A_read_frame : At K mg "read_frame" s_read_frame ["text"]
  A_read_costs : At K mg "read_costs" s_read_costs ["text"]
  A__law_bag : At K mg "_law_bag" s_L_bag ["script", "k"]
  A__law_take : At K mg "_law_take" s_L_take ["bag", "many"]
  A__law_one_of : At K mg "_law_one_of" s_L_one_of ["bag", "items"]
  A__law_same : At K mg "_law_same" s_L_same ["got", "due"]
  A__law_int : At K mg "_law_int" s_L_int ["word"]
  A__law_items : At K mg "_law_items" s_L_items ["text", "between", "is_none_let"]
  A__law_lines : At K mg "_law_lines" s_L_lines ["text", "is_none_let"]
  A__law_unreadable : At K mg "_law_unreadable" s_L_unreadable ["bag", "text"]
  A__law_word : At K mg "_law_word" s_L_word ["item"]
  A__law_row_text : At K mg "_law_row_text" s_L_row_text ["row"]
  A__law_rows_text : At K mg "_law_rows_text" s_L_rows_text ["rows"]
  A__law_text : At K mg "_law_text" s_L_text ["kind", "value"]
  A__law_is_even : At K mg "_law_is_even" s_L_is_even ["rows", "most", "wide"]
  A__law_are_from_0 : At K mg "_law_are_from_0" s_L_are_from_0 ["rows"]
  A__law_found : At K mg "_law_found" s_L_found ["kind", "text"]
  A__law_read : At K mg "_law_read" s_L_read ["kind", "text"]
  A__law_drawn : At K mg "_law_drawn" s_L_drawn ["bag", "kind"]
  A__law_shown : At K mg "_law_shown" s_L_shown ["kind", "value"]
  A__law_right : At K mg "_law_right" s_L_right ["bag"]
  A_law : At K mg "law" s_law ["script"]
  KW_show_placing_placing : KwAt K mg "show_placing" ["placing"] ["placing"] [0]
theorem law_kn {P : Program} {w : World} {K : PySem.W.Frag} {mg : Str → Option Value} (F : Facts P K mg) (base : Heap) : Kn P w K mg base CX0 11 "law" ["script"] (spF K mg [.scr] (.v true) (noErr m_law)) := by
  obtain ⟨DE, fI, C_StandError, C_Unreadable, ER⟩ := F.ER
  obtain ⟨f_board_from, hm_board_from⟩ := F.A_board_from.at
  obtain ⟨f_costs_from, hm_costs_from⟩ := F.A_costs_from.at
  obtain ⟨f_frame_from, hm_frame_from⟩ := F.A_frame_from.at
  obtain ⟨f_integer_from, hm_integer_from⟩ := F.A_integer_from.at
  obtain ⟨f_integers_from, hm_integers_from⟩ := F.A_integers_from.at
  obtain ⟨f_item_from, hm_item_from⟩ := F.A_item_from.at
  obtain ⟨f_items_from, hm_items_from⟩ := F.A_items_from.at
  obtain ⟨f_numbers_from, hm_numbers_from⟩ := F.A_numbers_from.at
  obtain ⟨f_show_costs, hm_show_costs⟩ := F.A_show_costs.at
  obtain ⟨f_show_frame, hm_show_frame⟩ := F.A_show_frame.at
  obtain ⟨f_show_numbers, hm_show_numbers⟩ := F.A_show_numbers.at
  obtain ⟨f_show_table, hm_show_table⟩ := F.A_show_table.at
  obtain ⟨f_table_from, hm_table_from⟩ := F.A_table_from.at
  have G_is_integer := ok_is_integer (P := P) (w := w) (base := base) F.B F.A_is_integer 
  have G_is_between := ok_is_between (P := P) (w := w) (base := base) F.B F.A_is_between G_is_integer
  have G_is_tuple := ok_is_tuple (P := P) (w := w) (base := base) F.B F.A_is_tuple 
  have G_are_integers := ok_are_integers (P := P) (w := w) (base := base) F.B F.A_are_integers G_is_between
  have G_joined := ok_joined (P := P) (w := w) (base := base) F.B F.A_joined F.CN
  have G_show_item := ok_show_item (P := P) (w := w) (base := base) F.B F.A_show_item F.CN
  have G_show_numbers := ok_show_numbers (P := P) (w := w) (base := base) F.B F.A_show_numbers G_joined
  have G_show_placing := ok_show_placing (P := P) (w := w) (base := base) F.B F.A_show_placing G_joined G_show_item
  have G_show_rows := ok_show_rows (P := P) (w := w) (base := base) F.B F.A_show_rows G_show_placing
  have G_show_table := ok_show_table (P := P) (w := w) (base := base) F.B F.A_show_table G_show_rows
  have G_show_frame := ok_show_frame (P := P) (w := w) (base := base) F.B F.A_show_frame G_show_numbers G_show_rows
  have G_show_costs := ok_show_costs (P := P) (w := w) (base := base) F.B F.A_show_costs G_show_rows
  have G_is_a_board := ok_is_a_board (P := P) (w := w) (base := base) F.B F.A_is_a_board F.CN G_are_integers G_is_tuple
  have G_is_a_costs := ok_is_a_costs (P := P) (w := w) (base := base) F.B F.A_is_a_costs F.CN G_is_between G_is_tuple
  have G_are_sums := ok_are_sums (P := P) (w := w) (base := base) F.B F.A_are_sums F.CN G_are_integers G_is_tuple
  have G_are_limits := ok_are_limits (P := P) (w := w) (base := base) F.B F.A_are_limits G_is_between G_is_tuple
  have G_is_a_frame := ok_is_a_frame (P := P) (w := w) (base := base) F.B F.A_is_a_frame G_are_limits G_are_sums G_is_tuple
  have G_integer_from := ok_integer_from (P := P) (w := w) (base := base) F.B F.A_integer_from F.CN
  have G_all_or_none := ok_all_or_none (P := P) (w := w) (base := base) F.B F.A_all_or_none 
  have G_listed__integer_from := ok_listed__integer_from (P := P) (w := w) (base := base) F.B F.A_listed hm_integer_from G_all_or_none G_integer_from
  have G_item_from := ok_item_from (P := P) (w := w) (base := base) F.B F.A_item_from F.CN G_integer_from
  have G_listed__item_from := ok_listed__item_from (P := P) (w := w) (base := base) F.B F.A_listed hm_item_from G_all_or_none G_item_from
  have G_integers_from := ok_integers_from (P := P) (w := w) (base := base) F.B F.A_integers_from hm_integer_from G_listed__integer_from
  have G_listed__integers_from := ok_listed__integers_from (P := P) (w := w) (base := base) F.B F.A_listed hm_integers_from G_all_or_none G_integers_from
  have G_items_from := ok_items_from (P := P) (w := w) (base := base) F.B F.A_items_from hm_item_from G_listed__item_from
  have G_listed__items_from := ok_listed__items_from (P := P) (w := w) (base := base) F.B F.A_listed hm_items_from G_all_or_none G_items_from
  have G_shown__show_numbers := ok_shown__show_numbers (P := P) (w := w) (base := base) F.B F.A_shown hm_show_numbers G_show_numbers
  have G_shown__show_table := ok_shown__show_table (P := P) (w := w) (base := base) F.B F.A_shown hm_show_table G_show_table
  have G_shown__show_frame := ok_shown__show_frame (P := P) (w := w) (base := base) F.B F.A_shown hm_show_frame G_show_frame
  have G_shown__show_costs := ok_shown__show_costs (P := P) (w := w) (base := base) F.B F.A_shown hm_show_costs G_show_costs
  have G_numbers_from := ok_numbers_from (P := P) (w := w) (base := base) F.B F.A_numbers_from F.CN hm_show_numbers G_integers_from G_is_tuple G_shown__show_numbers
  have G_is_a_plain_table := ok_is_a_plain_table (P := P) (w := w) (base := base) F.B F.A_is_a_plain_table F.CN G_are_integers G_is_tuple
  have G_table_from := ok_table_from (P := P) (w := w) (base := base) F.B F.A_table_from hm_integers_from hm_show_table G_is_a_plain_table G_listed__integers_from G_shown__show_table
  have G_board_from := ok_board_from (P := P) (w := w) (base := base) F.B F.A_board_from hm_integers_from hm_show_table G_is_a_board G_listed__integers_from G_shown__show_table
  have G_frame_from := ok_frame_from (P := P) (w := w) (base := base) F.B F.A_frame_from hm_items_from hm_show_frame G_all_or_none G_integers_from G_is_a_frame G_listed__items_from G_shown__show_frame
  have G_costs_from := ok_costs_from (P := P) (w := w) (base := base) F.B F.A_costs_from hm_items_from hm_show_costs G_is_a_costs G_listed__items_from G_shown__show_costs
  have G_read_by__numbers_from := ok_read_by__numbers_from (P := P) (w := w) (base := base) F.B F.A_read_by ER hm_numbers_from G_numbers_from
  have G_read_by__table_from := ok_read_by__table_from (P := P) (w := w) (base := base) F.B F.A_read_by ER hm_table_from G_table_from
  have G_read_by__board_from := ok_read_by__board_from (P := P) (w := w) (base := base) F.B F.A_read_by ER hm_board_from G_board_from
  have G_read_by__frame_from := ok_read_by__frame_from (P := P) (w := w) (base := base) F.B F.A_read_by ER hm_frame_from G_frame_from
  have G_read_by__costs_from := ok_read_by__costs_from (P := P) (w := w) (base := base) F.B F.A_read_by ER hm_costs_from G_costs_from
  have G_read_numbers := ok_read_numbers (P := P) (w := w) (base := base) F.B F.A_read_numbers hm_numbers_from G_read_by__numbers_from
  have G_read_table := ok_read_table (P := P) (w := w) (base := base) F.B F.A_read_table hm_table_from G_read_by__table_from
  have G_read_board := ok_read_board (P := P) (w := w) (base := base) F.B F.A_read_board hm_board_from G_read_by__board_from
  have G_read_frame := ok_read_frame (P := P) (w := w) (base := base) F.B F.A_read_frame hm_frame_from G_read_by__frame_from
  have G_read_costs := ok_read_costs (P := P) (w := w) (base := base) F.B F.A_read_costs hm_costs_from G_read_by__costs_from
  have G_L_bag := ok_L_bag (P := P) (w := w) (base := base) F.B F.A__law_bag 
  have G_L_take := ok_L_take (P := P) (w := w) (base := base) F.B F.A__law_take 
  have G_L_one_of := ok_L_one_of (P := P) (w := w) (base := base) F.B F.A__law_one_of G_L_take
  have G_L_same := ok_L_same (P := P) (w := w) (base := base) F.B F.A__law_same  8
  have G_L_int := ok_L_int (P := P) (w := w) (base := base) F.B F.A__law_int 
  have G_L_items := ok_L_items (P := P) (w := w) (base := base) F.B F.A__law_items G_L_int
  have G_L_lines := ok_L_lines (P := P) (w := w) (base := base) F.B F.A__law_lines G_L_items
  have G_L_unreadable := ok_L_unreadable (P := P) (w := w) (base := base) F.B F.A__law_unreadable G_L_one_of G_L_take
  have G_L_word := ok_L_word (P := P) (w := w) (base := base) F.B F.A__law_word 
  have G_L_row_text := ok_L_row_text (P := P) (w := w) (base := base) F.B F.A__law_row_text G_L_word
  have G_L_rows_text := ok_L_rows_text (P := P) (w := w) (base := base) F.B F.A__law_rows_text G_L_row_text
  have G_L_text := ok_L_text (P := P) (w := w) (base := base) F.B F.A__law_text G_L_row_text G_L_rows_text
  have G_L_is_even := ok_L_is_even (P := P) (w := w) (base := base) F.B F.A__law_is_even 
  have G_L_are_from_0 := ok_L_are_from_0 (P := P) (w := w) (base := base) F.B F.A__law_are_from_0 
  have G_L_found := ok_L_found (P := P) (w := w) (base := base) F.B F.A__law_found G_L_are_from_0 G_L_is_even G_L_items G_L_lines
  have G_L_read := ok_L_read (P := P) (w := w) (base := base) F.B F.A__law_read ER G_read_board G_read_costs G_read_frame G_read_numbers G_read_table
  have G_L_drawn := ok_L_drawn (P := P) (w := w) (base := base) F.B F.A__law_drawn G_L_one_of G_L_take
  have G_L_shown := ok_L_shown (P := P) (w := w) (base := base) F.B F.A__law_shown G_show_costs G_show_frame G_show_numbers G_show_table
  have G_L_right := ok_L_right (P := P) (w := w) (base := base) F.B F.A__law_right G_L_drawn G_L_found G_L_one_of G_L_read G_L_row_text G_L_same G_L_shown G_L_take G_L_text G_L_unreadable G_show_placing F.KW_show_placing_placing
  have G_law := ok_law (P := P) (w := w) (base := base) F.B F.A_law G_L_bag G_L_right
  exact G_law
end K82
open PySem PySem.W PyProof.Rows
set_option maxRecDepth 100000 in
set_option maxHeartbeats 0 in
theorem PySem.Challenge.cw_choirstands_k82_texts_of_tables_holds : PySem.Challenge.rw_choirstands_k82_texts_of_tables.Holds := by
  w_on; o_law; k_head; (case hw => w_witness2)
  k_fill
  refine L2.walk_of (l := PySem.Challenge.rw_choirstands_k82_texts_of_tables) (n := 63) (k := 11) (x := "script") (CX := fun _ => L2.CX0) (sp := fun w => FN.spLaw 63 _) rfl (by decide) rfl ⟨rfl, by decide, by decide⟩ (fun w h Y => PySem.W.kIn_of Y) ?F (fun _ _ a ns hl _ hS => ⟨a, ns, rfl, hS, hl, fun _ => rfl⟩) (fun _ _ _ _ _ h => h)
  case F =>
    intro w mg fa h KX G hmg
    refine' FN.use (FN.at_mk (x := "is_integer") (st := K82.s_is_integer) (ps := ["value"]) KX G ?a ?l ?c ?k (fun _ _ _ _ _ _ us hl => match us, hl with | [_], _ => rfl)) (fun A_is_integer => ?_)
    (case a => k_is); (case l => k_is); (case c => k_is); (case k => k_is)
    refine' FN.use (FN.at_mk (x := "is_between") (st := K82.s_is_between) (ps := ["value", "low", "high"]) KX G ?a ?l ?c ?k (fun _ _ _ _ _ _ us hl => match us, hl with | [_, _, _], _ => rfl)) (fun A_is_between => ?_)
    (case a => k_is); (case l => k_is); (case c => k_is); (case k => k_is)
    refine' FN.use (FN.at_mk (x := "is_tuple") (st := K82.s_is_tuple) (ps := ["value", "low", "high"]) KX G ?a ?l ?c ?k (fun _ _ _ _ _ _ us hl => match us, hl with | [_, _, _], _ => rfl)) (fun A_is_tuple => ?_)
    (case a => k_is); (case l => k_is); (case c => k_is); (case k => k_is)
    refine' FN.use (FN.at_mk (x := "are_integers") (st := K82.s_are_integers) (ps := ["value", "low", "high"]) KX G ?a ?l ?c ?k (fun _ _ _ _ _ _ us hl => match us, hl with | [_, _, _], _ => rfl)) (fun A_are_integers => ?_)
    (case a => k_is); (case l => k_is); (case c => k_is); (case k => k_is)
    refine' FN.use (FN.at_mk (x := "joined") (st := K82.s_joined) (ps := ["parts", "between"]) KX G ?a ?l ?c ?k (fun _ _ _ _ _ _ us hl => match us, hl with | [_, _], _ => rfl)) (fun A_joined => ?_)
    (case a => k_is); (case l => k_is); (case c => k_is); (case k => k_is)
    refine' FN.use (FN.at_mk (x := "show_item") (st := K82.s_show_item) (ps := ["item"]) KX G ?a ?l ?c ?k (fun _ _ _ _ _ _ us hl => match us, hl with | [_], _ => rfl)) (fun A_show_item => ?_)
    (case a => k_is); (case l => k_is); (case c => k_is); (case k => k_is)
    refine' FN.use (FN.at_mk (x := "show_numbers") (st := K82.s_show_numbers) (ps := ["numbers"]) KX G ?a ?l ?c ?k (fun _ _ _ _ _ _ us hl => match us, hl with | [_], _ => rfl)) (fun A_show_numbers => ?_)
    (case a => k_is); (case l => k_is); (case c => k_is); (case k => k_is)
    refine' FN.use (FN.at_mk (x := "show_placing") (st := K82.s_show_placing) (ps := ["placing"]) KX G ?a ?l ?c ?k (fun _ _ _ _ _ _ us hl => match us, hl with | [_], _ => rfl)) (fun A_show_placing => ?_)
    (case a => k_is); (case l => k_is); (case c => k_is); (case k => k_is)
    refine' FN.use (FN.at_mk (x := "show_rows") (st := K82.s_show_rows) (ps := ["rows"]) KX G ?a ?l ?c ?k (fun _ _ _ _ _ _ us hl => match us, hl with | [_], _ => rfl)) (fun A_show_rows => ?_)
    (case a => k_is); (case l => k_is); (case c => k_is); (case k => k_is)
    refine' FN.use (FN.at_mk (x := "show_table") (st := K82.s_show_table) (ps := ["table"]) KX G ?a ?l ?c ?k (fun _ _ _ _ _ _ us hl => match us, hl with | [_], _ => rfl)) (fun A_show_table => ?_)
    (case a => k_is); (case l => k_is); (case c => k_is); (case k => k_is)
    refine' FN.use (FN.at_mk (x := "show_frame") (st := K82.s_show_frame) (ps := ["frame"]) KX G ?a ?l ?c ?k (fun _ _ _ _ _ _ us hl => match us, hl with | [_], _ => rfl)) (fun A_show_frame => ?_)
    (case a => k_is); (case l => k_is); (case c => k_is); (case k => k_is)
    refine' FN.use (FN.at_mk (x := "show_costs") (st := K82.s_show_costs) (ps := ["costs"]) KX G ?a ?l ?c ?k (fun _ _ _ _ _ _ us hl => match us, hl with | [_], _ => rfl)) (fun A_show_costs => ?_)
    (case a => k_is); (case l => k_is); (case c => k_is); (case k => k_is)
    refine' FN.use (FN.at_mk (x := "is_a_board") (st := K82.s_is_a_board) (ps := ["value"]) KX G ?a ?l ?c ?k (fun _ _ _ _ _ _ us hl => match us, hl with | [_], _ => rfl)) (fun A_is_a_board => ?_)
    (case a => k_is); (case l => k_is); (case c => k_is); (case k => k_is)
    refine' FN.use (FN.at_mk (x := "is_a_costs") (st := K82.s_is_a_costs) (ps := ["value"]) KX G ?a ?l ?c ?k (fun _ _ _ _ _ _ us hl => match us, hl with | [_], _ => rfl)) (fun A_is_a_costs => ?_)
    (case a => k_is); (case l => k_is); (case c => k_is); (case k => k_is)
    refine' FN.use (FN.at_mk (x := "are_sums") (st := K82.s_are_sums) (ps := ["value"]) KX G ?a ?l ?c ?k (fun _ _ _ _ _ _ us hl => match us, hl with | [_], _ => rfl)) (fun A_are_sums => ?_)
    (case a => k_is); (case l => k_is); (case c => k_is); (case k => k_is)
    refine' FN.use (FN.at_mk (x := "are_limits") (st := K82.s_are_limits) (ps := ["value", "many"]) KX G ?a ?l ?c ?k (fun _ _ _ _ _ _ us hl => match us, hl with | [_, _], _ => rfl)) (fun A_are_limits => ?_)
    (case a => k_is); (case l => k_is); (case c => k_is); (case k => k_is)
    refine' FN.use (FN.at_mk (x := "is_a_frame") (st := K82.s_is_a_frame) (ps := ["value"]) KX G ?a ?l ?c ?k (fun _ _ _ _ _ _ us hl => match us, hl with | [_], _ => rfl)) (fun A_is_a_frame => ?_)
    (case a => k_is); (case l => k_is); (case c => k_is); (case k => k_is)
    refine' FN.use (FN.at_mk (x := "integer_from") (st := K82.s_integer_from) (ps := ["word"]) KX G ?a ?l ?c ?k (fun _ _ _ _ _ _ us hl => match us, hl with | [_], _ => rfl)) (fun A_integer_from => ?_)
    (case a => k_is); (case l => k_is); (case c => k_is); (case k => k_is)
    refine' FN.use (FN.at_mk (x := "all_or_none") (st := K82.s_all_or_none) (ps := ["found"]) KX G ?a ?l ?c ?k (fun _ _ _ _ _ _ us hl => match us, hl with | [_], _ => rfl)) (fun A_all_or_none => ?_)
    (case a => k_is); (case l => k_is); (case c => k_is); (case k => k_is)
    refine' FN.use (FN.at_mk (x := "listed") (st := K82.s_listed__integer_from) (ps := ["text", "between", "kind"]) KX G ?a ?l ?c ?k (fun _ _ _ _ _ _ us hl => match us, hl with | [_, _, _], _ => rfl)) (fun A_listed => ?_)
    (case a => k_is); (case l => k_is); (case c => k_is); (case k => k_is)
    refine' FN.use (FN.at_mk (x := "item_from") (st := K82.s_item_from) (ps := ["word"]) KX G ?a ?l ?c ?k (fun _ _ _ _ _ _ us hl => match us, hl with | [_], _ => rfl)) (fun A_item_from => ?_)
    (case a => k_is); (case l => k_is); (case c => k_is); (case k => k_is)
    refine' FN.use (FN.at_mk (x := "integers_from") (st := K82.s_integers_from) (ps := ["text"]) KX G ?a ?l ?c ?k (fun _ _ _ _ _ _ us hl => match us, hl with | [_], _ => rfl)) (fun A_integers_from => ?_)
    (case a => k_is); (case l => k_is); (case c => k_is); (case k => k_is)
    refine' FN.use (FN.at_mk (x := "items_from") (st := K82.s_items_from) (ps := ["text"]) KX G ?a ?l ?c ?k (fun _ _ _ _ _ _ us hl => match us, hl with | [_], _ => rfl)) (fun A_items_from => ?_)
    (case a => k_is); (case l => k_is); (case c => k_is); (case k => k_is)
    refine' FN.use (FN.at_mk (x := "shown") (st := K82.s_shown__show_numbers) (ps := ["found", "text", "show"]) KX G ?a ?l ?c ?k (fun _ _ _ _ _ _ us hl => match us, hl with | [_, _, _], _ => rfl)) (fun A_shown => ?_)
    (case a => k_is); (case l => k_is); (case c => k_is); (case k => k_is)
    refine' FN.use (FN.at_mk (x := "numbers_from") (st := K82.s_numbers_from) (ps := ["text"]) KX G ?a ?l ?c ?k (fun _ _ _ _ _ _ us hl => match us, hl with | [_], _ => rfl)) (fun A_numbers_from => ?_)
    (case a => k_is); (case l => k_is); (case c => k_is); (case k => k_is)
    refine' FN.use (FN.at_mk (x := "is_a_plain_table") (st := K82.s_is_a_plain_table) (ps := ["value"]) KX G ?a ?l ?c ?k (fun _ _ _ _ _ _ us hl => match us, hl with | [_], _ => rfl)) (fun A_is_a_plain_table => ?_)
    (case a => k_is); (case l => k_is); (case c => k_is); (case k => k_is)
    refine' FN.use (FN.at_mk (x := "table_from") (st := K82.s_table_from) (ps := ["text"]) KX G ?a ?l ?c ?k (fun _ _ _ _ _ _ us hl => match us, hl with | [_], _ => rfl)) (fun A_table_from => ?_)
    (case a => k_is); (case l => k_is); (case c => k_is); (case k => k_is)
    refine' FN.use (FN.at_mk (x := "board_from") (st := K82.s_board_from) (ps := ["text"]) KX G ?a ?l ?c ?k (fun _ _ _ _ _ _ us hl => match us, hl with | [_], _ => rfl)) (fun A_board_from => ?_)
    (case a => k_is); (case l => k_is); (case c => k_is); (case k => k_is)
    refine' FN.use (FN.at_mk (x := "frame_from") (st := K82.s_frame_from) (ps := ["text"]) KX G ?a ?l ?c ?k (fun _ _ _ _ _ _ us hl => match us, hl with | [_], _ => rfl)) (fun A_frame_from => ?_)
    (case a => k_is); (case l => k_is); (case c => k_is); (case k => k_is)
    refine' FN.use (FN.at_mk (x := "costs_from") (st := K82.s_costs_from) (ps := ["text"]) KX G ?a ?l ?c ?k (fun _ _ _ _ _ _ us hl => match us, hl with | [_], _ => rfl)) (fun A_costs_from => ?_)
    (case a => k_is); (case l => k_is); (case c => k_is); (case k => k_is)
    refine' FN.use (FN.at_mk (x := "read_by") (st := K82.s_read_by__numbers_from) (ps := ["kind", "text"]) KX G ?a ?l ?c ?k (fun _ _ _ _ _ _ us hl => match us, hl with | [_, _], _ => rfl)) (fun A_read_by => ?_)
    (case a => k_is); (case l => k_is); (case c => k_is); (case k => k_is)
    refine' FN.use (FN.at_mk (x := "read_numbers") (st := K82.s_read_numbers) (ps := ["text"]) KX G ?a ?l ?c ?k (fun _ _ _ _ _ _ us hl => match us, hl with | [_], _ => rfl)) (fun A_read_numbers => ?_)
    (case a => k_is); (case l => k_is); (case c => k_is); (case k => k_is)
    refine' FN.use (FN.at_mk (x := "read_table") (st := K82.s_read_table) (ps := ["text"]) KX G ?a ?l ?c ?k (fun _ _ _ _ _ _ us hl => match us, hl with | [_], _ => rfl)) (fun A_read_table => ?_)
    (case a => k_is); (case l => k_is); (case c => k_is); (case k => k_is)
    refine' FN.use (FN.at_mk (x := "read_board") (st := K82.s_read_board) (ps := ["text"]) KX G ?a ?l ?c ?k (fun _ _ _ _ _ _ us hl => match us, hl with | [_], _ => rfl)) (fun A_read_board => ?_)
    (case a => k_is); (case l => k_is); (case c => k_is); (case k => k_is)
    refine' FN.use (FN.at_mk (x := "read_frame") (st := K82.s_read_frame) (ps := ["text"]) KX G ?a ?l ?c ?k (fun _ _ _ _ _ _ us hl => match us, hl with | [_], _ => rfl)) (fun A_read_frame => ?_)
    (case a => k_is); (case l => k_is); (case c => k_is); (case k => k_is)
    refine' FN.use (FN.at_mk (x := "read_costs") (st := K82.s_read_costs) (ps := ["text"]) KX G ?a ?l ?c ?k (fun _ _ _ _ _ _ us hl => match us, hl with | [_], _ => rfl)) (fun A_read_costs => ?_)
    (case a => k_is); (case l => k_is); (case c => k_is); (case k => k_is)
    refine' FN.use (FN.at_mk (x := "_law_bag") (st := K82.s_L_bag) (ps := ["script", "k"]) KX G ?a ?l ?c ?k (fun _ _ _ _ _ _ us hl => match us, hl with | [_, _], _ => rfl)) (fun A__law_bag => ?_)
    (case a => k_is); (case l => k_is); (case c => k_is); (case k => k_is)
    refine' FN.use (FN.at_mk (x := "_law_take") (st := K82.s_L_take) (ps := ["bag", "many"]) KX G ?a ?l ?c ?k (fun _ _ _ _ _ _ us hl => match us, hl with | [_, _], _ => rfl)) (fun A__law_take => ?_)
    (case a => k_is); (case l => k_is); (case c => k_is); (case k => k_is)
    refine' FN.use (FN.at_mk (x := "_law_one_of") (st := K82.s_L_one_of) (ps := ["bag", "items"]) KX G ?a ?l ?c ?k (fun _ _ _ _ _ _ us hl => match us, hl with | [_, _], _ => rfl)) (fun A__law_one_of => ?_)
    (case a => k_is); (case l => k_is); (case c => k_is); (case k => k_is)
    refine' FN.use (FN.at_mk (x := "_law_same") (st := K82.s_L_same) (ps := ["got", "due"]) KX G ?a ?l ?c ?k (fun _ _ _ _ _ _ us hl => match us, hl with | [_, _], _ => rfl)) (fun A__law_same => ?_)
    (case a => k_is); (case l => k_is); (case c => k_is); (case k => k_is)
    refine' FN.use (FN.at_mk (x := "_law_int") (st := K82.s_L_int) (ps := ["word"]) KX G ?a ?l ?c ?k (fun _ _ _ _ _ _ us hl => match us, hl with | [_], _ => rfl)) (fun A__law_int => ?_)
    (case a => k_is); (case l => k_is); (case c => k_is); (case k => k_is)
    refine' FN.use (FN.at_mk (x := "_law_items") (st := K82.s_L_items) (ps := ["text", "between", "is_none_let"]) KX G ?a ?l ?c ?k (fun _ _ _ _ _ _ us hl => match us, hl with | [_, _, _], _ => rfl)) (fun A__law_items => ?_)
    (case a => k_is); (case l => k_is); (case c => k_is); (case k => k_is)
    refine' FN.use (FN.at_mk (x := "_law_lines") (st := K82.s_L_lines) (ps := ["text", "is_none_let"]) KX G ?a ?l ?c ?k (fun _ _ _ _ _ _ us hl => match us, hl with | [_, _], _ => rfl)) (fun A__law_lines => ?_)
    (case a => k_is); (case l => k_is); (case c => k_is); (case k => k_is)
    refine' FN.use (FN.at_mk (x := "_law_unreadable") (st := K82.s_L_unreadable) (ps := ["bag", "text"]) KX G ?a ?l ?c ?k (fun _ _ _ _ _ _ us hl => match us, hl with | [_, _], _ => rfl)) (fun A__law_unreadable => ?_)
    (case a => k_is); (case l => k_is); (case c => k_is); (case k => k_is)
    refine' FN.use (FN.at_mk (x := "_law_word") (st := K82.s_L_word) (ps := ["item"]) KX G ?a ?l ?c ?k (fun _ _ _ _ _ _ us hl => match us, hl with | [_], _ => rfl)) (fun A__law_word => ?_)
    (case a => k_is); (case l => k_is); (case c => k_is); (case k => k_is)
    refine' FN.use (FN.at_mk (x := "_law_row_text") (st := K82.s_L_row_text) (ps := ["row"]) KX G ?a ?l ?c ?k (fun _ _ _ _ _ _ us hl => match us, hl with | [_], _ => rfl)) (fun A__law_row_text => ?_)
    (case a => k_is); (case l => k_is); (case c => k_is); (case k => k_is)
    refine' FN.use (FN.at_mk (x := "_law_rows_text") (st := K82.s_L_rows_text) (ps := ["rows"]) KX G ?a ?l ?c ?k (fun _ _ _ _ _ _ us hl => match us, hl with | [_], _ => rfl)) (fun A__law_rows_text => ?_)
    (case a => k_is); (case l => k_is); (case c => k_is); (case k => k_is)
    refine' FN.use (FN.at_mk (x := "_law_text") (st := K82.s_L_text) (ps := ["kind", "value"]) KX G ?a ?l ?c ?k (fun _ _ _ _ _ _ us hl => match us, hl with | [_, _], _ => rfl)) (fun A__law_text => ?_)
    (case a => k_is); (case l => k_is); (case c => k_is); (case k => k_is)
    refine' FN.use (FN.at_mk (x := "_law_is_even") (st := K82.s_L_is_even) (ps := ["rows", "most", "wide"]) KX G ?a ?l ?c ?k (fun _ _ _ _ _ _ us hl => match us, hl with | [_, _, _], _ => rfl)) (fun A__law_is_even => ?_)
    (case a => k_is); (case l => k_is); (case c => k_is); (case k => k_is)
    refine' FN.use (FN.at_mk (x := "_law_are_from_0") (st := K82.s_L_are_from_0) (ps := ["rows"]) KX G ?a ?l ?c ?k (fun _ _ _ _ _ _ us hl => match us, hl with | [_], _ => rfl)) (fun A__law_are_from_0 => ?_)
    (case a => k_is); (case l => k_is); (case c => k_is); (case k => k_is)
    refine' FN.use (FN.at_mk (x := "_law_found") (st := K82.s_L_found) (ps := ["kind", "text"]) KX G ?a ?l ?c ?k (fun _ _ _ _ _ _ us hl => match us, hl with | [_, _], _ => rfl)) (fun A__law_found => ?_)
    (case a => k_is); (case l => k_is); (case c => k_is); (case k => k_is)
    refine' FN.use (FN.at_mk (x := "_law_read") (st := K82.s_L_read) (ps := ["kind", "text"]) KX G ?a ?l ?c ?k (fun _ _ _ _ _ _ us hl => match us, hl with | [_, _], _ => rfl)) (fun A__law_read => ?_)
    (case a => k_is); (case l => k_is); (case c => k_is); (case k => k_is)
    refine' FN.use (FN.at_mk (x := "_law_drawn") (st := K82.s_L_drawn) (ps := ["bag", "kind"]) KX G ?a ?l ?c ?k (fun _ _ _ _ _ _ us hl => match us, hl with | [_, _], _ => rfl)) (fun A__law_drawn => ?_)
    (case a => k_is); (case l => k_is); (case c => k_is); (case k => k_is)
    refine' FN.use (FN.at_mk (x := "_law_shown") (st := K82.s_L_shown) (ps := ["kind", "value"]) KX G ?a ?l ?c ?k (fun _ _ _ _ _ _ us hl => match us, hl with | [_, _], _ => rfl)) (fun A__law_shown => ?_)
    (case a => k_is); (case l => k_is); (case c => k_is); (case k => k_is)
    refine' FN.use (FN.at_mk (x := "_law_right") (st := K82.s_L_right) (ps := ["bag"]) KX G ?a ?l ?c ?k (fun _ _ _ _ _ _ us hl => match us, hl with | [_], _ => rfl)) (fun A__law_right => ?_)
    (case a => k_is); (case l => k_is); (case c => k_is); (case k => k_is)
    refine' FN.use (FN.at_mk (x := "law") (st := K82.s_law) (ps := ["script"]) KX G ?a ?l ?c ?k (fun _ _ _ _ _ _ us hl => match us, hl with | [_], _ => rfl)) (fun A_law => ?_)
    (case a => k_is); (case l => k_is); (case c => k_is); (case k => k_is)
    have Z_all : mg "all" = none := PySem.W.mg_none_of KX G (by k_is)
    have Z_bool : mg "bool" = none := PySem.W.mg_none_of KX G (by k_is)
    have Z_int : mg "int" = none := PySem.W.mg_none_of KX G (by k_is)
    have Z_isinstance : mg "isinstance" = none := PySem.W.mg_none_of KX G (by k_is)
    have Z_len : mg "len" = none := PySem.W.mg_none_of KX G (by k_is)
    have Z_list : mg "list" = none := PySem.W.mg_none_of KX G (by k_is)
    have Z_max : mg "max" = none := PySem.W.mg_none_of KX G (by k_is)
    have Z_min : mg "min" = none := PySem.W.mg_none_of KX G (by k_is)
    have Z_range : mg "range" = none := PySem.W.mg_none_of KX G (by k_is)
    have Z_str : mg "str" = none := PySem.W.mg_none_of KX G (by k_is)
    have Z_tuple : mg "tuple" = none := PySem.W.mg_none_of KX G (by k_is)
    have Z_zip : mg "zip" = none := PySem.W.mg_none_of KX G (by k_is)
    have B : K82.Bt mg := ⟨Z_all, Z_bool, Z_int, Z_isinstance, Z_len, Z_list, Z_max, Z_min, Z_range, Z_str, Z_tuple, Z_zip⟩
    have U_FIGURES : ∃ u, mg "FIGURES" = some u ∧ L2.RelV (.str "0123456789") u := by
      refine' FN.cst_mk KX G ?a ?r
      (case a => k_is); (case r => exact ⟨_, rfl⟩)
    have U_MOST_COLUMNS : ∃ u, mg "MOST_COLUMNS" = some u ∧ L2.RelV (.int 8) u := by
      refine' FN.cst_mk KX G ?a ?r
      (case a => k_is); (case r => exact ⟨_, rfl⟩)
    have U_MOST_DIGITS : ∃ u, mg "MOST_DIGITS" = some u ∧ L2.RelV (.int 30) u := by
      refine' FN.cst_mk KX G ?a ?r
      (case a => k_is); (case r => exact ⟨_, rfl⟩)
    have U_MOST_LINES : ∃ u, mg "MOST_LINES" = some u ∧ L2.RelV (.int 5) u := by
      refine' FN.cst_mk KX G ?a ?r
      (case a => k_is); (case r => exact ⟨_, rfl⟩)
    have U_MOST_NUMBERS : ∃ u, mg "MOST_NUMBERS" = some u ∧ L2.RelV (.int 20) u := by
      refine' FN.cst_mk KX G ?a ?r
      (case a => k_is); (case r => exact ⟨_, rfl⟩)
    have U_MOST_PLACES_placings : ∃ u, mg "MOST_PLACES_placings" = some u ∧ L2.RelV (.int 8) u := by
      refine' FN.cst_mk KX G ?a ?r
      (case a => k_is); (case r => exact ⟨_, rfl⟩)
    have U_MOST_PLACES_prices : ∃ u, mg "MOST_PLACES_prices" = some u ∧ L2.RelV (.int 7) u := by
      refine' FN.cst_mk KX G ?a ?r
      (case a => k_is); (case r => exact ⟨_, rfl⟩)
    have U_MOST_ROWS : ∃ u, mg "MOST_ROWS" = some u ∧ L2.RelV (.int 7) u := by
      refine' FN.cst_mk KX G ?a ?r
      (case a => k_is); (case r => exact ⟨_, rfl⟩)
    have U_MOST_SINGERS_placings : ∃ u, mg "MOST_SINGERS_placings" = some u ∧ L2.RelV (.int 7) u := by
      refine' FN.cst_mk KX G ?a ?r
      (case a => k_is); (case r => exact ⟨_, rfl⟩)
    have U_MOST_SINGERS_prices : ∃ u, mg "MOST_SINGERS_prices" = some u ∧ L2.RelV (.int 6) u := by
      refine' FN.cst_mk KX G ?a ?r
      (case a => k_is); (case r => exact ⟨_, rfl⟩)
    have U_NONE_finding : ∃ u, mg "NONE_finding" = some u ∧ L2.RelV (.str "-") u := by
      refine' FN.cst_mk KX G ?a ?r
      (case a => k_is); (case r => exact ⟨_, rfl⟩)
    have U_NONE_halltexts : ∃ u, mg "NONE_halltexts" = some u ∧ L2.RelV (.str "-") u := by
      refine' FN.cst_mk KX G ?a ?r
      (case a => k_is); (case r => exact ⟨_, rfl⟩)
    have CN : K82.Cs mg := ⟨U_FIGURES, U_MOST_COLUMNS, U_MOST_DIGITS, U_MOST_LINES, U_MOST_NUMBERS, U_MOST_PLACES_placings, U_MOST_PLACES_prices, U_MOST_ROWS, U_MOST_SINGERS_placings, U_MOST_SINGERS_prices, U_NONE_finding, U_NONE_halltexts⟩
    refine' FN.use (⟨_, _, _, _, ⟨FN.err_txt KX G ?e1 ?e2 ?e3 ?e4 ?e5 ?e6 ?e7 ?e8 ?e9 ?e10 ?e11, PySem.W.mg_of KX G ?m_StandError, PySem.W.mg_of KX G ?m_Unreadable, ⟨FN.oex_mk ?x_Unreadable ?r_Unreadable ?sa_Unreadable ?ex_Unreadable ?ty_Unreadable ?kp_Unreadable, ?iC_Unreadable, ?tI_Unreadable, ?no_Unreadable, ?su_Unreadable, ?sv_Unreadable, ?sp_Unreadable⟩, ⟨?ga_Unreadable, ?gg_Unreadable, ?ex2_Unreadable, ?hd_Unreadable⟩, ⟨?ga2_Unreadable, ?gg2_Unreadable, ?ex3_Unreadable, ?hd2_Unreadable, ?ha_Unreadable, ?hn_Unreadable, ?ht_Unreadable, ?hm_Unreadable⟩, ?ki_Unreadable, ?xm_Unreadable_Unreadable⟩⟩ : ∃ DE fI C_StandError C_Unreadable : Addr, K82.Er PySem.Challenge.rw_choirstands_k82_texts_of_tables.prog _ mg DE fI C_StandError C_Unreadable) (fun ER => ?_)
    (case m_StandError => k_is)
    (case m_Unreadable => k_is)
    (case x_Unreadable => first | k_is | rfl | decide)
    (case r_Unreadable => first | k_is | rfl | decide)
    (case sa_Unreadable => first | k_is | rfl | decide)
    (case ex_Unreadable => first | k_is | rfl | decide)
    (case ty_Unreadable => first | k_is | rfl | decide)
    (case kp_Unreadable => first | k_is | rfl | decide)
    (case iC_Unreadable => first | k_is | rfl | decide)
    (case tI_Unreadable => first | k_is | rfl | decide)
    (case no_Unreadable => first | k_is | rfl | decide)
    (case e1 => first | k_is | rfl | decide)
    (case e2 => first | k_is | rfl | decide)
    (case e3 => first | k_is | rfl | decide)
    (case e4 => first | k_is | rfl | decide)
    (case e5 => first | k_is | rfl | decide)
    (case e6 => first | k_is | rfl | decide)
    (case e7 => first | k_is | rfl | decide)
    (case e8 => first | k_is | rfl | decide)
    (case e9 => first | k_is | rfl | decide)
    (case e10 => first | k_is | rfl | decide)
    (case e11 => first | k_is | rfl | decide)
    (case su_Unreadable => first | k_is | rfl | decide)
    (case sv_Unreadable => first | k_is | rfl | decide)
    (case sp_Unreadable => first | k_is | rfl | decide)
    (case ga_Unreadable => first | k_is | rfl | decide)
    (case gg_Unreadable => first | k_is | rfl | decide)
    (case ex2_Unreadable => first | k_is | rfl | decide)
    (case hd_Unreadable => first | k_is | rfl | decide)
    (case ga2_Unreadable => first | k_is | rfl | decide)
    (case gg2_Unreadable => first | k_is | rfl | decide)
    (case ex3_Unreadable => first | k_is | rfl | decide)
    (case hd2_Unreadable => first | k_is | rfl | decide)
    (case ha_Unreadable => first | k_is | rfl | decide)
    (case hn_Unreadable => first | k_is | rfl | decide)
    (case ht_Unreadable => first | k_is | rfl | decide)
    (case hm_Unreadable => first | k_is | rfl | decide)
    (case ki_Unreadable => first | k_is | rfl | decide)
    (case xm_Unreadable_Unreadable => first | k_is | rfl | decide)
    exact FN.law_end K82.law_true A_law hmg (fun _ _ _ _ _ _ us hl => match us, hl with | [_], _ => rfl) (fun base => K82.law_kn ⟨B, CN, ER, A_is_integer, A_is_between, A_is_tuple, A_are_integers, A_joined, A_show_item, A_show_numbers, A_show_placing, A_show_rows, A_show_table, A_show_frame, A_show_costs, A_is_a_board, A_is_a_costs, A_are_sums, A_are_limits, A_is_a_frame, A_integer_from, A_all_or_none, A_listed, A_item_from, A_integers_from, A_items_from, A_shown, A_numbers_from, A_is_a_plain_table, A_table_from, A_board_from, A_frame_from, A_costs_from, A_read_by, A_read_numbers, A_read_table, A_read_board, A_read_frame, A_read_costs, A__law_bag, A__law_take, A__law_one_of, A__law_same, A__law_int, A__law_items, A__law_lines, A__law_unreadable, A__law_word, A__law_row_text, A__law_rows_text, A__law_text, A__law_is_even, A__law_are_from_0, A__law_found, A__law_read, A__law_drawn, A__law_shown, A__law_right, A_law, FN.kwAt_mk A_show_placing (fun _ _ _ _ _ _ ws hl => match ws, hl with | [_], _ => rfl)⟩ base)
