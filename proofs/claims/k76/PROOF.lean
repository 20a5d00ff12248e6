import PyProof.Rows.All
import HandS.ForMost
import HandS.ForExc
import HandS.ExcField
import HandS.ExcIs
import HandS.TupAny
import HandS.Zip
import HandS.IsInst
import HandS.More
import HandS.Style
import HandS.Conv
import HandS.SortInts
import HandS.Deep
import HandS.Wide
import HandS.Steps
import HandS.Text
import HandS.TupMul
import HandS.ExcInit
import KE.KExcSuper
import KE.KSuper
import HandS.CallLocal
import HandS.RaiseMore
import HandS.Ends
import KE.KIntText
import KE.IntTextText
import PyProof.StrLawsTight
import PyProof.StrLawsChain
import HandS.Dict
import KE.KDictDisplayH
import HandS.RevTup
import KE.SortData
import PyProof.SeqIndex
import PyProof.TupleOfSeq
import HandS.RepeatKit
import HandS.MapObj
import HandS.Records
import PySem.Challenge.RW_choirstands_k76_turned_stretches
set_option Elab.async false
set_option linter.all false
set_option maxRecDepth 100000
set_option maxHeartbeats 4000000
/-! FN1: data by value, worlds, slots. -/
namespace FN
open PySem PySem.Spec PyProof.Rows L2
abbrev D := PyData
abbrev FpS := Addr → Prop
/-! ### data in a frozen heap -/
mutual
/-- b: tuples that the text wrote (not tracked) are let -/
inductive RD (b : Bool) (K : PySem.W.Frag) (F : Hp) : V → D → Prop
  | non : RD b K F .non .none
  | bl (c : Bool) : RD b K F (.bl c) (.bool c)
  | int (i : Int) : RD b K F (.int i) (.int i)
  | str (x : Str) : RD b K F (.str x) (.str x)
  | lst {a : Addr} {xs : List V} {ds : List D} : F a = some (.lst xs) → RDs b K F xs ds → RD b K F (.ref a) (.list ds)
  | tup {a : Addr} {xs : List V} {ds : List D} : F a = some (.tup xs) → RDs b K F xs ds → RD b K F (.ref a) (.tuple ds)
  | con {a : Addr} {xs : List V} {ds : List D} : b = true → SqT K F a xs → RDs b K F xs ds → RD b K F (.ref a) (.tuple ds)
inductive RDs (b : Bool) (K : PySem.W.Frag) (F : Hp) : List V → List D → Prop
  | nil : RDs b K F [] []
  | cons {v : V} {vs : List V} {d : D} {ds : List D} : RD b K F v d → RDs b K F vs ds → RDs b K F (v :: vs) (d :: ds)
end
theorem sameT {K : PySem.W.Frag} {H H' : Hp} {a : Addr} {xs : List V} (e : Same H H') (h : SqT K H a xs) : SqT K H' a xs := by
  rcases h with (h | ⟨o, h⟩) | h
  · exact .inl (.inl (e _ _ h))
  · exact .inl (.inr ⟨o, e _ _ h⟩)
  · exact .inr h
mutual
theorem RD.mono {b : Bool} {K : PySem.W.Frag} {F F' : Hp} (e : Same F F') {v : V} {d : D} : RD b K F v d → RD b K F' v d
  | .non => .non
  | .bl c => .bl c
  | .int i => .int i
  | .str x => .str x
  | .lst h t => .lst (e _ _ h) (RDs.mono e t)
  | .tup h t => .tup (e _ _ h) (RDs.mono e t)
  | .con z h t => .con z (sameT e h) (RDs.mono e t)
theorem RDs.mono {b : Bool} {K : PySem.W.Frag} {F F' : Hp} (e : Same F F') {vs : List V} {ds : List D} : RDs b K F vs ds → RDs b K F' vs ds
  | .nil => .nil
  | .cons h t => .cons (RD.mono e h) (RDs.mono e t)
end
mutual
theorem RD.dp {b : Bool} {K : PySem.W.Frag} {F : Hp} {v : V} {d : D} : RD b K F v d → Dp K F v d
  | .non => .non
  | .bl c => .bl c
  | .int i => .int i
  | .str x => .str x
  | .lst h t => .lst (SqL.of h) (RDs.dp t)
  | .tup h t => .tup (SqT.of h) (RDs.dp t)
  | .con _ h t => .tup h (RDs.dp t)
theorem RDs.dp {b : Bool} {K : PySem.W.Frag} {F : Hp} {vs : List V} {ds : List D} : RDs b K F vs ds → DpAll K F vs ds
  | .nil => .nil
  | .cons h t => .cons (RD.dp h) (RDs.dp t)
end
theorem RDs.length {b : Bool} {K : PySem.W.Frag} {F : Hp} : ∀ {vs : List V} {ds : List D}, RDs b K F vs ds → vs.length = ds.length
  | _, _, .nil => rfl
  | _, _, .cons _ t => by rw [List.length_cons, List.length_cons, RDs.length t]
theorem DpAll.length {K : PySem.W.Frag} {F : Hp} : ∀ {vs : List V} {ds : List D}, DpAll K F vs ds → vs.length = ds.length
  | _, _, .nil => rfl
  | _, _, .cons _ t => by rw [List.length_cons, List.length_cons, DpAll.length t]
theorem RDs.get {b : Bool} {K : PySem.W.Frag} {F : Hp} : ∀ {vs : List V} {ds : List D} {i : Nat} {d : D}, RDs b K F vs ds → ds[i]? = some d → ∃ v, vs[i]? = some v ∧ RD b K F v d
  | _, _, _, _, .nil, e => by simp at e
  | _, _, 0, _, .cons h _, e => by
    rw [List.getElem?_cons_zero] at e
    cases e
    exact ⟨_, List.getElem?_cons_zero .., h⟩
  | _, _, i + 1, _, .cons _ t, e => by
    rw [List.getElem?_cons_succ] at e
    obtain ⟨v, e1, e2⟩ := RDs.get t e
    exact ⟨v, by rw [List.getElem?_cons_succ]; exact e1, e2⟩
theorem RDs.append {b : Bool} {K : PySem.W.Frag} {F : Hp} : ∀ {vs ws : List V} {ds es : List D}, RDs b K F vs ds → RDs b K F ws es → RDs b K F (vs ++ ws) (ds ++ es)
  | _, _, _, _, .nil, t => t
  | _, _, _, _, .cons h s, t => .cons h (RDs.append s t)
theorem RDs.take {b : Bool} {K : PySem.W.Frag} {F : Hp} : ∀ {vs : List V} {ds : List D} (n : Nat), RDs b K F vs ds → RDs b K F (vs.take n) (ds.take n)
  | _, _, 0, _ => .nil
  | _, _, _ + 1, .nil => .nil
  | _, _, n + 1, .cons h t => .cons h (RDs.take n t)
theorem RDs.drop {b : Bool} {K : PySem.W.Frag} {F : Hp} : ∀ {vs : List V} {ds : List D} (n : Nat), RDs b K F vs ds → RDs b K F (vs.drop n) (ds.drop n)
  | _, _, 0, h => h
  | _, _, _ + 1, .nil => .nil
  | _, _, n + 1, .cons _ t => RDs.drop n t
theorem RDs.set {b : Bool} {K : PySem.W.Frag} {F : Hp} {v : V} {d : D} (r : RD b K F v d) : ∀ {vs : List V} {ds : List D} (i : Nat), RDs b K F vs ds → RDs b K F (vs.set i v) (ds.set i d)
  | _, _, _, .nil => .nil
  | _, _, 0, .cons _ t => .cons r t
  | _, _, i + 1, .cons h t => .cons h (RDs.set r i t)
theorem RDs.eraseIdx {b : Bool} {K : PySem.W.Frag} {F : Hp} : ∀ {vs : List V} {ds : List D} (i : Nat), RDs b K F vs ds → RDs b K F (vs.eraseIdx i) (ds.eraseIdx i)
  | _, _, _, .nil => .nil
  | _, _, 0, .cons _ t => t
  | _, _, i + 1, .cons h t => .cons h (RDs.eraseIdx i t)
theorem RDs.dropLast {b : Bool} {K : PySem.W.Frag} {F : Hp} {vs : List V} {ds : List D} (h : RDs b K F vs ds) : RDs b K F vs.dropLast ds.dropLast := by
  rw [List.dropLast_eq_take, List.dropLast_eq_take, h.length]
  exact h.take _
theorem RDs.reverse {b : Bool} {K : PySem.W.Frag} {F : Hp} : ∀ {vs : List V} {ds : List D}, RDs b K F vs ds → RDs b K F vs.reverse ds.reverse
  | _, _, .nil => .nil
  | _, _, .cons h t => by
    rw [List.reverse_cons, List.reverse_cons]
    exact RDs.append (RDs.reverse t) (.cons h .nil)
mutual
theorem RD.any {b : Bool} {K : PySem.W.Frag} {F : Hp} {v : V} {d : D} : RD b K F v d → RD true K F v d
  | .non => .non
  | .bl c => .bl c
  | .int i => .int i
  | .str x => .str x
  | .lst h t => .lst h (RDs.any t)
  | .tup h t => .tup h (RDs.any t)
  | .con _ h t => .con rfl h (RDs.any t)
theorem RDs.any {b : Bool} {K : PySem.W.Frag} {F : Hp} {vs : List V} {ds : List D} : RDs b K F vs ds → RDs true K F vs ds
  | .nil => .nil
  | .cons h t => .cons (RD.any h) (RDs.any t)
end
theorem RDs.ints {b : Bool} {K : PySem.W.Frag} {F : Hp} : ∀ ns : List Int, RDs b K F (ns.map V.int) (ns.map PyData.int)
  | [] => .nil
  | n :: r => .cons (.int n) (RDs.ints r)
theorem RDs.of_get {b : Bool} {K : PySem.W.Frag} {F : Hp} : ∀ {vs : List V} {ds : List D}, vs.length = ds.length → (∀ (i : Nat) v d, vs[i]? = some v → ds[i]? = some d → RD b K F v d) → RDs b K F vs ds
  | [], [], _, _ => .nil
  | [], _ :: _, h, _ => by simp at h
  | _ :: _, [], h, _ => by simp at h
  | v :: vs, d :: ds, h, g => .cons (g 0 v d rfl rfl) (RDs.of_get (by simpa using h) fun i v' d' e1 e2 => g (i + 1) v' d' (by simpa using e1) (by simpa using e2))
/-! ### kinds, owned data -/
inductive Kind where
  /-- an immediate datum -/
  | v (b : Bool)
  /-- an owned list -/
  | lst (k : Kind)
  /-- the law's script: a list of ints that is read -/
  | scr
  /-- the very object u (a parameter that is changed) -/
  | fix (u : V) (k : Kind)
  /-- the very object u (a def, a class) -/
  | tok (u : V)
  /-- a caught error at a, its dict at dx; the datum is its value -/
  | exc (a dx : Addr) (cls : Value) (R : Addr → Prop)
  /-- an owned dict, its keys tuples of texts and ints -/
  | dT (b : Bool)
  /-- an owned dict, its keys texts and ints -/
  | dK (b : Bool)
abbrev Kind.imm : Kind := .v true
abbrev Kind.st : Kind := .v false
inductive ODl (R : V → D → FpS → Prop) : List V → List D → FpS → Prop
  | nil {fp : FpS} : ODl R [] [] fp
  | cons {v : V} {d : D} {vs : List V} {ds : List D} {f g fp : FpS} : R v d f → ODl R vs ds g → (∀ a, f a → ¬ g a) → (∀ a, f a → fp a) → (∀ a, g a → fp a) → ODl R (v :: vs) (d :: ds) fp
/-- kinds that are read as data -/
def dk : Kind → Bool
  | .v _ => true
  | .lst k => dk k
  | .scr => true
  | .fix _ k => dk k
  | _ => false
/-- a key's datum -/
def kD : Key → D
  | .inl i => .int i
  | .inr s => .str s
/-- a dict's pairs -/
inductive RKT (b : Bool) (K : PySem.W.Frag) (F : Hp) : List (List Key × V) → List (D × D) → Prop
  | nil : RKT b K F [] []
  | cons {k : List Key} {v : V} {d : D} {kvs : List (List Key × V)} {ps : List (D × D)} : RD b K F v d → RKT b K F kvs ps → RKT b K F ((k, v) :: kvs) ((.tuple (k.map kD), d) :: ps)
inductive RKK (b : Bool) (K : PySem.W.Frag) (F : Hp) : List (Key × V) → List (D × D) → Prop
  | nil : RKK b K F [] []
  | cons {k : Key} {v : V} {d : D} {kvs : List (Key × V)} {ps : List (D × D)} : RD b K F v d → RKK b K F kvs ps → RKK b K F ((k, v) :: kvs) ((kD k, d) :: ps)
theorem RKT.mono {b : Bool} {K : PySem.W.Frag} {F F' : Hp} (e : Same F F') {kvs : List (List Key × V)} {ps : List (D × D)} (h : RKT b K F kvs ps) : RKT b K F' kvs ps := by
  induction h with
  | nil => exact .nil
  | cons r _ ih => exact .cons (r.mono e) ih
theorem RKK.mono {b : Bool} {K : PySem.W.Frag} {F F' : Hp} (e : Same F F') {kvs : List (Key × V)} {ps : List (D × D)} (h : RKK b K F kvs ps) : RKK b K F' kvs ps := by
  induction h with
  | nil => exact .nil
  | cons r _ ih => exact .cons (r.mono e) ih
def OD (K : PySem.W.Frag) (F H : Hp) : Kind → V → D → FpS → Prop
  | .v b, v, d, _ => RD b K F v d
  | .lst k, v, d, fp => ∃ (a : Addr) (vs : List V) (ds : List D) (g : FpS), v = .ref a ∧ d = .list ds ∧ H a = some (.lst vs) ∧ fp a ∧ ¬ g a ∧ (∀ b, g b → fp b) ∧ ODl (fun v d f => dk k = true ∧ OD K F H k v d f) vs ds g
  | .scr, v, d, _ => ∃ (a : Addr) (ns : List Int), v = .ref a ∧ d = .list (ns.map .int) ∧ SqL K F a (ns.map V.int)
  | .fix _ k, v, d, fp => OD K F H k v d fp
  | .tok u, v, d, _ => v = u ∧ d = .dict []
  | .exc a dx cls R, v, d, _ => v = .ref a ∧ ∃ (y : V) (d' : D), d = .dict [(.none, d')] ∧ F dx = some (.xd [(("value" : Str), y)]) ∧ RD true K F y d' ∧ ∃ C, cls = .ref C ∧ XfC K C ∧ PySem.W.findIn K (.ref C) "value" = some none ∧ R C
  | .dT b, v, d, fp => ∃ (a : Addr) (kvs : List (List Key × V)) (ps : List (D × D)), v = .ref a ∧ d = .dict ps ∧ H a = some (.dT kvs) ∧ fp a ∧ RKT b K F kvs ps
  | .dK b, v, d, fp => ∃ (a : Addr) (kvs : List (Key × V)) (ps : List (D × D)), v = .ref a ∧ d = .dict ps ∧ H a = some (.dK kvs) ∧ fp a ∧ RKK b K F kvs ps
theorem ODl.imp {R R' : V → D → FpS → Prop} : ∀ {vs : List V} {ds : List D} {fp : FpS}, ODl R vs ds fp → (∀ v d f, R v d f → (∀ a, f a → fp a) → R' v d f) → ODl R' vs ds fp
  | _, _, _, .nil, _ => .nil
  | _, _, _, .cons r t d h1 h2, i => .cons (i _ _ _ r h1) (ODl.imp t fun v d f q z => i v d f q fun a y => h2 a (z a y)) d h1 h2
theorem ODl.mono {R : V → D → FpS → Prop} {vs : List V} {ds : List D} {fp fp' : FpS} (h : ODl R vs ds fp) (s : ∀ a, fp a → fp' a) : ODl R vs ds fp' := by
  cases h with
  | nil => exact .nil
  | cons r t d h1 h2 => exact .cons r t d (fun a z => s a (h1 a z)) fun a z => s a (h2 a z)
theorem OD.mono {K : PySem.W.Frag} {F H : Hp} : ∀ {k : Kind} {v : V} {d : D} {fp fp' : FpS}, OD K F H k v d fp → (∀ a, fp a → fp' a) → OD K F H k v d fp'
  | .v _, _, _, _, _, h, _ => h
  | .lst _, _, _, _, _, ⟨a, vs, ds, g, e1, e2, e3, h1, h2, h3, t⟩, s => ⟨a, vs, ds, g, e1, e2, e3, s a h1, h2, fun b z => s b (h3 b z), t⟩
  | .scr, _, _, _, _, h, _ => h
  | .fix _ k, _, _, _, _, h, s => OD.mono (k := k) h s
  | .tok _, _, _, _, _, h, _ => h
  | .exc _ _ _ _, _, _, _, _, h, _ => h
  | .dT _, _, _, _, _, ⟨a, kvs, ps, e1, e2, e3, h1, t⟩, s => ⟨a, kvs, ps, e1, e2, e3, s a h1, t⟩
  | .dK _, _, _, _, _, ⟨a, kvs, ps, e1, e2, e3, h1, t⟩, s => ⟨a, kvs, ps, e1, e2, e3, s a h1, t⟩
theorem OD.frame {K : PySem.W.Frag} {F F' H H' : Hp} (eF : Same F F') : ∀ {k : Kind} {v : V} {d : D} {fp : FpS}, OD K F H k v d fp → (∀ a o, fp a → H a = some o → H' a = some o) → OD K F' H' k v d fp
  | .v _, _, _, _, h, _ => RD.mono eF h
  | .lst k, _, _, _, ⟨a, vs, ds, g, e1, e2, e3, h1, h2, h3, t⟩, s => ⟨a, vs, ds, g, e1, e2, s a _ h1 e3, h1, h2, h3, t.imp fun v d f r z => ⟨r.1, OD.frame eF (k := k) r.2 fun b o y q => s b o (h3 b (z b y)) q⟩⟩
  | .scr, _, _, _, ⟨a, ns, e1, e2, h⟩, _ => ⟨a, ns, e1, e2, eF.seq h⟩
  | .fix _ k, _, _, _, h, s => OD.frame eF (k := k) h s
  | .tok _, _, _, _, h, _ => h
  | .exc _ _ _ _, _, _, _, ⟨e1, y, d', e2, e3, h, r⟩, _ => ⟨e1, y, d', e2, eF _ _ e3, RD.mono eF h, r⟩
  | .dT _, _, _, _, ⟨a, kvs, ps, e1, e2, e3, h1, t⟩, s => ⟨a, kvs, ps, e1, e2, s a _ h1 e3, h1, t.mono eF⟩
  | .dK _, _, _, _, ⟨a, kvs, ps, e1, e2, e3, h1, t⟩, s => ⟨a, kvs, ps, e1, e2, s a _ h1 e3, h1, t.mono eF⟩
theorem dpAll_of {K : PySem.W.Frag} {H : Hp} {R : V → D → FpS → Prop} : ∀ {vs : List V} {ds : List D} {fp : FpS}, ODl R vs ds fp → (∀ v d f, R v d f → Dp K H v d) → DpAll K H vs ds
  | _, _, _, .nil, _ => .nil
  | _, _, _, .cons r t _ _ _, i => .cons (i _ _ _ r) (dpAll_of t i)
theorem Dp_same {b : Bool} {K : PySem.W.Frag} {H H' : Hp} (e : Same H H') {v : V} {d : D} (h : RD b K H v d) : Dp K H' v d := (h.mono e).dp
theorem OD.dp {K : PySem.W.Frag} {F H : Hp} (eF : Same F H) : ∀ {k : Kind} {v : V} {d : D} {fp : FpS}, dk k = true → OD K F H k v d fp → Dp K H v d
  | .v _, _, _, _, _, h => Dp_same eF h
  | .lst k, _, _, _, _, ⟨a, vs, ds, g, e1, e2, e3, h1, h2, h3, t⟩ => by
    subst e1; subst e2
    exact .lst (SqL.of e3) (dpAll_of t fun v d f r => OD.dp eF (k := k) r.1 r.2)
  | .scr, _, _, _, _, ⟨a, ns, e1, e2, h⟩ => by
    subst e1; subst e2
    exact .lst (eF.seq h) (RDs.ints (b := true) (K := K) (F := H) ns).dp
  | .fix _ k, _, _, _, hd, h => OD.dp eF (k := k) hd h
/-- .. read off the datum -/
theorem OD.dpn {K : PySem.W.Frag} {F H : Hp} (eF : Same F H) : ∀ {k : Kind} {v : V} {d : D} {fp : FpS}, (∀ ps, d ≠ .dict ps) → OD K F H k v d fp → Dp K H v d
  | .v _, _, _, _, _, h => Dp_same eF h
  | .lst k, _, _, _, _, ⟨a, vs, ds, g, e1, e2, e3, h1, h2, h3, t⟩ => by
    subst e1; subst e2
    exact .lst (SqL.of e3) (dpAll_of t fun v d f r => OD.dp eF (k := k) r.1 r.2)
  | .scr, _, _, _, _, ⟨a, ns, e1, e2, h⟩ => by
    subst e1; subst e2
    exact .lst (eF.seq h) (RDs.ints (b := true) (K := K) (F := H) ns).dp
  | .fix _ k, _, _, _, hd, h => OD.dpn eF (k := k) hd h
  | .tok _, _, _, _, hd, ⟨_, e⟩ => absurd e (hd _)
  | .exc _ _ _ _, _, _, _, hd, ⟨_, _, _, e, _⟩ => absurd e (hd _)
  | .dT _, _, _, _, hd, ⟨_, _, _, _, e, _⟩ => absurd e (hd _)
  | .dK _, _, _, _, hd, ⟨_, _, _, _, e, _⟩ => absurd e (hd _)
/-! ### slots -/
abbrev Env := List (Option D)
inductive Slots (K : PySem.W.Frag) (F H : Hp) : List Kind → Env → L2.St → FpS → Prop
  | nil {fp : FpS} : Slots K F H [] [] [] fp
  | skip {k : Kind} {κ : List Kind} {ρ : Env} {o : Option V} {σ : L2.St} {fp : FpS} : Slots K F H κ ρ σ fp → Slots K F H (k :: κ) (none :: ρ) (o :: σ) fp
  | cons {k : Kind} {κ : List Kind} {d : D} {ρ : Env} {v : V} {σ : L2.St} {f g fp : FpS} : OD K F H k v d f → Slots K F H κ ρ σ g → (∀ a, f a → ¬ g a) → (∀ a, f a → fp a) → (∀ a, g a → fp a) → Slots K F H (k :: κ) (some d :: ρ) (some v :: σ) fp
section
variable {K : PySem.W.Frag} {F H F' H' : Hp}
theorem Slots.mono {κ : List Kind} {ρ : Env} {σ : L2.St} {fp fp' : FpS} (h : Slots K F H κ ρ σ fp) (s : ∀ a, fp a → fp' a) : Slots K F H κ ρ σ fp' := by
  induction h generalizing fp' with
  | nil => exact .nil
  | skip _ ih => exact .skip (ih s)
  | cons r t d h1 h2 ih => exact .cons r t d (fun a z => s a (h1 a z)) fun a z => s a (h2 a z)
theorem Slots.frame (eF : Same F F') {κ : List Kind} {ρ : Env} {σ : L2.St} {fp : FpS} (h : Slots K F H κ ρ σ fp) (s : ∀ a o, fp a → H a = some o → H' a = some o) : Slots K F' H' κ ρ σ fp := by
  induction h with
  | nil => exact .nil
  | skip _ ih => exact .skip (ih s)
  | cons r t d h1 h2 ih => exact .cons (r.frame eF fun a o z => s a o (h1 a z)) (ih fun a o z => s a o (h2 a z)) d h1 h2
theorem Slots.lengths {κ : List Kind} {ρ : Env} {σ : L2.St} {fp : FpS} (h : Slots K F H κ ρ σ fp) : κ.length = σ.length ∧ ρ.length = σ.length := by
  induction h with
  | nil => exact ⟨rfl, rfl⟩
  | skip _ ih => simp [ih.1, ih.2]
  | cons _ _ _ _ _ ih => simp [ih.1, ih.2]
theorem Slots.get {κ : List Kind} {ρ : Env} {σ : L2.St} {fp : FpS} (h : Slots K F H κ ρ σ fp) : ∀ {i : Nat} {d : D} {k : Kind}, ρ[i]? = some (some d) → κ[i]? = some k → ∃ v f, σ[i]? = some (some v) ∧ OD K F H k v d f ∧ (∀ a, f a → fp a) := by
  induction h with
  | nil => intro i d k e; simp at e
  | skip _ ih =>
    intro i d k e1 e2
    cases i with
    | zero => simp at e1
    | succ i => exact ih (by simpa using e1) (by simpa using e2)
  | @cons k κ d ρ v σ f g fp r t dj h1 h2 ih =>
    intro i d k e1 e2
    cases i with
    | zero =>
      simp only [List.getElem?_cons_zero, Option.some.injEq] at e1 e2
      subst e1; subst e2
      exact ⟨_, _, rfl, r, h1⟩
    | succ i =>
      obtain ⟨v, f, q1, q2, q3⟩ := ih (i := i) (by simpa using e1) (by simpa using e2)
      exact ⟨v, f, by simpa using q1, q2, fun a z => h2 a (q3 a z)⟩
/-- a slot forgotten -/
theorem Slots.drop {κ : List Kind} {ρ : Env} {σ : L2.St} {fp : FpS} (h : Slots K F H κ ρ σ fp) (i : Nat) : Slots K F H κ (ρ.set i none) σ fp := by
  induction h generalizing i with
  | nil => exact .nil
  | skip t ih =>
    cases i with
    | zero => exact .skip t
    | succ i => exact .skip (ih i)
  | cons r t dj h1 h2 ih =>
    cases i with
    | zero => exact .skip (t.mono h2)
    | succ i => exact .cons r (ih i) dj h1 h2
/-- a slot taken out -/
theorem Slots.out {κ : List Kind} {ρ : Env} {σ : L2.St} {fp : FpS} (h : Slots K F H κ ρ σ fp) : ∀ {i : Nat} {d : D} {k : Kind}, ρ[i]? = some (some d) → κ[i]? = some k →
    ∃ v f g, σ[i]? = some (some v) ∧ OD K F H k v d f ∧ Slots K F H κ (ρ.set i none) σ g ∧ (∀ a, f a → ¬ g a) ∧ (∀ a, f a → fp a) ∧ (∀ a, g a → fp a) := by
  induction h with
  | nil => intro i d k e; simp at e
  | skip _ ih =>
    intro i d k e1 e2
    cases i with
    | zero => simp at e1
    | succ i =>
      obtain ⟨v, f, g, q1, q2, q3, q4, q5, q6⟩ := ih (i := i) (by simpa using e1) (by simpa using e2)
      exact ⟨v, f, g, by simpa using q1, q2, .skip q3, q4, q5, q6⟩
  | @cons k κ d ρ v σ f g fp r t dj h1 h2 ih =>
    intro i d k e1 e2
    cases i with
    | zero =>
      simp only [List.getElem?_cons_zero, Option.some.injEq] at e1 e2
      subst e1; subst e2
      exact ⟨_, _, _, rfl, r, .skip t, dj, h1, h2⟩
    | succ i =>
      obtain ⟨v', f', g', q1, q2, q3, q4, q5, q6⟩ := ih (i := i) (by simpa using e1) (by simpa using e2)
      refine ⟨v', f', fun a => f a ∨ g' a, by simpa using q1, q2, .cons r q3 (fun a z y => dj a z (q6 a y)) (fun a z => .inl z) (fun a z => .inr z), fun a z y => ?_, fun a z => h2 a (q5 a z), fun a z => z.elim (h1 a) fun y => h2 a (q6 a y)⟩
      rcases y with y | y
      · exact dj a y (q5 a z)
      · exact q4 a z y
/-- a slot filled anew -/
theorem Slots.put {κ : List Kind} {ρ : Env} {σ : L2.St} {g : FpS} (h : Slots K F H κ ρ σ g) : ∀ {i : Nat} {d : D} {k : Kind} {v : V} {f : FpS}, i < σ.length → OD K F H k v d f → (∀ a, f a → ¬ g a) →
    Slots K F H (κ.set i k) (ρ.set i (some d)) (σ.set i (some v)) (fun a => f a ∨ g a) := by
  induction h with
  | nil => intro i d k v f hi; simp at hi
  | @skip k0 κ ρ o σ fp t ih =>
    intro i d k v f hi r dj
    cases i with
    | zero => exact .cons r t dj (fun a z => .inl z) fun a z => .inr z
    | succ i => exact .skip (ih (i := i) (by simpa using hi) r dj)
  | @cons k0 κ d0 ρ v0 σ f0 g0 fp r0 t dj0 h1 h2 ih =>
    intro i d k v f hi r dj
    cases i with
    | zero => exact .cons r t (fun a z y => dj a z (h2 a y)) (fun a z => .inl z) fun a z => .inr (h2 a z)
    | succ i =>
      refine .cons r0 (ih (i := i) (by simpa using hi) r fun a z y => dj a z (h2 a y)) (fun a z y => ?_) (fun a z => .inr (h1 a z)) fun a z => z.elim .inl fun y => .inr (h2 a y)
      rcases y with y | y
      · exact dj a y (h1 a z)
      · exact dj0 a z y
/-- a kind changed where the slot is empty -/
theorem Slots.rekind {κ : List Kind} {ρ : Env} {σ : L2.St} {fp : FpS} (h : Slots K F H κ ρ σ fp) : ∀ {i : Nat} (k : Kind), ρ[i]? = some none → Slots K F H (κ.set i k) ρ σ fp := by
  induction h with
  | nil => intro i k e; simp at e
  | skip t ih =>
    intro i k e
    cases i with
    | zero => exact .skip t
    | succ i => exact .skip (ih k (by simpa using e))
  | cons r t dj h1 h2 ih =>
    intro i k e
    cases i with
    | zero => simp at e
    | succ i => exact .cons r (ih k (by simpa using e)) dj h1 h2
end
/-! ### worlds -/
structure Wd where
  F : Hp
  H : Hp
  fp : FpS
structure Rel (K : PySem.W.Frag) (κ : List Kind) (ρ : Env) (σ : L2.St) (w : Wd) : Prop where
  same : Same w.F w.H
  frz : ∀ a, w.fp a → w.F a = none
  live : ∀ a, w.fp a → w.H a ≠ none
  fixed : ∀ (i : Nat) (u : V) (k : Kind), κ[i]? = some (Kind.fix u k) → σ[i]? = some (some u)
  slots : Slots K w.F w.H κ ρ σ w.fp
structure Ext (w w' : Wd) : Prop where
  same : Same w.F w'.F
  new : ∀ a o, w'.F a = some o → w.F a = some o ∨ w.fp a ∨ w.H a = none
  keep : ∀ a o, w.H a = some o → ¬ w.fp a → w'.H a = some o
  fp : ∀ a, w'.fp a → w.fp a ∨ w.H a = none
theorem Ext.refl (w : Wd) : Ext w w := ⟨Same.refl _, fun _ _ h => .inl h, fun _ _ h _ => h, fun _ h => .inl h⟩
theorem Ext.nofp {w w' : Wd} (e : Ext w w') {a : Addr} {o : HO} (h : w.H a = some o) (n : ¬ w.fp a) : ¬ w'.fp a := fun z => by
  rcases e.fp a z with y | y
  · exact n y
  · rw [h] at y; cases y
theorem Ext.trans {w w1 w2 : Wd} (a : Ext w w1) (b : Ext w1 w2) : Ext w w2 where
  same := a.same.trans b.same
  new := fun c o h => by
    have key : w1.fp c ∨ w1.H c = none → w.fp c ∨ w.H c = none := fun z => by
      rcases z with z | z
      · exact a.fp c z
      · cases q : w.H c with
        | none => exact .inr rfl
        | some o1 =>
          by_cases y : w.fp c
          · exact .inl y
          · rw [a.keep c o1 q y] at z; cases z
    rcases b.new c o h with z | z
    · rcases a.new c o z with y | y
      · exact .inl y
      · exact .inr y
    · exact .inr (key z)
  keep := fun c o h n => b.keep c o (a.keep c o h n) (a.nofp h n)
  fp := fun c h => by
    rcases b.fp c h with z | z
    · exact a.fp c z
    · cases q : w.H c with
      | none => exact .inr rfl
      | some o1 =>
        by_cases y : w.fp c
        · exact .inl y
        · rw [a.keep c o1 q y] at z; cases z
/-- a value of kind k that has come since w, in no slot -/
def Temp (K : PySem.W.Frag) (k : Kind) (w w' : Wd) (d : D) (v : V) : Prop :=
  ∃ g : FpS, OD K w'.F w'.H k v d g ∧ ∀ a, g a → ¬ w'.fp a ∧ w'.F a = none ∧ w'.H a ≠ none ∧ (w.fp a ∨ w.H a = none)
section
variable {K : PySem.W.Frag} {w w1 w2 : Wd} {k : Kind} {d : D} {v : V}
theorem temp_keep {g : FpS} (e : Ext w1 w2) (h : OD K w1.F w1.H k v d g) (c : ∀ a, g a → ¬ w1.fp a ∧ w1.F a = none ∧ w1.H a ≠ none) : OD K w2.F w2.H k v d g ∧ ∀ a, g a → ¬ w2.fp a ∧ w2.F a = none ∧ w2.H a ≠ none := by
  refine ⟨h.frame e.same fun a o z q => e.keep a o q (c a z).1, fun a z => ?_⟩
  obtain ⟨c1, c2, c3⟩ := c a z
  cases q : w1.H a with
  | none => exact absurd q c3
  | some o =>
    refine ⟨e.nofp q c1, ?_, by rw [e.keep a o q c1]; intro y; cases y⟩
    cases y : w2.F a with
    | none => rfl
    | some u =>
      rcases e.new a u y with y | y | y
      · rw [c2] at y; cases y
      · exact absurd y c1
      · rw [q] at y; cases y
theorem Temp.keep (t : Temp K k w w1 d v) (e : Ext w1 w2) : Temp K k w w2 d v := by
  obtain ⟨g, h, c⟩ := t
  obtain ⟨h', c'⟩ := temp_keep e h fun a z => ⟨(c a z).1, (c a z).2.1, (c a z).2.2.1⟩
  exact ⟨g, h', fun a z => ⟨(c' a z).1, (c' a z).2.1, (c' a z).2.2, (c a z).2.2.2⟩⟩
theorem Temp.since (t : Temp K k w1 w2 d v) (e : Ext w w1) : Temp K k w w2 d v := by
  obtain ⟨g, h, c⟩ := t
  refine ⟨g, h, fun a z => ?_⟩
  obtain ⟨c1, c2, c3, c4⟩ := c a z
  refine ⟨c1, c2, c3, ?_⟩
  rcases c4 with y | y
  · exact e.fp a y
  · cases q : w.H a with
    | none => exact .inr rfl
    | some o =>
      by_cases n : w.fp a
      · exact .inl n
      · rw [e.keep a o q n] at y; cases y
theorem Temp.imm {b : Bool} (h : RD b K w1.F v d) : Temp K (.v b) w w1 d v := ⟨fun _ => False, h, fun _ z => z.elim⟩
theorem Temp.rd {b : Bool} (t : Temp K (.v b) w w1 d v) : RD b K w1.F v d := t.elim fun _ h => h.1
theorem Temp.dp (hk : dk k = true) (t : Temp K k w w1 d v) (e : Same w1.F w1.H) : Dp K w1.H v d := t.elim fun _ h => OD.dp e hk h.1
end
end FN
set_option Elab.async false
set_option linter.all false
set_option maxRecDepth 100000
set_option maxHeartbeats 4000000
/-! FN2: outcomes, expressions, arguments, tests. -/
namespace FN
open PySem PySem.Spec PyProof.Rows L2
inductive Out (α : Type) where
  | ok (a : α) (ρ : Env)
  | err (c : Str) (d : D) (ρ : Env)
abbrev M (α : Type) := Env → Option (Out α)
structure Ct where
  K : PySem.W.Frag
  mg : Str → Option Value
  W : WX
def ErrAt (c : Ct) (n : Str) (d : D) (cls : Value) (dx : Addr) (w : Wd) : Prop :=
  ∃ (C : Addr) (v : V), c.mg n = some (.ref C) ∧ cls = .ref C ∧ w.F dx = some (.xd [(("value" : Str), v)]) ∧ RD true c.K w.F v d
def ErrOk (c : Ct) (κ : List Kind) (σ : L2.St) (w : Wd) (n : Str) (d : D) (ρ : Env) : Prop :=
  ∀ cls dx w', Rel c.K κ ρ σ w' → Ext w w' → ErrAt c n d cls dx w' → c.W cls (some dx) σ w'.H
inductive Md where
  /-- a value of kind k -/
  | t (k : Kind)
  /-- the object in slot i -/
  | r (i : Nat)
def TempM (K : PySem.W.Frag) (m : Md) (σ : L2.St) (w w' : Wd) (d : D) (v : V) : Prop := match m with
  | .t k => Temp K k w w' d v
  | .r i => σ[i]? = some (some v)
def PostV (c : Ct) (κ : List Kind) (σ : L2.St) (m : Md) (w : Wd) (Q : VK) : Option (Out D) → Prop
  | some (.ok d ρ) => ∀ v w', Rel c.K κ ρ σ w' → Ext w w' → TempM c.K m σ w w' d v → Q v w'.H
  | some (.err n d ρ) => ErrOk c κ σ w n d ρ
  | none => False
def tV (c : Ct) (κ : List Kind) (m : Md) (f : M D) : TE := fun σ H Q => ∃ ρ w, w.H = H ∧ Rel c.K κ ρ σ w ∧ PostV c κ σ m w Q (f ρ)
abbrev ctx (X : Cx) (W : WX) : Ct := ⟨X.K, X.mg, W⟩
def FV (X : Cx) (W : WX) (κ : List Kind) (m : Md) (e : Expr) (f : M D) : Prop := PE X e (tV (ctx X W) κ m f)
/-- a reading weakened -/
theorem _root_.L2.PE.imp {X : Cx} {e : Expr} {t t' : TE} (h : PE X e t) (i : ∀ σ H Q, t' σ H Q → t σ H Q) : PE X e t' := ⟨fun pins s σ H Q I q => h.run pins s σ H Q I (i σ H Q q)⟩
theorem _root_.L2.PT.imp {X : Cx} {e : Expr} {t t' : TT} (h : PT X e t) (i : ∀ σ H Q, t' σ H Q → t σ H Q) : PT X e t' := ⟨fun pins s σ H Q I q => h.run pins s σ H Q I (i σ H Q q)⟩
theorem _root_.L2.PA.imp {X : Cx} {e : List Expr} {t t' : TA} (h : PA X e t) (i : ∀ σ H Q, t' σ H Q → t σ H Q) : PA X e t' := ⟨fun pos pins s σ H Q I q => h.run pos pins s σ H Q I (i σ H Q q)⟩
theorem _root_.L2.PS.imp {X : Cx} {e : Stmt} {t t' : TS} (h : PS X e t) (i : ∀ D σ H, t' D σ H → t D σ H) : PS X e t' := ⟨fun pins s σ H Q I q => h.run pins s σ H Q I (i Q σ H q)⟩
theorem _root_.L2.PSs.imp {X : Cx} {e : List Stmt} {t t' : TS} (h : PSs X e t) (i : ∀ D σ H, t' D σ H → t D σ H) : PSs X e t' := ⟨fun pins s σ H Q I q => h.run pins s σ H Q I (i Q σ H q)⟩
/-- one after another; e: how an error is handed on -/
def bnd {α β : Type} (r : Option (Out α)) (e : Str → D → Env → β) (g : α → Env → Option β) : Option β := match r with
  | some (.ok a ρ) => g a ρ
  | some (.err c d ρ) => some (e c d ρ)
  | none => none
abbrev bdo {α β : Type} (r : Option (Out α)) (g : α → Env → Option (Out β)) : Option (Out β) := bnd r Out.err g
section
variable {c : Ct} {κ : List Kind} {σ : L2.St} {w w1 : Wd}
theorem seqV {β : Type} {m : Md} {fa : M D} {ρ : Env} {P : Option β → Prop} {e : Str → D → Env → β} {g : D → Env → Option β} {R : VK} (rel : Rel c.K κ ρ σ w1) (h : P (bnd (fa ρ) e g)) (hN : ¬ P none) (hE : ∀ n d ρ', P (some (e n d ρ')) → ErrOk c κ σ w1 n d ρ')
    (hR : ∀ d ρ2 v w2, Rel c.K κ ρ2 σ w2 → Ext w1 w2 → TempM c.K m σ w1 w2 d v → P (g d ρ2) → R v w2.H) : tV c κ m fa σ w1.H R := by
  refine ⟨ρ, w1, rfl, rel, ?_⟩
  cases q : fa ρ with
  | none =>
    rw [q] at h
    exact hN h
  | some o =>
    rw [q] at h
    cases o with
    | ok d ρ2 => exact fun v w2 r2 e2 t2 => hR d ρ2 v w2 r2 e2 t2 h
    | err n d ρ2 => exact hE n d ρ2 h
theorem ErrOk.since {n : Str} {d : D} {ρ : Env} (h : ErrOk c κ σ w n d ρ) (e : Ext w w1) : ErrOk c κ σ w1 n d ρ := fun cls dx w' r x a => h cls dx w' r (e.trans x) a
theorem PostV.N {m : Md} {Q : VK} : ¬ PostV c κ σ m w Q none := fun h => h
theorem TempM.since {m : Md} {w2 : Wd} {d : D} {v : V} (t : TempM c.K m σ w1 w2 d v) (e : Ext w w1) : TempM c.K m σ w w2 d v := by
  cases m with
  | t k => exact Temp.since t e
  | r i => exact t
theorem TempM.keep {m : Md} {w2 : Wd} {d : D} {v : V} (t : TempM c.K m σ w w1 d v) (e : Ext w1 w2) : TempM c.K m σ w w2 d v := by
  cases m with
  | t k => exact Temp.keep t e
  | r i => exact t
/-- the data of an operand, read behind all that was evaluated -/
def rd (m : Md) (d : D) (ρ : Env) : Option D := match m with
  | .t k => match dk k with
    | true => some d
    | false => none
  | .r i => match ρ[i]? with
    | some (some (.dict _)) => none
    | some (some d) => some d
    | _ => none
theorem rd_r {i : Nat} {d d' : D} {ρ : Env} (h : rd (.r i) d ρ = some d') : ρ[i]? = some (some d') ∧ ∀ ps, d' ≠ .dict ps := by
  unfold rd at h
  dsimp only at h
  split at h
  · cases h
  · rename_i d2 hn e
    cases h
    exact ⟨e, fun ps z => hn ps z⟩
  · cases h
theorem rd_t {k : Kind} {d d' : D} {ρ : Env} (h : rd (.t k) d ρ = some d') : d' = d ∧ dk k = true := by
  unfold rd at h
  dsimp only at h
  split at h
  · rename_i e
    cases h
    exact ⟨rfl, e⟩
  · cases h
theorem join_some {α : Type} {o : Option (Option α)} {a : α} (h : o.join = some a) : o = some (some a) := by
  cases o with
  | none => cases h
  | some o => exact congrArg some h
theorem kind_at {K : PySem.W.Frag} {κ : List Kind} {ρ : Env} {σ : L2.St} {w : Wd} {i : Nat} {d : D} (rel : Rel K κ ρ σ w) (h : ρ[i]? = some (some d)) : ∃ k, κ[i]? = some k := by
  have l := rel.slots.lengths
  have hi : i < ρ.length := (List.getElem?_eq_some_iff.mp h).1
  exact ⟨κ[i]'(by omega), List.getElem?_eq_getElem _⟩
theorem rd_dp {m : Md} {ρ : Env} {d d' : D} {v : V} (rel : Rel c.K κ ρ σ w1) (t : TempM c.K m σ w w1 d v) (h : rd m d ρ = some d') : Dp c.K w1.H v d' := by
  cases m with
  | t k =>
    obtain ⟨rfl, hk⟩ := rd_t h
    exact Temp.dp hk t rel.same
  | r i =>
    obtain ⟨h', hn⟩ := rd_r h
    obtain ⟨k, hk⟩ := kind_at rel h'
    obtain ⟨v', f, e, o, _⟩ := rel.slots.get h' hk
    rw [show σ[i]? = some (some v) from t] at e
    cases e
    exact OD.dpn rel.same hn o
/-- an immediate datum -/
theorem rd_imm {b : Bool} {ρ : Env} {d d' : D} {v : V} (t : TempM c.K (.t (.v b)) σ w w1 d v) (h : rd (.t (.v b)) d ρ = some d') : RD b c.K w1.F v d' := by
  cases h
  exact Temp.rd t
end
/-! ### what a value-level step ends with -/
section
variable {c : Ct} {κ : List Kind} {σ : L2.St} {w w1 : Wd} {ρ : Env} {d : D} {Q : VK}
theorem fin_imm {b : Bool} {v : V} (h : PostV c κ σ (.t (.v b)) w Q (some (.ok d ρ))) (rel : Rel c.K κ ρ σ w1) (e : Ext w w1) (r : RD b c.K w1.F v d) : Q v w1.H := h v w1 rel e (Temp.imm r)
/-- a new frozen object -/
theorem world_new {K : PySem.W.Frag} {p : Addr} {o : HO} (rel : Rel K κ ρ σ w) (np : w.H p = none) : ∃ w', w'.H = upd w.H p o ∧ w'.F = upd w.F p o ∧ Rel K κ ρ σ w' ∧ Ext w w' := by
  have nF : w.F p = none := rel.same.free np
  have sF : Same w.F (upd w.F p o) := fun b u h => by rw [upd_ne (ne_of_none h nF)]; exact h
  have sH : Same w.H (upd w.H p o) := fun b u h => by rw [upd_ne (ne_of_none h np)]; exact h
  have ne : ∀ a, w.fp a → a ≠ p := fun a h z => rel.live a h (by rw [z]; exact np)
  refine ⟨⟨upd w.F p o, upd w.H p o, w.fp⟩, rfl, rfl, ⟨fun b u h => ?_, fun a h => ?_, fun a h => ?_, rel.fixed, rel.slots.frame sF fun a u _ h => sH a u h⟩, ⟨sF, fun a u h => ?_, fun a u h _ => sH a u h, fun a h => .inl h⟩⟩
  · have h' : upd w.F p o b = some u := h
    show upd w.H p o b = some u
    by_cases hb : b = p
    · rw [hb, upd_same] at h'
      rw [hb, upd_same]
      exact h'
    · rw [upd_ne hb] at h'
      rw [upd_ne hb]
      exact rel.same b u h'
  · show upd w.F p o a = none
    rw [upd_ne (ne a h)]
    exact rel.frz a h
  · show upd w.H p o a ≠ none
    rw [upd_ne (ne a h)]
    exact rel.live a h
  · by_cases hb : a = p
    · exact .inr (.inr (by rw [hb]; exact np))
    · have h' : upd w.F p o a = some u := h
      rw [upd_ne hb] at h'
      exact .inl h'
/-- a new object beside -/
theorem world_own {K : PySem.W.Frag} {p : Addr} {o : HO} (rel : Rel K κ ρ σ w) (np : w.H p = none) : ∃ w', w'.H = upd w.H p o ∧ w'.F = w.F ∧ w'.fp = w.fp ∧ Rel K κ ρ σ w' ∧ Ext w w' := by
  have sH : Same w.H (upd w.H p o) := fun b u h => by rw [upd_ne (ne_of_none h np)]; exact h
  have ne : ∀ a, w.fp a → a ≠ p := fun a h z => rel.live a h (by rw [z]; exact np)
  refine ⟨⟨w.F, upd w.H p o, w.fp⟩, rfl, rfl, rfl, ⟨rel.same.trans sH, rel.frz, fun a h => ?_, rel.fixed, rel.slots.frame (Same.refl _) fun a u _ h => sH a u h⟩, ⟨Same.refl _, fun a u h => .inl h, fun a u h _ => sH a u h, fun a h => .inl h⟩⟩
  show upd w.H p o a ≠ none
  rw [upd_ne (ne a h)]
  exact rel.live a h
theorem fin_tup {b : Bool} {p : Addr} {xs : List V} {ds : List D} (h : PostV c κ σ (.t (.v b)) w Q (some (.ok (.tuple ds) ρ))) (rel : Rel c.K κ ρ σ w1) (e : Ext w w1) (r : RDs b c.K w1.F xs ds) (np : w1.H p = none) : Q (.ref p) (upd w1.H p (.tup xs)) := by
  obtain ⟨w2, eH, eF, rel2, e2⟩ := world_new (o := .tup xs) rel np
  rw [← eH]
  exact h _ w2 rel2 (e.trans e2) (Temp.imm (.tup (by rw [eF, upd_same]) (r.mono e2.same)))
/-- a new list, frozen at once, or owned -/
def newL (b : Bool) : Kind → Prop
  | .v c => c = b
  | .lst (.v c) => c = b
  | _ => False
theorem odl_imm {b : Bool} {K : PySem.W.Frag} {F H : Hp} {fp : FpS} : ∀ {xs : List V} {ds : List D}, RDs b K F xs ds → ODl (fun v d f => dk (.v b) = true ∧ OD K F H (.v b) v d f) xs ds fp
  | _, _, .nil => .nil
  | _, _, .cons h t => .cons (f := fun _ => False) (g := fun _ => False) ⟨rfl, h⟩ (odl_imm t) (fun _ z => z.elim) (fun _ z => z.elim) fun _ z => z.elim
theorem fin_lst {b : Bool} {k : Kind} {p : Addr} {xs : List V} {ds : List D} (hk : newL b k) (h : PostV c κ σ (.t k) w Q (some (.ok (.list ds) ρ))) (rel : Rel c.K κ ρ σ w1) (e : Ext w w1) (r : RDs b c.K w1.F xs ds) (np : w1.H p = none) : Q (.ref p) (upd w1.H p (.lst xs)) := by
  cases k with
  | v c =>
    cases hk
    obtain ⟨w2, eH, eF, rel2, e2⟩ := world_new (o := .lst xs) rel np
    rw [← eH]
    exact h _ w2 rel2 (e.trans e2) (Temp.imm (.lst (by rw [eF, upd_same]) (r.mono e2.same)))
  | lst k =>
    cases k with
    | v c =>
      cases hk
      obtain ⟨w2, eH, eF, ef, rel2, e2⟩ := world_own (o := .lst xs) rel np
      rw [← eH]
      refine h _ w2 rel2 (e.trans e2) ⟨fun a => a = p, ⟨p, xs, ds, fun _ => False, rfl, rfl, by rw [eH, upd_same], rfl, fun z => z, fun _ z => z.elim, odl_imm (by rw [eF]; exact r)⟩, fun a ha => ?_⟩
      have ha' : a = p := ha
      rw [ha']
      refine ⟨fun z => ?_, ?_, ?_, ?_⟩
      · rw [ef] at z
        exact rel.live _ z np
      · rw [eF]
        exact rel.same.free np
      · rw [eH, upd_same]
        intro z; cases z
      · cases q : w.H p with
        | none => exact .inr rfl
        | some o =>
          by_cases y : w.fp p
          · exact .inl y
          · rw [e.keep p o q y] at np; cases np
    | lst _ => exact hk.elim
    | _ => exact hk.elim
  | _ => exact hk.elim
end
/-! ### names, constants -/
section
variable {X : Cx} {W : WX} {κ : List Kind} {pos : Pos}
def fVar (i : Nat) : M D := fun ρ => match ρ[i]? with
  | some (some d) => some (.ok d ρ)
  | _ => none
theorem ev_var {c : Ct} {b : Bool} {i : Nat} {σ : L2.St} {H : Hp} {Q : VK} (hk : κ[i]? = some (.v b)) (h : tV c κ (.t (.v b)) (fVar i) σ H Q) : tVar i σ H Q := by
  obtain ⟨ρ, w, rfl, rel, post⟩ := h
  unfold fVar at post
  split at post
  · rename_i d e
    obtain ⟨v, f, e1, o, _⟩ := rel.slots.get e hk
    exact ⟨v, e1, fin_imm post rel (Ext.refl _) o⟩
  · exact post.elim
/-- a name that holds an immediate datum -/
theorem fe_var {b : Bool} (i : Nat) {x : Str} (hk : κ[i]? = some (.v b) := by rfl) (hN : X.N[i]? = some x := by rfl) (hv : Vis X.env.scope x := by first | exact Or.inl rfl | exact Or.inr (Or.inl rfl) | exact Or.inr (Or.inr rfl)) (hd : (x == ("__debug__" : Str)) = false := by decide)
    (hcd : (x == ("__classdict__" : Str)) = false := by decide) : FV X W κ (.t (.v b)) (.Name x pos) (fVar i) := (pe_var hN hv hd hcd).imp fun _ _ _ h => ev_var hk h
/-- a name, as the object that it holds -/
def fRef (i : Nat) : M D := fun ρ => match ρ[i]? with
  | some (some _) => some (.ok .none ρ)
  | _ => none
theorem fe_ref (i : Nat) {x : Str} (hN : X.N[i]? = some x := by rfl) (hv : Vis X.env.scope x := by first | exact Or.inl rfl | exact Or.inr (Or.inl rfl) | exact Or.inr (Or.inr rfl)) (hd : (x == ("__debug__" : Str)) = false := by decide)
    (hcd : (x == ("__classdict__" : Str)) = false := by decide) : FV X W κ (.r i) (.Name x pos) (fRef i) := (pe_var hN hv hd hcd).imp fun σ H Q h => by
  obtain ⟨ρ, w, rfl, rel, post⟩ := h
  unfold fRef at post
  split at post
  · rename_i d e
    obtain ⟨k, hk⟩ := kind_at rel e
    obtain ⟨v, f, e1, o, _⟩ := rel.slots.get e hk
    exact ⟨v, e1, post v w rel (Ext.refl _) e1⟩
  · exact post.elim
def fC (d : D) : M D := fun ρ => some (.ok d ρ)
theorem ev_con {b : Bool} {c : Ct} {v : V} {d : D} {σ : L2.St} {H : Hp} {Q : VK} (r : ∀ F, RD b c.K F v d) (h : tV c κ (.t (.v b)) (fC d) σ H Q) : Q v H := by
  obtain ⟨ρ, w, rfl, rel, post⟩ := h
  exact fin_imm post rel (Ext.refl _) (r _)
theorem fe_int {b : Bool} {i j} : FV X W κ (.t (.v b)) (.Constant (.int i) j pos) (fC (.int i)) := pe_int.imp fun _ _ _ h => ev_con (fun _ => .int i) h
theorem fe_bl {b : Bool} {c j} : FV X W κ (.t (.v b)) (.Constant (.bool c) j pos) (fC (.bool c)) := pe_bl.imp fun _ _ _ h => ev_con (fun _ => .bl c) h
theorem fe_non {b : Bool} {j} : FV X W κ (.t (.v b)) (.Constant .none j pos) (fC .none) := pe_non.imp fun _ _ _ h => ev_con (fun _ => .non) h
theorem fe_str {b : Bool} {x j} : FV X W κ (.t (.v b)) (.Constant (.str x) j pos) (fC (.str x)) := pe_str.imp fun _ _ _ h => ev_con (fun _ => .str x) h
/-- a module's constant that is no object -/
theorem fe_glob {b : Bool} {x : Str} {v : V} {d : D} {u : Value} (hg : Gl X x) (hm : X.mg x = some u) (r : RelV v u) (q : ∀ F, RD b X.K F v d) (hd : (x == ("__debug__" : Str)) = false := by decide) : FV X W κ (.t (.v b)) (.Name x pos) (fC d) :=
  (pe_glob hg hm r hd).imp fun _ _ _ h => ev_con q h
end
/-! ### operators on two data -/
section
variable {X : Cx} {W : WX} {κ : List Kind} {pos : Pos} {a b : Expr} {fa fb : M D} {ma mb : Md}
/-- two operands, then op of their data -/
def f2 (ma mb : Md) (op : D → D → Option D) (fa fb : M D) : M D := fun ρ => bdo (fa ρ) fun x ρ1 => bdo (fb ρ1) fun y ρ2 => match rd ma x ρ2, rd mb y ρ2 with
  | some x, some y => (op x y).map fun z => .ok z ρ2
  | _, _ => none
/-- a value-level rule whose answer is an immediate datum that leans on no heap -/
def Sc (K : PySem.W.Frag) (r : R2) (op : D → D → Option D) : Prop := ∀ x y dx dy z (H : Hp) (Q : VK), Dp K H x dx → Dp K H y dy → op dx dy = some z → (∀ v, (∀ b F, RD b K F v z) → Q v H) → r x y H Q
theorem ev_2 {c : Ct} {k : Kind} {op : D → D → Option D} {r : R2} {σ : L2.St} {H : Hp} {Q : VK}
    (hr : ∀ ρ w w2 x y dx dy vx vy z, Rel c.K κ ρ σ w2 → Ext w w2 → TempM c.K ma σ w w2 dx vx → TempM c.K mb σ w w2 dy vy → rd ma dx ρ = some x → rd mb dy ρ = some y → op x y = some z → PostV c κ σ (.t k) w Q (some (.ok z ρ)) → r vx vy w2.H Q)
    (h : tV c κ (.t k) (f2 ma mb op fa fb) σ H Q) : tOp r (tV c κ ma fa) (tV c κ mb fb) σ H Q := by
  obtain ⟨ρ, w, rfl, rel, post⟩ := h
  refine seqV (P := PostV c κ σ (.t k) w Q) rel post (fun z => z) (fun n d ρ' z => z) fun dx ρ1 vx w1 rel1 e1 t1 post1 => ?_
  refine seqV (P := PostV c κ σ (.t k) w Q) rel1 post1 (fun z => z) (fun n d ρ' z => z.since e1) fun dy ρ2 vy w2 rel2 e2 t2 post2 => ?_
  split at post2
  · rename_i x y ex ey
    cases ez : op x y with
    | none =>
      rw [ez] at post2
      exact post2.elim
    | some z =>
      rw [ez] at post2
      exact hr ρ2 w w2 x y dx dy vx vy z rel2 (e1.trans e2) (t1.keep e2) (t2.since e1) ex ey ez post2
  · exact post2.elim
theorem fe_op {bb : Bool} {op : Operator} {r : R2} {o : D → D → Option D} (ho : OpR X (binaryOp op) r) (hs : Sc X.K r o) (ha : FV X W κ ma a fa) (hb : FV X W κ mb b fb) : FV X W κ (.t (.v bb)) (.BinOp a op b pos) (f2 ma mb o fa fb) :=
  (pe_op ho ha hb).imp fun _ _ _ h => ev_2 (fun _ _ _ _ _ _ _ _ _ _ rel e t1 t2 e1 e2 ez post => hs _ _ _ _ _ _ _ (rd_dp rel t1 e1) (rd_dp rel t2 e2) ez fun v q => fin_imm post rel e (q _ _)) h
theorem fe_cmp {bb : Bool} {op : CmpOp} {r : R2} {o : D → D → Option D} (ho : OpR X (compareOp op) r) (hs : Sc X.K r o) (ha : FV X W κ ma a fa) (hb : FV X W κ mb b fb) (hm : behindInMarks op b = false) : FV X W κ (.t (.v bb)) (.Compare a [op] [b] pos) (f2 ma mb o fa fb) :=
  (pe_cmpR ho ha hb hm).imp fun _ _ _ h => ev_2 (fun _ _ _ _ _ _ _ _ _ _ rel e t1 t2 e1 e2 ez post => hs _ _ _ _ _ _ _ (rd_dp rel t1 e1) (rd_dp rel t2 e2) ez fun v q => fin_imm post rel e (q _ _)) h
end
/-! ### the operators -/
section
variable {K : PySem.W.Frag}
theorem dp_int {H : Hp} {x : V} {i : Int} (h : Dp K H x (.int i)) : x = .int i := by cases h; rfl
theorem dp_str {H : Hp} {x : V} {i : Str} (h : Dp K H x (.str i)) : x = .str i := by cases h; rfl
theorem dp_bl {H : Hp} {x : V} {i : Bool} (h : Dp K H x (.bool i)) : x = .bl i := by cases h; rfl
/-- of two ints -/
def oI (p : Int → Int → Bool) (g : Int → Int → D) : D → D → Option D
  | .int i, .int j => if p i j then some (g i j) else none
  | _, _ => none
theorem sc_I {C : Int → Int → Prop} {p : Int → Int → Bool} {g : Int → Int → V} {gd : Int → Int → D} (hp : ∀ i j, p i j = true → C i j) (hg : ∀ i j b F, RD b K F (g i j) (gd i j)) : Sc K (rI C g) (oI p gd) := by
  intro x y dx dy z H Q hx hy ho q
  unfold oI at ho
  split at ho
  · rename_i i j
    split at ho
    · rename_i c
      cases ho
      exact ⟨i, j, dp_int hx, dp_int hy, hp i j c, q _ (hg i j)⟩
    · cases ho
  · cases ho
theorem sc_I0 {g : Int → Int → V} {gd : Int → Int → D} (hg : ∀ i j b F, RD b K F (g i j) (gd i j)) : Sc K (rI0 g) (oI (fun _ _ => true) gd) := by
  intro x y dx dy z H Q hx hy ho q
  unfold oI at ho
  split at ho
  · rename_i i j
    cases ho
    exact ⟨i, j, dp_int hx, dp_int hy, q _ (hg i j)⟩
  · cases ho
def bMul (i j : Int) : Bool := decide ((-(2 ^ 64) < i ∧ i < 2 ^ 64) ∨ (-(2 ^ 64) < j ∧ j < 2 ^ 64))
def dSub : D → D → Option D := oI (fun _ _ => true) fun i j => .int (i - j)
def dMod : D → D → Option D := oI (fun _ j => decide (0 < j)) fun i j => .int (i % j)
def dPow : D → D → Option D := oI (fun i j => decide (0 ≤ j ∧ j ≤ 1000000 ∧ i.natAbs < 2 ^ 64)) fun i j => .int (i ^ j.toNat)
def dLt : D → D → Option D := oI (fun _ _ => true) fun i j => .bool (decide (i < j))
def dLe : D → D → Option D := oI (fun _ _ => true) fun i j => .bool (decide (i ≤ j))
def dGt : D → D → Option D := oI (fun _ _ => true) fun i j => .bool (decide (j < i))
def dGe : D → D → Option D := oI (fun _ _ => true) fun i j => .bool (decide (j ≤ i))
theorem s_sub : Sc K (rI0 fun i j => .int (i - j)) dSub := sc_I0 fun i j b F => .int _
theorem s_mod : Sc K (rI (fun _ j => 0 < j) fun i j => .int (i % j)) dMod := sc_I (fun i j h => of_decide_eq_true h) fun i j b F => .int _
theorem s_pow : Sc K (rI CPow fun i j => .int (i ^ j.toNat)) dPow := sc_I (fun i j h => (of_decide_eq_true h : 0 ≤ j ∧ j ≤ 1000000 ∧ i.natAbs < 2 ^ 64)) fun i j b F => .int _
theorem s_lt : Sc K (rI0 fun i j => .bl (decide (i < j))) dLt := sc_I0 fun i j b F => .bl _
theorem s_le : Sc K (rI0 fun i j => .bl (decide (i ≤ j))) dLe := sc_I0 fun i j b F => .bl _
theorem s_gt : Sc K (rI0 fun i j => .bl (decide (j < i))) dGt := sc_I0 fun i j b F => .bl _
theorem s_ge : Sc K (rI0 fun i j => .bl (decide (j ≤ i))) dGe := sc_I0 fun i j b F => .bl _
def dEq (x y : D) : Option D := if SeqAt.shaped x && SeqAt.shaped y then some (.bool (PyData.eqv x y)) else none
def dNe (x y : D) : Option D := if SeqAt.shaped x && SeqAt.shaped y then some (.bool (!PyData.eqv x y)) else none
theorem s_eq : Sc K (rEqD K) dEq := by
  intro x y dx dy z H Q hx hy ho q
  unfold dEq at ho
  split at ho
  · rename_i c
    cases ho
    rw [Bool.and_eq_true] at c
    exact ⟨dx, dy, hx, hy, c.1, c.2, q _ fun b F => .bl _⟩
  · cases ho
theorem s_ne : Sc K (rNeD K) dNe := by
  intro x y dx dy z H Q hx hy ho q
  unfold dNe at ho
  split at ho
  · rename_i c
    cases ho
    rw [Bool.and_eq_true] at c
    exact ⟨dx, dy, hx, hy, c.1, c.2, q _ fun b F => .bl _⟩
  · cases ho
end
end FN
set_option Elab.async false
set_option linter.all false
set_option maxRecDepth 100000
set_option maxHeartbeats 4000000
/-! FN3: tests, and, or, not, displays, arguments, subscripts, slices. -/
namespace FN
open PySem PySem.Spec PyProof.Rows L2
/-! ### tests -/
def PostT (c : Ct) (κ : List Kind) (σ : L2.St) (w : Wd) (Q : Bool → Hp → Prop) : Option (Out Bool) → Prop
  | some (.ok b ρ) => ∀ w', Rel c.K κ ρ σ w' → Ext w w' → Q b w'.H
  | some (.err n d ρ) => ErrOk c κ σ w n d ρ
  | none => False
def tT (c : Ct) (κ : List Kind) (f : M Bool) : TT := fun σ H Q => ∃ ρ w, w.H = H ∧ Rel c.K κ ρ σ w ∧ PostT c κ σ w Q (f ρ)
def FT (X : Cx) (W : WX) (κ : List Kind) (e : Expr) (f : M Bool) : Prop := PT X e (tT (ctx X W) κ f)
def FW (X : Cx) (W : WX) (κ : List Kind) (e : Expr) (f : M Bool) : Prop := PW X e (tT (ctx X W) κ f)
theorem _root_.L2.PW.imp {X : Cx} {e : Expr} {t t' : TT} (h : PW X e t) (i : ∀ σ H Q, t' σ H Q → t σ H Q) : PW X e t' := ⟨fun wh pins s σ H Q I q => h.run wh pins s σ H Q I (i σ H Q q)⟩
section
variable {c : Ct} {κ : List Kind} {σ : L2.St} {w w1 : Wd}
theorem seqT {β : Type} {fa : M Bool} {ρ : Env} {P : Option β → Prop} {e : Str → D → Env → β} {g : Bool → Env → Option β} {R : Bool → Hp → Prop} (rel : Rel c.K κ ρ σ w1) (h : P (bnd (fa ρ) e g)) (hN : ¬ P none) (hE : ∀ n d ρ', P (some (e n d ρ')) → ErrOk c κ σ w1 n d ρ')
    (hR : ∀ b ρ2 w2, Rel c.K κ ρ2 σ w2 → Ext w1 w2 → P (g b ρ2) → R b w2.H) : tT c κ fa σ w1.H R := by
  refine ⟨ρ, w1, rfl, rel, ?_⟩
  cases q : fa ρ with
  | none =>
    rw [q] at h
    exact hN h
  | some o =>
    rw [q] at h
    cases o with
    | ok d ρ2 => exact fun w2 r2 e2 => hR d ρ2 w2 r2 e2 h
    | err n d ρ2 => exact hE n d ρ2 h
theorem PostV.since {m : Md} {Q : VK} {r : Option (Out D)} (h : PostV c κ σ m w Q r) (e : Ext w w1) : PostV c κ σ m w1 Q r := by
  cases r with
  | none => exact h
  | some o =>
    cases o with
    | ok d ρ => exact fun v w' r x t => h v w' r (e.trans x) (t.since e)
    | err n d ρ => exact ErrOk.since h e
theorem PostT.since {Q : Bool → Hp → Prop} {r : Option (Out Bool)} (h : PostT c κ σ w Q r) (e : Ext w w1) : PostT c κ σ w1 Q r := by
  cases r with
  | none => exact h
  | some o =>
    cases o with
    | ok d ρ => exact fun w' r x => h w' r (e.trans x)
    | err n d ρ => exact ErrOk.since h e
/-- truth of data -/
def truD : D → Option Bool
  | .none => some false
  | .bool b => some b
  | .int i => some (i != 0)
  | .str x => if x.length ≤ sizeLine then some ((x.length : Int) != 0) else none
  | .list xs => some !xs.isEmpty
  | .tuple xs => some !xs.isEmpty
  | .dict _ => none
theorem truD_ok {K : PySem.W.Frag} {H : Hp} {v : V} {d : D} {k : Bool} (h : Dp K H v d) (e : truD d = some k) : TruV K v H k := by
  cases h with
  | non => cases e; rfl
  | bl b => cases e; rfl
  | int i => cases e; rfl
  | str x =>
    have e' : (if x.length ≤ sizeLine then some ((x.length : Int) != 0) else none) = some k := e
    split at e'
    · rename_i hl
      cases e'
      exact ⟨hl, rfl⟩
    · cases e'
  | lst h t =>
    cases e
    refine .inl ⟨_, h, ?_⟩
    cases t <;> rfl
  | tup h t =>
    cases e
    refine .inr (.inl ⟨_, h, ?_⟩)
    cases t <;> rfl
def fTru (m : Md) (fa : M D) : M Bool := fun ρ => bdo (fa ρ) fun x ρ1 => match rd m x ρ1 with
  | some x => (truD x).map fun b => .ok b ρ1
  | none => none
end
section
variable {X : Cx} {W : WX} {κ : List Kind} {pos : Pos} {a b e : Expr} {fa fb : M D} {ma mb : Md} {ta tb : M Bool}
theorem ft_tru (ha : FV X W κ ma a fa) (he : ∀ whole, isTrue a X.env whole = (do let v ← whole; standAt a.pos; holding [v] (truthy v)) := by intro _; rfl) : FT X W κ a (fTru ma fa) :=
  (pt_truth ha he).imp fun σ H Q h => by
    obtain ⟨ρ, w, rfl, rel, post⟩ := h
    refine seqV (P := PostT (ctx X W) κ σ w Q) rel post (fun z => z) (fun n d ρ' z => z) fun d ρ1 v w1 rel1 e1 t1 post1 => ?_
    split at post1
    · rename_i x ex
      cases eb : truD x with
      | none =>
        rw [eb] at post1
        exact post1.elim
      | some k =>
        rw [eb] at post1
        exact ⟨k, truD_ok (rd_dp rel1 t1 ex) eb, post1 w1 rel1 e1⟩
    · exact post1.elim
def tAndF (ta tb : M Bool) : M Bool := fun ρ => bdo (ta ρ) fun c ρ1 => if c = true then tb ρ1 else some (.ok false ρ1)
def tOrF (ta tb : M Bool) : M Bool := fun ρ => bdo (ta ρ) fun c ρ1 => if c = true then some (.ok true ρ1) else tb ρ1
def tNotF (ta : M Bool) : M Bool := fun ρ => bdo (ta ρ) fun c ρ1 => some (.ok (!c) ρ1)
theorem fw_and1 (ha : FT X W κ a ta) : FW X W κ (.BoolOp .And [a] pos) ta := pw_and1 ha
theorem fw_or1 (ha : FT X W κ a ta) : FW X W κ (.BoolOp .Or [a] pos) ta := pw_or1 ha
theorem fw_and {rest : List Expr} (ha : FT X W κ a ta) (hb : FW X W κ (.BoolOp .And (b :: rest) pos) tb) : FW X W κ (.BoolOp .And (a :: b :: rest) pos) (tAndF ta tb) := (pw_and ha hb).imp fun σ H Q h => by
  obtain ⟨ρ, w, rfl, rel, post⟩ := h
  refine seqT (P := PostT (ctx X W) κ σ w Q) rel post (fun z => z) (fun n d ρ' z => z) fun k ρ1 w1 rel1 e1 post1 => ?_
  cases k with
  | true => exact ⟨ρ1, w1, rfl, rel1, PostT.since post1 e1⟩
  | false => exact post1 w1 rel1 e1
theorem fw_or {rest : List Expr} (ha : FT X W κ a ta) (hb : FW X W κ (.BoolOp .Or (b :: rest) pos) tb) : FW X W κ (.BoolOp .Or (a :: b :: rest) pos) (tOrF ta tb) := (pw_or ha hb).imp fun σ H Q h => by
  obtain ⟨ρ, w, rfl, rel, post⟩ := h
  refine seqT (P := PostT (ctx X W) κ σ w Q) rel post (fun z => z) (fun n d ρ' z => z) fun k ρ1 w1 rel1 e1 post1 => ?_
  cases k with
  | true => exact post1 w1 rel1 e1
  | false => exact ⟨ρ1, w1, rfl, rel1, PostT.since post1 e1⟩
theorem ft_w (h : FW X W κ e ta) : FT X W κ e ta := PW.pt h
theorem ft_not (ha : FT X W κ a ta) : FT X W κ (.UnaryOp .Not a pos) (tNotF ta) := (pt_not ha).imp fun σ H Q h => by
  obtain ⟨ρ, w, rfl, rel, post⟩ := h
  exact seqT (P := PostT (ctx X W) κ σ w Q) rel post (fun z => z) (fun n d ρ' z => z) fun k ρ1 w1 rel1 e1 post1 => post1 w1 rel1 e1
/-! ### and, or, not as values (bools but the last) -/
def fAnd (fa fb : M D) : M D := fun ρ => bdo (fa ρ) fun x ρ1 => match x with
  | .bool true => fb ρ1
  | .bool false => some (.ok (.bool false) ρ1)
  | _ => none
def fOr (fa fb : M D) : M D := fun ρ => bdo (fa ρ) fun x ρ1 => match x with
  | .bool true => some (.ok (.bool true) ρ1)
  | .bool false => fb ρ1
  | _ => none
def fNot (fa : M D) : M D := fun ρ => bdo (fa ρ) fun x ρ1 => match x with
  | .bool b => some (.ok (.bool !b) ρ1)
  | _ => none
theorem fe_one {op} {k : Kind} (ha : FV X W κ (.t k) a fa) : FV X W κ (.t k) (.BoolOp op [a] pos) fa := pe_one ha
theorem rd_bool {K : PySem.W.Frag} {b k : Bool} {w w1 : Wd} {v : V} (t : Temp K (.v b) w w1 (.bool k) v) : v = .bl k := dp_bl t.rd.dp
theorem fe_and {k : Bool} {rest : List Expr} (ha : FV X W κ (.t (.v k)) a fa) (hb : FV X W κ (.t (.v k)) (.BoolOp .And (b :: rest) pos) fb) : FV X W κ (.t (.v k)) (.BoolOp .And (a :: b :: rest) pos) (fAnd fa fb) := (pe_and ha hb).imp fun σ H Q h => by
  obtain ⟨ρ, w, rfl, rel, post⟩ := h
  refine seqV (P := PostV (ctx X W) κ σ (.t (.v k)) w Q) rel post (fun z => z) (fun n d ρ' z => z) fun d ρ1 v w1 rel1 e1 t1 post1 => ?_
  split at post1
  · exact ⟨true, rd_bool t1, ⟨ρ1, w1, rfl, rel1, PostV.since post1 e1⟩⟩
  · exact ⟨false, rd_bool t1, fin_imm post1 rel1 e1 (.bl false)⟩
  · exact post1.elim
theorem fe_or {k : Bool} {rest : List Expr} (ha : FV X W κ (.t (.v k)) a fa) (hb : FV X W κ (.t (.v k)) (.BoolOp .Or (b :: rest) pos) fb) : FV X W κ (.t (.v k)) (.BoolOp .Or (a :: b :: rest) pos) (fOr fa fb) := (pe_or ha hb).imp fun σ H Q h => by
  obtain ⟨ρ, w, rfl, rel, post⟩ := h
  refine seqV (P := PostV (ctx X W) κ σ (.t (.v k)) w Q) rel post (fun z => z) (fun n d ρ' z => z) fun d ρ1 v w1 rel1 e1 t1 post1 => ?_
  split at post1
  · exact ⟨true, rd_bool t1, fin_imm post1 rel1 e1 (.bl true)⟩
  · exact ⟨false, rd_bool t1, ⟨ρ1, w1, rfl, rel1, PostV.since post1 e1⟩⟩
  · exact post1.elim
theorem fe_not {k k' : Bool} (ha : FV X W κ (.t (.v k)) a fa) : FV X W κ (.t (.v k')) (.UnaryOp .Not a pos) (fNot fa) := (pe_not ha).imp fun σ H Q h => by
  obtain ⟨ρ, w, rfl, rel, post⟩ := h
  refine seqV (P := PostV (ctx X W) κ σ (.t (.v k')) w Q) rel post (fun z => z) (fun n d ρ' z => z) fun d ρ1 v w1 rel1 e1 t1 post1 => ?_
  split at post1
  · exact ⟨_, rd_bool t1, fin_imm post1 rel1 e1 (.bl _)⟩
  · exact post1.elim
/-! ### a if t else b -/
def fIf (t : M Bool) (fa fb : M D) : M D := fun ρ => bdo (t ρ) fun c ρ1 => if c = true then fa ρ1 else fb ρ1
theorem fe_if {c : Expr} {m : Md} (hc : FT X W κ c ta) (ha : FV X W κ m a fa) (hb : FV X W κ m b fb) : FV X W κ m (.IfExp c a b pos) (fIf ta fa fb) := (pe_ifExp hc ha hb).imp fun σ H Q h => by
  obtain ⟨ρ, w, rfl, rel, post⟩ := h
  refine seqT (P := PostV (ctx X W) κ σ m w Q) rel post (fun z => z) (fun n d ρ' z => z) fun k ρ1 w1 rel1 e1 post1 => ?_
  cases k with
  | true => exact ⟨ρ1, w1, rfl, rel1, PostV.since post1 e1⟩
  | false => exact ⟨ρ1, w1, rfl, rel1, PostV.since post1 e1⟩
/-! ### a < b < c -/
def fCh (ma mb mc : Md) (o o' : D → D → Option D) (fa fb fc : M D) : M D := fun ρ => bdo (fa ρ) fun x ρ1 => bdo (fb ρ1) fun y ρ2 => match rd ma x ρ2, rd mb y ρ2 with
  | some x', some y' => match o x' y' with
    | some (.bool true) => bdo (fc ρ2) fun z ρ3 => match rd mb y ρ3, rd mc z ρ3 with
      | some y', some z' => (o' y' z').map fun u => .ok u ρ3
      | _, _ => none
    | some (.bool false) => some (.ok (.bool false) ρ2)
    | _ => none
  | _, _ => none
theorem ev_ch {X : Cx} {W : WX} {bb : Bool} {fc : M D} {mc : Md} {r r' : R2} {o o' : D → D → Option D} {σ : L2.St} {H : Hp} {Q : VK} (hs : Sc X.K r o) (hs' : Sc X.K r' o') (h : tV (ctx X W) κ (.t (.v bb)) (fCh ma mb mc o o' fa fb fc) σ H Q) : tChain r r' (tV (ctx X W) κ ma fa) (tV (ctx X W) κ mb fb) (tV (ctx X W) κ mc fc) σ H Q := by
  obtain ⟨ρ, w, rfl, rel, post⟩ := h
  refine seqV (P := PostV (ctx X W) κ σ (.t (.v bb)) w Q) rel post (fun z => z) (fun n d ρ' z => z) fun dx ρ1 vx w1 rel1 e1 t1 post1 => ?_
  refine seqV (P := PostV (ctx X W) κ σ (.t (.v bb)) w Q) rel1 post1 (fun z => z) (fun n d ρ' z => z.since e1) fun dy ρ2 vy w2 rel2 e2 t2 post2 => ?_
  split at post2
  · rename_i x' y' ex ey
    have e12 := e1.trans e2
    split at post2
    · rename_i eo
      refine hs _ _ _ _ _ _ _ (rd_dp rel2 (t1.keep e2) ex) (rd_dp rel2 t2 ey) eo fun v q => ⟨true, dp_bl (q true (fun _ => none)).dp, ?_⟩
      rw [if_pos rfl]
      refine seqV (P := PostV (ctx X W) κ σ (.t (.v bb)) w Q) rel2 post2 (fun z => z) (fun n d ρ' z => z.since e12) fun dz ρ3 vz w3 rel3 e3 t3 post3 => ?_
      split at post3
      · rename_i y2 z2 ey2 ez2
        cases eu : o' y2 z2 with
        | none =>
          rw [eu] at post3
          exact post3.elim
        | some u =>
          rw [eu] at post3
          exact hs' _ _ _ _ _ _ _ (rd_dp rel3 (t2.keep e3) ey2) (rd_dp rel3 t3 ez2) eu fun v q => fin_imm post3 rel3 (e12.trans e3) (q _ _)
      · exact post3.elim
    · rename_i eo
      refine hs _ _ _ _ _ _ _ (rd_dp rel2 (t1.keep e2) ex) (rd_dp rel2 t2 ey) eo fun v q => ⟨false, dp_bl (q true (fun _ => none)).dp, ?_⟩
      rw [if_neg Bool.false_ne_true]
      exact fin_imm post2 rel2 e12 (.bl false)
    · exact post2.elim
  · exact post2.elim
theorem fe_ch {bb : Bool} {c : Expr} {fc : M D} {mc : Md} {op op' : CmpOp} {r r' : R2} {o o' : D → D → Option D} (ho : OpR X (compareOp op) r) (hs : Sc X.K r o) (ho' : OpR X (compareOp op') r') (hs' : Sc X.K r' o') (ha : FV X W κ ma a fa) (hb : FV X W κ mb b fb) (hc : FV X W κ mc c fc)
    (hm : lastMarks [op, op'] [b, c] = false := by with_unfolding_all rfl) : FV X W κ (.t (.v bb)) (.Compare a [op, op'] [b, c] pos) (fCh ma mb mc o o' fa fb fc) := (pe_chain ho ho' ha hb hc hm).imp fun _ _ _ h => ev_ch hs hs' h
/-! ### comparisons as tests -/
def fTst (fa : M D) : M Bool := fun ρ => bdo (fa ρ) fun d ρ1 => match d with
  | .bool b => some (.ok b ρ1)
  | _ => none
theorem tst_of {c : Ct} {f : M D} {σ : L2.St} {H : Hp} {Q : Bool → Hp → Prop} (h : tT c κ (fTst f) σ H Q) : tV c κ (.t (.v true)) f σ H (fun x H' => ∃ k, x = .bl k ∧ Q k H') := by
  obtain ⟨ρ, w, rfl, rel, post⟩ := h
  refine ⟨ρ, w, rfl, rel, ?_⟩
  unfold fTst at post
  cases e : f ρ with
  | none => rw [e] at post; exact post.elim
  | some o =>
    rw [e] at post
    cases o with
    | err n d ρ1 => exact post
    | ok d ρ1 =>
      intro v w1 rel1 e1 t1
      cases d with
      | bool b => exact ⟨b, rd_bool t1, (show PostT c κ σ w Q (some (.ok b ρ1)) from post) w1 rel1 e1⟩
      | _ => exact (show False from post).elim
theorem ft_cmp {op : CmpOp} {r : R2} {o : D → D → Option D} (ho : OpR X (compareOp op) r) (hs : Sc X.K r o) (ha : FV X W κ ma a fa) (hb : FV X W κ mb b fb) (hm : behindInMarks op b = false) : FT X W κ (.Compare a [op] [b] pos) (fTst (f2 ma mb o fa fb)) :=
  (pt_cmpR ho ha hb hm).imp fun _ _ _ h => ev_2 (fun _ _ _ _ _ _ _ _ _ _ rel e t1 t2 e1 e2 ez post => hs _ _ _ _ _ _ _ (rd_dp rel t1 e1) (rd_dp rel t2 e2) ez fun v q => fin_imm post rel e (q _ _)) (tst_of h)
theorem ft_ch {c : Expr} {fc : M D} {mc : Md} {op op' : CmpOp} {r r' : R2} {o o' : D → D → Option D} (ho : OpR X (compareOp op) r) (hs : Sc X.K r o) (ho' : OpR X (compareOp op') r') (hs' : Sc X.K r' o') (ha : FV X W κ ma a fa) (hb : FV X W κ mb b fb) (hc : FV X W κ mc c fc)
    (hm : lastMarks [op, op'] [b, c] = false := by with_unfolding_all rfl) : FT X W κ (.Compare a [op, op'] [b, c] pos) (fTst (fCh ma mb mc o o' fa fb fc)) := (pt_chain ho ho' ha hb hc hm).imp fun _ _ _ h => ev_ch hs hs' (tst_of h)
end
/-! ### arguments -/
inductive ArgsR (K : PySem.W.Frag) (σ : L2.St) (F H : Hp) : List Md → List D → List V → FpS → Prop
  | nil {fp : FpS} : ArgsR K σ F H [] [] [] fp
  | t {k : Kind} {d : D} {v : V} {ms : List Md} {ds : List D} {vs : List V} {f g fp : FpS} : OD K F H k v d f → ArgsR K σ F H ms ds vs g → (∀ a, f a → ¬ g a) → (∀ a, f a → fp a) → (∀ a, g a → fp a) → ArgsR K σ F H (.t k :: ms) (d :: ds) (v :: vs) fp
  | r {i : Nat} {d : D} {v : V} {ms : List Md} {ds : List D} {vs : List V} {fp : FpS} : σ[i]? = some (some v) → ArgsR K σ F H ms ds vs fp → ArgsR K σ F H (.r i :: ms) (d :: ds) (v :: vs) fp
def Args (K : PySem.W.Frag) (σ : L2.St) (w w' : Wd) (ms : List Md) (ds : List D) (vs : List V) : Prop :=
  ∃ g : FpS, ArgsR K σ w'.F w'.H ms ds vs g ∧ ∀ a, g a → ¬ w'.fp a ∧ w'.F a = none ∧ w'.H a ≠ none ∧ (w.fp a ∨ w.H a = none)
def PostA (c : Ct) (κ : List Kind) (σ : L2.St) (ms : List Md) (w : Wd) (Q : List V → Hp → Prop) : Option (Out (List D)) → Prop
  | some (.ok ds ρ) => ∀ vs w', Rel c.K κ ρ σ w' → Ext w w' → Args c.K σ w w' ms ds vs → Q vs w'.H
  | some (.err n d ρ) => ErrOk c κ σ w n d ρ
  | none => False
def tA (c : Ct) (κ : List Kind) (ms : List Md) (f : M (List D)) : TA := fun σ H Q => ∃ ρ w, w.H = H ∧ Rel c.K κ ρ σ w ∧ PostA c κ σ ms w Q (f ρ)
def FA (X : Cx) (W : WX) (κ : List Kind) (ms : List Md) (es : List Expr) (f : M (List D)) : Prop := PA X es (tA (ctx X W) κ ms f)
section
variable {c : Ct} {κ : List Kind} {σ : L2.St} {w w1 : Wd}
theorem seqA {β : Type} {ms : List Md} {fa : M (List D)} {ρ : Env} {P : Option β → Prop} {e : Str → D → Env → β} {g : List D → Env → Option β} {R : List V → Hp → Prop} (rel : Rel c.K κ ρ σ w1) (h : P (bnd (fa ρ) e g)) (hN : ¬ P none) (hE : ∀ n d ρ', P (some (e n d ρ')) → ErrOk c κ σ w1 n d ρ')
    (hR : ∀ ds ρ2 vs w2, Rel c.K κ ρ2 σ w2 → Ext w1 w2 → Args c.K σ w1 w2 ms ds vs → P (g ds ρ2) → R vs w2.H) : tA c κ ms fa σ w1.H R := by
  refine ⟨ρ, w1, rfl, rel, ?_⟩
  cases q : fa ρ with
  | none =>
    rw [q] at h
    exact hN h
  | some o =>
    rw [q] at h
    cases o with
    | ok d ρ2 => exact fun vs w2 r2 e2 t2 => hR d ρ2 vs w2 r2 e2 t2 h
    | err n d ρ2 => exact hE n d ρ2 h
def aNil : M (List D) := fun ρ => some (.ok [] ρ)
def aCons (fa : M D) (fr : M (List D)) : M (List D) := fun ρ => bdo (fa ρ) fun d ρ1 => bdo (fr ρ1) fun ds ρ2 => some (.ok (d :: ds) ρ2)
theorem args_cons {K : PySem.W.Frag} {w2 : Wd} {m : Md} {ms : List Md} {d : D} {v : V} {ds : List D} {vs : List V} (e1 : Ext w w1) (e2 : Ext w1 w2) (t : TempM K m σ w w1 d v) (a : Args K σ w1 w2 ms ds vs) : Args K σ w w2 (m :: ms) (d :: ds) (v :: vs) := by
  obtain ⟨g, h, c⟩ := a
  have cg : ∀ a, g a → ¬ w2.fp a ∧ w2.F a = none ∧ w2.H a ≠ none ∧ (w.fp a ∨ w.H a = none) := fun a z => by
    obtain ⟨c1, c2, c3, c4⟩ := c a z
    refine ⟨c1, c2, c3, ?_⟩
    rcases c4 with y | y
    · exact e1.fp a y
    · cases q : w.H a with
      | none => exact .inr rfl
      | some o =>
        by_cases n : w.fp a
        · exact .inl n
        · rw [e1.keep a o q n] at y; cases y
  cases m with
  | t k =>
    obtain ⟨f, o, cf⟩ := t
    obtain ⟨o', cf'⟩ := temp_keep e2 o fun a z => ⟨(cf a z).1, (cf a z).2.1, (cf a z).2.2.1⟩
    refine ⟨fun a => f a ∨ g a, .t o' h (fun a z y => ?_) (fun a z => .inl z) (fun a z => .inr z), fun a z => ?_⟩
    · rcases (c a y).2.2.2 with q | q
      · exact (cf a z).1 q
      · exact (cf a z).2.2.1 q
    · rcases z with z | z
      · exact ⟨(cf' a z).1, (cf' a z).2.1, (cf' a z).2.2, (cf a z).2.2.2⟩
      · exact cg a z
  | r i => exact ⟨g, .r t h, cg⟩
theorem Args.since {K : PySem.W.Frag} {w2 : Wd} {ms : List Md} {ds : List D} {vs : List V} (a : Args K σ w1 w2 ms ds vs) (e1 : Ext w w1) : Args K σ w w2 ms ds vs := by
  obtain ⟨g, h, c⟩ := a
  refine ⟨g, h, fun a z => ?_⟩
  obtain ⟨c1, c2, c3, c4⟩ := c a z
  refine ⟨c1, c2, c3, ?_⟩
  rcases c4 with y | y
  · exact e1.fp a y
  · cases q : w.H a with
    | none => exact .inr rfl
    | some o =>
      by_cases n : w.fp a
      · exact .inl n
      · rw [e1.keep a o q n] at y; cases y
end
section
variable {X : Cx} {W : WX} {κ : List Kind} {pos : Pos} {a b e : Expr} {es : List Expr} {fa fb : M D} {fr : M (List D)} {ma mb m : Md} {ms : List Md}
theorem fa_nil : FA X W κ [] [] aNil := pa_nil.imp fun σ H Q h => by
  obtain ⟨ρ, w, rfl, rel, post⟩ := h
  exact post [] w rel (Ext.refl _) ⟨fun _ => False, .nil, fun _ z => z.elim⟩
theorem fa_cons (ha : FV X W κ m a fa) (hr : FA X W κ ms es fr) (hs : starEach (a :: es) X.env = (false, eval a X.env) :: starEach es X.env := by rfl) : FA X W κ (m :: ms) (a :: es) (aCons fa fr) := (pa_cons ha hr hs).imp fun σ H Q h => by
  obtain ⟨ρ, w, rfl, rel, post⟩ := h
  refine seqV (P := PostA (ctx X W) κ σ (m :: ms) w Q) rel post (fun z => z) (fun n d ρ' z => z) fun d ρ1 v w1 rel1 e1 t1 post1 => ?_
  refine seqA (P := PostA (ctx X W) κ σ (m :: ms) w Q) rel1 post1 (fun z => z) (fun n d ρ' z => ErrOk.since z e1) fun ds ρ2 vs w2 rel2 e2 a2 post2 => ?_
  exact post2 (v :: vs) w2 rel2 (e1.trans e2) (args_cons e1 e2 t1 a2)
/-! ### displays -/
def allV (b : Bool) : List Md → Prop
  | [] => True
  | .t (.v c) :: ms => c = b ∧ allV b ms
  | _ => False
theorem args_rds {K : PySem.W.Frag} {σ : L2.St} {F H : Hp} {b : Bool} : ∀ {ms : List Md} {ds : List D} {vs : List V} {g : FpS}, allV b ms → ArgsR K σ F H ms ds vs g → RDs b K F vs ds
  | [], _, _, _, _, .nil => .nil
  | .t (.v c) :: ms, _, _, _, ⟨e, z⟩, .t o r _ _ _ => by
    subst e
    exact .cons o (args_rds z r)
  | .t (.lst _) :: _, _, _, _, z, _ => z.elim
  | .t .scr :: _, _, _, _, z, _ => z.elim
  | .t (.fix _ _) :: _, _, _, _, z, _ => z.elim
  | .r _ :: _, _, _, _, z, _ => z.elim
def fTup (fs : M (List D)) : M D := fun ρ => bdo (fs ρ) fun ds ρ1 => if ds.length ≤ sizeLine then some (.ok (.tuple ds) ρ1) else none
def fLst (fs : M (List D)) : M D := fun ρ => bdo (fs ρ) fun ds ρ1 => if ds.length ≤ sizeLine then some (.ok (.list ds) ρ1) else none
theorem fe_tup {k : Bool} {x1} (h : FA X W κ ms es fr) (hk : allV k ms := by repeat (first | exact True.intro | refine And.intro rfl ?_)) : FV X W κ (.t (.v k)) (.Tuple es x1 pos) (fTup fr) := (pe_tup h).imp fun σ H Q h => by
  obtain ⟨ρ, w, rfl, rel, post⟩ := h
  refine seqA (P := PostV (ctx X W) κ σ (.t (.v k)) w Q) rel post (fun z => z) (fun n d ρ' z => z) fun ds ρ1 vs w1 rel1 e1 a1 post1 => ?_
  obtain ⟨g, ar, _⟩ := a1
  have r := args_rds hk ar
  split at post1
  · rename_i hl
    exact ⟨by rw [r.length]; exact hl, fun p np => fin_tup post1 rel1 e1 r np⟩
  · exact post1.elim
theorem fe_lst {k : Bool} {kd : Kind} (h : FA X W κ ms es fr) (hd : newL k kd := by rfl) (hk : allV k ms := by repeat (first | exact True.intro | refine And.intro rfl ?_)) : FV X W κ (.t kd) (.List es pos) (fLst fr) := (pe_lst h).imp fun σ H Q h => by
  obtain ⟨ρ, w, rfl, rel, post⟩ := h
  refine seqA (P := PostV (ctx X W) κ σ (.t kd) w Q) rel post (fun z => z) (fun n d ρ' z => z) fun ds ρ1 vs w1 rel1 e1 a1 post1 => ?_
  obtain ⟨g, ar, _⟩ := a1
  have r := args_rds hk ar
  split at post1
  · rename_i hl
    exact ⟨by rw [r.length]; exact hl, fun p np => fin_lst hd post1 rel1 e1 r np⟩
  · exact post1.elim
end
/-! ### what an operand holds -/
/-- the slot's items are immediate data -/
def itK (b : Bool) : Option Kind → Prop
  | some (.v c) => c = b
  | some (.lst (.v c)) => c = b
  | some (.fix _ (.lst (.v c))) => c = b
  | _ => False
/-- the operand's items are immediate data -/
def itB (b : Bool) (κ : List Kind) : Md → Prop
  | .t (.v c) => c = b
  | .t (.lst (.v c)) => c = b
  | .r i => itK b κ[i]?
  | _ => False
theorem odl_rds {K : PySem.W.Frag} {F H : Hp} {b : Bool} : ∀ {xs : List V} {ds : List D} {fp : FpS}, ODl (fun v d f => dk (.v b) = true ∧ OD K F H (.v b) v d f) xs ds fp → RDs b K F xs ds
  | _, _, _, .nil => .nil
  | _, _, _, .cons r t _ _ _ => .cons r.2 (odl_rds t)
section
variable {c : Ct} {κ : List Kind} {σ : L2.St} {w w1 : Wd} {ρ : Env}
theorem od_list {K : PySem.W.Frag} {b : Bool} {k : Kind} {v : V} {ds : List D} {fp : FpS} {F H : Hp} (e : Same F H) (hk : k = .v b ∨ k = .lst (.v b) ∨ ∃ u, k = .fix u (.lst (.v b))) (o : OD K F H k v (.list ds) fp) : ∃ a xs, v = .ref a ∧ H a = some (.lst xs) ∧ RDs b K F xs ds := by
  rcases hk with rfl | rfl | ⟨u, rfl⟩
  · cases o with
    | lst h t => exact ⟨_, _, rfl, e _ _ h, t⟩
  · obtain ⟨a, vs, ds', g, e1, e2, e3, h1, h2, h3, t⟩ := o
    cases e2
    exact ⟨a, vs, e1, e3, odl_rds t⟩
  · obtain ⟨a, vs, ds', g, e1, e2, e3, h1, h2, h3, t⟩ := o
    cases e2
    exact ⟨a, vs, e1, e3, odl_rds t⟩
theorem it_cases {b : Bool} {i : Nat} (h : itB b κ (.r i)) : ∃ k, κ[i]? = some k ∧ (k = .v b ∨ k = .lst (.v b) ∨ ∃ u, k = .fix u (.lst (.v b))) := by
  have h' : itK b κ[i]? := h
  unfold itK at h'
  split at h'
  · rename_i c e
    exact ⟨_, e, .inl (by rw [h'])⟩
  · rename_i c e
    exact ⟨_, e, .inr (.inl (by rw [h']))⟩
  · rename_i u c e
    exact ⟨_, e, .inr (.inr ⟨u, by rw [h']⟩)⟩
  · exact h'.elim
theorem opd_od {m : Md} {b : Bool} {d d' : D} {v : V} (hm : itB b κ m) (rel : Rel c.K κ ρ σ w1) (t : TempM c.K m σ w w1 d v) (h : rd m d ρ = some d') : ∃ k fp, (k = .v b ∨ k = .lst (.v b) ∨ ∃ u, k = .fix u (.lst (.v b))) ∧ OD c.K w1.F w1.H k v d' fp := by
  cases m with
  | t k =>
    obtain ⟨rfl, _⟩ := rd_t h
    obtain ⟨g, o, _⟩ := t
    cases k with
    | v c => exact ⟨_, g, .inl (by rw [show c = b from hm]), o⟩
    | lst k =>
      cases k with
      | v c => exact ⟨_, g, .inr (.inl (by rw [show c = b from hm])), o⟩
      | _ => exact hm.elim
    | _ => exact hm.elim
  | r i =>
    obtain ⟨k, ek, hk⟩ := it_cases hm
    obtain ⟨v', f, e, o, _⟩ := rel.slots.get (rd_r h).1 ek
    rw [show σ[i]? = some (some v) from t] at e
    cases e
    exact ⟨k, f, hk, o⟩
theorem opd_list {m : Md} {b : Bool} {d : D} {ds : List D} {v : V} (hm : itB b κ m) (rel : Rel c.K κ ρ σ w1) (t : TempM c.K m σ w w1 d v) (h : rd m d ρ = some (.list ds)) : ∃ a xs, v = .ref a ∧ w1.H a = some (.lst xs) ∧ RDs b c.K w1.F xs ds := by
  obtain ⟨k, fp, hk, o⟩ := opd_od hm rel t h
  exact od_list rel.same hk o
theorem opd_tup {m : Md} {b : Bool} {d : D} {ds : List D} {v : V} (hm : itB b κ m) (rel : Rel c.K κ ρ σ w1) (t : TempM c.K m σ w w1 d v) (h : rd m d ρ = some (.tuple ds)) : ∃ a xs, v = .ref a ∧ SqT c.K w1.H a xs ∧ RD b c.K w1.F v (.tuple ds) ∧ RDs b c.K w1.F xs ds := by
  obtain ⟨k, fp, hk, o⟩ := opd_od hm rel t h
  rcases hk with rfl | rfl | ⟨u, rfl⟩
  · have o' : RD b c.K w1.F v (.tuple ds) := o
    cases o with
    | tup h1 t1 => exact ⟨_, _, rfl, SqT.of (rel.same _ _ h1), o', t1⟩
    | con z h1 t1 => exact ⟨_, _, rfl, sameT rel.same h1, o', t1⟩
  · obtain ⟨a, vs, ds', g, e1, e2, _⟩ := o
    cases e2
  · obtain ⟨a, vs, ds', g, e1, e2, _⟩ := o
    cases e2
end
end FN
set_option Elab.async false
set_option linter.all false
set_option maxRecDepth 100000
set_option maxHeartbeats 4000000
/-! FN4: +, *, subscripts, slices, built-in calls. -/
namespace FN
open PySem PySem.Spec PyProof.Rows L2
section
variable {X : Cx} {W : WX} {κ : List Kind} {pos : Pos} {a b e : Expr} {fa fb : M D} {ma mb m : Md}
/-! ### one operand -/
def f1 (m : Md) (op : D → Option D) (fa : M D) : M D := fun ρ => bdo (fa ρ) fun x ρ1 => match rd m x ρ1 with
  | some x => (op x).map fun z => .ok z ρ1
  | none => none
theorem ev_1 {c : Ct} {k : Kind} {op : D → Option D} {r : V → Hp → VK → Prop} {σ : L2.St} {H : Hp} {Q : VK}
    (hr : ∀ ρ w w1 x dx vx z, Rel c.K κ ρ σ w1 → Ext w w1 → TempM c.K m σ w w1 dx vx → rd m dx ρ = some x → op x = some z → PostV c κ σ (.t k) w Q (some (.ok z ρ)) → r vx w1.H Q)
    (h : tV c κ (.t k) (f1 m op fa) σ H Q) : tV c κ m fa σ H (fun x H1 => r x H1 Q) := by
  obtain ⟨ρ, w, rfl, rel, post⟩ := h
  refine seqV (P := PostV c κ σ (.t k) w Q) rel post (fun z => z) (fun n d ρ' z => z) fun dx ρ1 vx w1 rel1 e1 t1 post1 => ?_
  split at post1
  · rename_i x ex
    cases ez : op x with
    | none =>
      rw [ez] at post1
      exact post1.elim
    | some z =>
      rw [ez] at post1
      exact hr ρ1 w w1 x dx vx z rel1 e1 t1 ex ez post1
  · exact post1.elim
def dNeg : D → Option D
  | .int i => some (.int (-i))
  | _ => none
theorem fe_neg {k : Bool} (ha : FV X W κ m a fa) : FV X W κ (.t (.v k)) (.UnaryOp .USub a pos) (f1 m dNeg fa) := (pe_un un_neg ha).imp fun _ _ _ h => ev_1 (fun ρ w w1 x dx vx z rel e t ex ez post => by
  unfold dNeg at ez
  split at ez
  · cases ez
    exact ⟨_, dp_int (rd_dp rel t ex), fin_imm post rel e (.int _)⟩
  · cases ez) h
/-! ### a + b -/
def dAdd : D → D → Option D
  | .int i, .int j => some (.int (i + j))
  | .str x, .str y => if x.length + y.length ≤ sizeLine then some (.str (x ++ y)) else none
  | .tuple xs, .tuple ys => if xs.length + ys.length ≤ sizeLine then some (.tuple (xs ++ ys)) else none
  | .list xs, .list ys => if xs.length + ys.length ≤ sizeLine then some (.list (xs ++ ys)) else none
  | _, _ => none
theorem fe_add {k : Bool} {kd : Kind} (ha : FV X W κ ma a fa) (hb : FV X W κ mb b fb) (hd : kd = .v k := by rfl) (h1 : itB k κ ma := by rfl) (h2 : itB k κ mb := by rfl) : FV X W κ (.t kd) (.BinOp a .Add b pos) (f2 ma mb dAdd fa fb) := by
  subst hd
  refine (pe_op ((((op_add (X := X)).or op_add_str).or op_catA).or op_cat) ha hb).imp fun _ _ _ h => ev_2 (fun ρ w w2 x y dx dy vx vy z rel e t1 t2 e1 e2 ez post => ?_) h
  unfold dAdd at ez
  split at ez
  · cases ez
    exact .inl (.inl (.inl ⟨_, _, dp_int (rd_dp rel t1 e1), dp_int (rd_dp rel t2 e2), fin_imm post rel e (.int _)⟩))
  · split at ez
    · rename_i hl
      cases ez
      exact .inl (.inl (.inr ⟨_, _, dp_str (rd_dp rel t1 e1), dp_str (rd_dp rel t2 e2), hl, fin_imm post rel e (.str _)⟩))
    · cases ez
  · split at ez
    · rename_i xs ys hl
      cases ez
      obtain ⟨p, us, ep, sp, r1, rs1⟩ := opd_tup h1 rel t1 e1
      obtain ⟨q, vs, eq, sq, r2, rs2⟩ := opd_tup h2 rel t2 e2
      refine .inl (.inr ⟨p, q, us, vs, ep, eq, sp, sq, by rw [rs1.length, rs2.length]; exact hl, fun z => ?_, fun z1 z2 => ?_, fun z1 z2 p' np => ?_⟩)
      · subst z
        cases rs1
        rw [← eq]
        exact fin_imm post rel e r2
      · subst z2
        cases rs2
        rw [← ep]
        rw [List.append_nil] at post
        exact fin_imm post rel e r1
      · exact fin_tup post rel e (rs1.append rs2) np
    · cases ez
  · split at ez
    · rename_i xs ys hl
      cases ez
      obtain ⟨p, us, ep, sp, rs1⟩ := opd_list h1 rel t1 e1
      obtain ⟨q, vs, eq, sq, rs2⟩ := opd_list h2 rel t2 e2
      refine .inr ⟨p, q, us, vs, ep, eq, sp, sq, by rw [rs1.length, rs2.length]; exact hl, fun p' np => ?_⟩
      exact fin_lst (b := k) (k := .v k) rfl post rel e (rs1.append rs2) np
    · cases ez
  · cases ez
/-- list + list, owned -/
def dCat : D → D → Option D
  | .list xs, .list ys => if xs.length + ys.length ≤ sizeLine then some (.list (xs ++ ys)) else none
  | _, _ => none
theorem fe_cat {k : Bool} {kd : Kind} (ha : FV X W κ ma a fa) (hb : FV X W κ mb b fb) (hd : newL k kd := by rfl) (h1 : itB k κ ma := by rfl) (h2 : itB k κ mb := by rfl) : FV X W κ (.t kd) (.BinOp a .Add b pos) (f2 ma mb dCat fa fb) := by
  refine (pe_op (op_cat (X := X)) ha hb).imp fun _ _ _ h => ev_2 (fun ρ w w2 x y dx dy vx vy z rel e t1 t2 e1 e2 ez post => ?_) h
  unfold dCat at ez
  split at ez
  · split at ez
    · rename_i xs ys hl
      cases ez
      obtain ⟨p, us, ep, sp, rs1⟩ := opd_list h1 rel t1 e1
      obtain ⟨q, vs, eq, sq, rs2⟩ := opd_list h2 rel t2 e2
      exact ⟨p, q, us, vs, ep, eq, sp, sq, by rw [rs1.length, rs2.length]; exact hl, fun p' np => fin_lst (b := k) hd post rel e (rs1.append rs2) np⟩
    · cases ez
  · cases ez
/-! ### subscripts -/
def scrK : Option Kind → Prop
  | some .scr => True
  | some (.fix _ .scr) => True
  | _ => False
theorem scr_at {K : PySem.W.Frag} {F H : Hp} {κ : List Kind} {ρ : Env} {σ : L2.St} {fp : FpS} {i : Nat} {d : D} (h : Slots K F H κ ρ σ fp) (e : ρ[i]? = some (some d)) (hk : scrK κ[i]?) : ∃ v f, σ[i]? = some (some v) ∧ OD K F H .scr v d f := by
  unfold scrK at hk
  split at hk
  · rename_i q
    obtain ⟨v, f, e1, o, _⟩ := h.get e q
    exact ⟨v, f, e1, o⟩
  · rename_i u q
    obtain ⟨v, f, e1, o, _⟩ := h.get e q
    exact ⟨v, f, e1, o⟩
  · exact hk.elim
def dIx : D → D → Option D
  | .list ds, .int i => atI ds i
  | .tuple ds, .int i => atI ds i
  | .str z, .int i => if z.length ≤ sizeLine then (atI z.cps.toList i).map fun c => .str ⟨#[c]⟩ else none
  | _, _ => none
theorem rds_at {K : PySem.W.Frag} {k : Bool} {F : Hp} {xs : List V} {ds : List D} {i : Int} {d : D} (r : RDs k K F xs ds) (h : atI ds i = some d) : ∃ v, atI xs i = some v ∧ RD k K F v d := by
  unfold atI at h ⊢
  rw [r.length]
  cases q : ixN ds.length i with
  | none =>
    rw [q] at h
    cases h
  | some j =>
    rw [q] at h
    exact r.get h
theorem fe_ix {k : Bool} (ha : FV X W κ ma a fa) (hb : FV X W κ mb b fb) (hs : PlainIx b := by exact fun _ _ => rfl) (h1 : itB k κ ma := by rfl) : FV X W κ (.t (.v k)) (.Subscript a b pos) (f2 ma mb dIx fa fb) := by
  refine (pe_ix ix_seq ha hb hs).imp fun _ _ _ h => ev_2 (fun ρ w w2 x y dx dy vx vy z rel e t1 t2 e1 e2 ez post => ?_) h
  unfold dIx at ez
  split at ez
  · obtain ⟨p, us, ep, sp, rs1⟩ := opd_list h1 rel t1 e1
    obtain ⟨v, ev, rv⟩ := rds_at rs1 ez
    exact .inl ⟨p, us, _, v, ep, dp_int (rd_dp rel t2 e2), SqL.of sp, ev, fin_imm post rel e rv⟩
  · obtain ⟨p, us, ep, sp, r1, rs1⟩ := opd_tup h1 rel t1 e1
    obtain ⟨v, ev, rv⟩ := rds_at rs1 ez
    exact .inr (.inl ⟨p, us, _, v, ep, dp_int (rd_dp rel t2 e2), sp, ev, fin_imm post rel e rv⟩)
  · split at ez
    · rename_i hl
      cases q : atI (Array.toList _) _ with
      | none =>
        rw [q] at ez
        cases ez
      | some ch =>
        rw [q] at ez
        cases ez
        exact .inr (.inr ⟨_, _, ch, dp_str (rd_dp rel t1 e1), dp_int (rd_dp rel t2 e2), hl, q, fin_imm post rel e (.str _)⟩)
    · cases ez
  · cases ez
/-- the script's items -/
theorem fe_ixS {k : Bool} {i : Nat} (ha : FV X W κ (.r i) a fa) (hb : FV X W κ mb b fb) (hs : PlainIx b := by exact fun _ _ => rfl) (h1 : scrK κ[i]? := by exact True.intro) : FV X W κ (.t (.v k)) (.Subscript a b pos) (f2 (.r i) mb dIx fa fb) := by
  refine (pe_ix ix_list ha hb hs).imp fun _ _ _ h => ev_2 (fun ρ w w2 x y dx dy vx vy z rel e t1 t2 e1 e2 ez post => ?_) h
  obtain ⟨v', f, ev, o⟩ := scr_at rel.slots (rd_r e1).1 h1
  rw [show _ = some (some vx) from t1] at ev
  cases ev
  obtain ⟨p, ns, rfl, rfl, hl⟩ := o
  unfold dIx at ez
  split at ez
  · rename_i ds j ed
    cases ed
    obtain ⟨v, ev, rv⟩ := rds_at (RDs.ints (b := k) (K := (ctx X W).K) (F := w2.F) ns) ez
    exact ⟨p, _, _, v, rfl, dp_int (rd_dp rel t2 e2), rel.same.seq hl, ev, fin_imm post rel e rv⟩
  · rename_i ed
    cases ed
  · rename_i ed
    cases ed
  · cases ez
/-! ### slices -/
def cutD (ds : List D) (lo hi : Option Int) : List D := (ds.drop (HT.sIx ds.length 0 lo)).take (HT.sIx ds.length ds.length hi - HT.sIx ds.length 0 lo)
theorem rds_cut {K : PySem.W.Frag} {k : Bool} {F : Hp} {xs : List V} {ds : List D} (lo hi : Option Int) (r : RDs k K F xs ds) : RDs k K F (cutV xs lo hi) (cutD ds lo hi) := by
  unfold cutV cutD
  rw [r.length]
  exact (r.drop _).take _
theorem cut_whole {ds : List D} {lo hi : Option Int} (h1 : HT.sIx ds.length 0 lo = 0) (h2 : HT.sIx ds.length ds.length hi = ds.length) : cutD ds lo hi = ds := by
  unfold cutD
  rw [h1, h2, List.drop_zero, Nat.sub_zero, List.take_length]
def PostO (c : Ct) (κ : List Kind) (σ : L2.St) (w : Wd) (Q : Option Int → Hp → Prop) : Option (Out (Option Int)) → Prop
  | some (.ok o ρ) => ∀ w', Rel c.K κ ρ σ w' → Ext w w' → Q o w'.H
  | some (.err n d ρ) => ErrOk c κ σ w n d ρ
  | none => False
def tO (c : Ct) (κ : List Kind) (f : M (Option Int)) : TO := fun σ H Q => ∃ ρ w, w.H = H ∧ Rel c.K κ ρ σ w ∧ PostO c κ σ w Q (f ρ)
def FO (X : Cx) (W : WX) (κ : List Kind) (e : Option Expr) (f : M (Option Int)) : Prop := PO X e (tO (ctx X W) κ f)
theorem _root_.L2.PO.imp {X : Cx} {e : Option Expr} {t t' : TO} (h : PO X e t) (i : ∀ σ H Q, t' σ H Q → t σ H Q) : PO X e t' := ⟨fun pins s σ H Q I q => h.run pins s σ H Q I (i σ H Q q)⟩
theorem seqO {c : Ct} {σ : L2.St} {w1 : Wd} {β : Type} {fa : M (Option Int)} {ρ : Env} {P : Option β → Prop} {e : Str → D → Env → β} {g : Option Int → Env → Option β} {R : Option Int → Hp → Prop} (rel : Rel c.K κ ρ σ w1) (h : P (bnd (fa ρ) e g)) (hN : ¬ P none) (hE : ∀ n d ρ', P (some (e n d ρ')) → ErrOk c κ σ w1 n d ρ')
    (hR : ∀ b ρ2 w2, Rel c.K κ ρ2 σ w2 → Ext w1 w2 → P (g b ρ2) → R b w2.H) : tO c κ fa σ w1.H R := by
  refine ⟨ρ, w1, rfl, rel, ?_⟩
  cases q : fa ρ with
  | none =>
    rw [q] at h
    exact hN h
  | some o =>
    rw [q] at h
    cases o with
    | ok d ρ2 => exact fun w2 r2 e2 => hR d ρ2 w2 r2 e2 h
    | err n d ρ2 => exact hE n d ρ2 h
def oNone : M (Option Int) := fun ρ => some (.ok none ρ)
def oSome (fa : M D) : M (Option Int) := fun ρ => bdo (fa ρ) fun x ρ1 => match x with
  | .int i => some (.ok (some i) ρ1)
  | _ => none
theorem fo_none : FO X W κ none oNone := po_none.imp fun σ H Q h => by
  obtain ⟨ρ, w, rfl, rel, post⟩ := h
  exact post w rel (Ext.refl _)
theorem fo_some {k : Bool} (ha : FV X W κ (.t (.v k)) a fa) : FO X W κ (some a) (oSome fa) := (po_some ha).imp fun σ H Q h => by
  obtain ⟨ρ, w, rfl, rel, post⟩ := h
  refine seqV (P := PostO (ctx X W) κ σ w Q) rel post (fun z => z) (fun n d ρ' z => z) fun dx ρ1 vx w1 rel1 e1 t1 post1 => ?_
  split at post1
  · exact ⟨_, dp_int (Temp.rd t1).dp, post1 w1 rel1 e1⟩
  · exact post1.elim
/-- a[lo:hi] -/
def dCut : D → Option Int → Option Int → Option D
  | .tuple ds, lo, hi => some (.tuple (cutD ds lo hi))
  | .list ds, lo, hi => some (.list (cutD ds lo hi))
  | .str z, lo, hi => if z.length ≤ sizeLine then some (.str (cutS z lo hi)) else none
  | _, _, _ => none
def f3 (m : Md) (fa : M D) (fl fh : M (Option Int)) : M D := fun ρ => bdo (fa ρ) fun x ρ1 => bdo (fl ρ1) fun lo ρ2 => bdo (fh ρ2) fun hi ρ3 => match rd m x ρ3 with
  | some x => (dCut x lo hi).map fun z => .ok z ρ3
  | none => none
theorem ev_3 {c : Ct} {k : Kind} {r : V → Option Int → Option Int → Hp → VK → Prop} {fl fh : M (Option Int)} {σ : L2.St} {H : Hp} {Q : VK}
    (hr : ∀ ρ w w1 x dx vx lo hi z, Rel c.K κ ρ σ w1 → Ext w w1 → TempM c.K m σ w w1 dx vx → rd m dx ρ = some x → dCut x lo hi = some z → PostV c κ σ (.t k) w Q (some (.ok z ρ)) → r vx lo hi w1.H Q)
    (h : tV c κ (.t k) (f3 m fa fl fh) σ H Q) : tSl r (tV c κ m fa) (tO c κ fl) (tO c κ fh) σ H Q := by
  obtain ⟨ρ, w, rfl, rel, post⟩ := h
  refine seqV (P := PostV c κ σ (.t k) w Q) rel post (fun z => z) (fun n d ρ' z => z) fun dx ρ1 vx w1 rel1 e1 t1 post1 => ?_
  refine seqO (P := PostV c κ σ (.t k) w Q) rel1 post1 (fun z => z) (fun n d ρ' z => ErrOk.since z e1) fun lo ρ2 w2 rel2 e2 post2 => ?_
  refine seqO (P := PostV c κ σ (.t k) w Q) rel2 post2 (fun z => z) (fun n d ρ' z => ErrOk.since z (e1.trans e2)) fun hi ρ3 w3 rel3 e3 post3 => ?_
  split at post3
  · rename_i x ex
    cases ez : dCut x lo hi with
    | none =>
      rw [ez] at post3
      exact post3.elim
    | some z =>
      rw [ez] at post3
      exact hr ρ3 w w3 x dx vx lo hi z rel3 (e1.trans (e2.trans e3)) (t1.keep (e2.trans e3)) ex ez post3
  · exact post3.elim
theorem fe_sl {k : Bool} {fl fh : M (Option Int)} {lo hi : Option Expr} {p2 : Pos} (ha : FV X W κ m a fa) (hl : FO X W κ lo fl) (hh : FO X W κ hi fh) (h1 : itB k κ m := by rfl) : FV X W κ (.t (.v k)) (.Subscript a (.Slice lo hi none p2) pos) (f3 m fa fl fh) := by
  refine (pe_slice ((sl_tupA (X := X)).or (sl_list.or sl_str)) ha hl hh).imp fun _ _ _ h => ev_3 (fun ρ w w2 x dx vx lo hi z rel e t1 e1 ez post => ?_) h
  unfold dCut at ez
  split at ez
  · cases ez
    obtain ⟨p, us, ep, sp, r1, rs1⟩ := opd_tup h1 rel t1 e1
    refine .inl ⟨p, us, ep, sp, fun ⟨z1, z2⟩ => ?_, fun _ p' np => fin_tup post rel e (rds_cut lo hi rs1) np⟩
    rw [rs1.length] at z1 z2
    rw [cut_whole z1 z2] at post
    rw [← ep]
    exact fin_imm post rel e r1
  · cases ez
    obtain ⟨p, us, ep, sp, rs1⟩ := opd_list h1 rel t1 e1
    exact .inr (.inl ⟨p, us, ep, SqL.of sp, fun p' np => fin_lst (b := k) (k := .v k) rfl post rel e (rds_cut lo hi rs1) np⟩)
  · split at ez
    · rename_i hl
      cases ez
      exact .inr (.inr ⟨_, dp_str (rd_dp rel t1 e1), hl, fin_imm post rel e (.str _)⟩)
    · cases ez
  · cases ez
/-- a slice of the script -/
theorem fe_slS {k : Bool} {i : Nat} {fl fh : M (Option Int)} {lo hi : Option Expr} {p2 : Pos} (ha : FV X W κ (.r i) a fa) (hl : FO X W κ lo fl) (hh : FO X W κ hi fh) (h1 : scrK κ[i]? := by exact True.intro) : FV X W κ (.t (.v k)) (.Subscript a (.Slice lo hi none p2) pos) (f3 (.r i) fa fl fh) := by
  refine (pe_slice (sl_list (X := X)) ha hl hh).imp fun _ _ _ h => ev_3 (fun ρ w w2 x dx vx lo hi z rel e t1 e1 ez post => ?_) h
  obtain ⟨v', f, ev, o⟩ := scr_at rel.slots (rd_r e1).1 h1
  rw [show _ = some (some vx) from t1] at ev
  cases ev
  obtain ⟨p, ns, rfl, rfl, hl⟩ := o
  cases ez
  exact ⟨p, _, rfl, rel.same.seq hl, fun p' np => fin_lst (b := k) (k := .v k) rfl post rel e (rds_cut lo hi (RDs.ints ns)) np⟩
/-! ### calls of built-ins: one argument, two -/
theorem ev_c1 {c : Ct} {k : Kind} {op : D → Option D} {r : List V → Hp → VK → Prop} {σ : L2.St} {H : Hp} {Q : VK}
    (hr : ∀ ρ w w1 x dx vx z, Rel c.K κ ρ σ w1 → Ext w w1 → TempM c.K m σ w w1 dx vx → rd m dx ρ = some x → op x = some z → PostV c κ σ (.t k) w Q (some (.ok z ρ)) → r [vx] w1.H Q)
    (h : tV c κ (.t k) (f1 m op fa) σ H Q) : tCB r (tCons (tV c κ m fa) tNil) σ H Q := ev_1 (r := fun x H Q => r [x] H Q) hr h
theorem ev_c2 {c : Ct} {k : Kind} {op : D → D → Option D} {r : List V → Hp → VK → Prop} {σ : L2.St} {H : Hp} {Q : VK}
    (hr : ∀ ρ w w2 x y dx dy vx vy z, Rel c.K κ ρ σ w2 → Ext w w2 → TempM c.K ma σ w w2 dx vx → TempM c.K mb σ w w2 dy vy → rd ma dx ρ = some x → rd mb dy ρ = some y → op x y = some z → PostV c κ σ (.t k) w Q (some (.ok z ρ)) → r [vx, vy] w2.H Q)
    (h : tV c κ (.t k) (f2 ma mb op fa fb) σ H Q) : tCB r (tCons (tV c κ ma fa) (tCons (tV c κ mb fb) tNil)) σ H Q := ev_2 (r := fun x y H Q => r [x, y] H Q) hr h
/-- len -/
def dLen : D → Option D
  | .str x => if x.length ≤ sizeLine then some (.int x.length) else none
  | .list xs => some (.int xs.length)
  | .tuple xs => some (.int xs.length)
  | _ => none
theorem lenV_of {K : PySem.W.Frag} {H : Hp} {v : V} {d : D} {z : D} (h : Dp K H v d) (e : dLen d = some z) : ∃ n : Nat, z = .int n ∧ LenV K v H n := by
  cases h with
  | non => cases e
  | bl => cases e
  | int => cases e
  | str x =>
    have e' : (if x.length ≤ sizeLine then some (PyData.int x.length) else none) = some z := e
    split at e'
    · rename_i hl
      cases e'
      exact ⟨_, rfl, hl, rfl⟩
    · cases e'
  | lst h t =>
    cases e
    exact ⟨_, rfl, .inl ⟨_, h, (DpAll.length t).symm⟩⟩
  | tup h t =>
    cases e
    exact ⟨_, rfl, .inr ⟨_, h, (DpAll.length t).symm⟩⟩
theorem fe_len {k : Bool} {p : Pos} (hg : Gl X "len") (hm : X.mg "len" = none) (ha : FV X W κ m a fa) (hst : starEach (a :: []) X.env = (false, eval a X.env) :: starEach [] X.env := by rfl) : FV X W κ (.t (.v k)) (.Call (.Name "len" p) [a] [] pos) (f1 m dLen fa) :=
  (pe_callB call_len hg hm PySem.boot_len (pa_cons ha pa_nil hst) (by decide) (by decide) hst).imp fun _ _ _ h => ev_c1 (fun ρ w w1 x dx vx z rel e t ex ez post => by
    obtain ⟨n, rfl, hl⟩ := lenV_of (rd_dp rel t ex) ez
    exact ⟨vx, n, rfl, hl, fin_imm post rel e (.int _)⟩) h
end
end FN
set_option Elab.async false
set_option linter.all false
set_option maxRecDepth 100000
set_option maxHeartbeats 4000000
/-! FN5: defs by their mirrors; calls; statements. -/
namespace FN
open PySem PySem.Spec PyProof.Rows L2
/-! ### a def's promise by its mirror -/
/-- g: from the parameters' data (and what is left of the changed ones) to the answer -/
def spF (K : PySem.W.Frag) (mg : Str → Option Value) (ks : List Kind) (kr : Kind) (g : M D) : Sp := fun vs H Q E => ∃ ρ w, w.H = H ∧ Rel K ks ρ (vs.map some) w ∧ (match g ρ with
  | some (.ok d ρ') => ∀ v w', Rel K ks ρ' (vs.map some) w' → Ext w w' → Temp K kr w w' d v → Q v w'.H
  | some (.err n d _) => ∀ cls dx w', Same w'.F w'.H → Ext w w' → ErrAt ⟨K, mg, fun _ _ _ _ => False⟩ n d cls dx w' → E cls (some dx) w'.H
  | none => False)
/-- where g gives no error -/
def noErr (g : M D) : M D := fun ρ => match g ρ with
  | some (.ok d ρ') => some (.ok d ρ')
  | _ => none
theorem noErr_ne {g : M D} {ρ : Env} {n : Str} {d : D} {ρ' : Env} : noErr g ρ ≠ some (.err n d ρ') := by
  unfold noErr
  split
  · intro z; cases z
  · intro z; cases z
theorem spF_len {K : PySem.W.Frag} {mg : Str → Option Value} {ks : List Kind} {kr : Kind} {g : M D} {vs : List V} {H : Hp} {Q : VK} {E : XK} (h : spF K mg ks kr g vs H Q E) : vs.length = ks.length := by
  obtain ⟨ρ, w, _, rel, _⟩ := h
  have l := rel.slots.lengths
  rw [List.length_map] at l
  exact l.1.symm
/-! ### arguments into a def and back -/
/-- what goes into the def, what is left at the caller -/
def fill : List Md → List D → Env → Option (Env × Env)
  | [], [], ρ => some ([], ρ)
  | .t _ :: ms, d :: ds, ρ => (fill ms ds ρ).map fun p => (some d :: p.1, p.2)
  | .r i :: ms, _ :: ds, ρ => match ρ[i]? with
    | some (some d) => (fill ms ds (ρ.set i none)).map fun p => (some d :: p.1, p.2)
    | _ => none
  | _, _, _ => none
def back : List Md → Env → Env → Env
  | .r i :: ms, o :: os, ρ => back ms os (ρ.set i o)
  | .t _ :: ms, _ :: os, ρ => back ms os ρ
  | _, _, ρ => ρ
/-- the def's kinds fit what is handed in -/
inductive Fits (κ : List Kind) : List Md → List Kind → Prop
  | nil : Fits κ [] []
  | t {k : Kind} {ms : List Md} {ks : List Kind} : (∀ u k', k ≠ .fix u k') → Fits κ ms ks → Fits κ (.t k :: ms) (k :: ks)
  | r {i : Nat} {k : Kind} {ms : List Md} {ks : List Kind} : (κ[i]? = some k ∧ (∀ u k', k ≠ .fix u k')) ∨ (∃ u, κ[i]? = some (.fix u k) ∧ ∀ u' k', k ≠ .fix u' k') → Fits κ ms ks → Fits κ (.r i :: ms) (k :: ks)
theorem Fits.nofix {κ : List Kind} {ms : List Md} {ks : List Kind} (h : Fits κ ms ks) : ∀ (i : Nat) (u : V) (k : Kind), ks[i]? ≠ some (.fix u k) := by
  induction h with
  | nil => intro i u k z; simp at z
  | t n _ ih =>
    intro i u k z
    cases i with
    | zero =>
      simp only [List.getElem?_cons_zero, Option.some.injEq] at z
      exact n u k z
    | succ i => exact ih i u k (by simpa using z)
  | r hk _ ih =>
    intro i u k z
    cases i with
    | zero =>
      simp only [List.getElem?_cons_zero, Option.some.injEq] at z
      rcases hk with ⟨_, n⟩ | ⟨_, _, n⟩
      · exact n u k z
      · exact n u k z
    | succ i => exact ih i u k (by simpa using z)
section
variable {K : PySem.W.Frag} {σ : L2.St} {F H : Hp} {κ : List Kind}
theorem fill_ok : ∀ {ms : List Md} {ks : List Kind} {ds : List D} {vs : List V} {ρ ρc ρr : Env} {g fp : FpS}, Fits κ ms ks → ArgsR K σ F H ms ds vs g → Slots K F H κ ρ σ fp → (∀ a, g a → ¬ fp a) → fill ms ds ρ = some (ρc, ρr) →
    ∃ gc fr, Slots K F H ks ρc (vs.map some) gc ∧ Slots K F H κ ρr σ fr ∧ (∀ a, gc a → ¬ fr a) ∧ (∀ a, gc a → g a ∨ fp a) ∧ (∀ a, fr a → fp a) ∧ (∀ (p : Nat) (i : Nat), ms[p]? = some (.r i) → ∃ v, vs[p]? = some v ∧ σ[i]? = some (some v)) ∧ ρr.length = ρ.length
  | [], _, _, _, _, _, _, _, fp, .nil, .nil, s, dj, e => by
    cases e
    exact ⟨fun _ => False, fp, .nil, s, fun _ z => z.elim, fun _ z => z.elim, fun _ z => z, fun p i z => by simp at z, rfl⟩
  | .t k :: ms, _, _, _, ρ, ρc, ρr, g, fp, .t _ ft, .t (f := f) (g := g1) o ar d1 h1 h2, s, dj, e => by
    unfold fill at e
    cases q : fill ms _ ρ with
    | none =>
      rw [q] at e
      cases e
    | some p =>
      rw [q] at e
      cases e
      obtain ⟨gc, fr, s1, s2, x1, x2, x3, x4, x5⟩ := fill_ok ft ar s (fun a z => dj a (h2 a z)) q
      refine ⟨fun a => f a ∨ gc a, fr, .cons o s1 (fun a z y => ?_) (fun a z => .inl z) (fun a z => .inr z), s2, fun a z y => ?_, fun a z => ?_, x3, fun p i z => ?_, x5⟩
      · rcases x2 a y with y | y
        · exact d1 a z y
        · exact dj a (h1 a z) y
      · rcases z with z | z
        · exact dj a (h1 a z) (x3 a y)
        · exact x1 a z y
      · rcases z with z | z
        · exact .inl (h1 a z)
        · rcases x2 a z with y | y
          · exact .inl (h2 a y)
          · exact .inr y
      · cases p with
        | zero => simp at z
        | succ p => simpa using x4 p i (by simpa using z)
  | .r i :: ms, _, _, _, ρ, ρc, ρr, g, fp, .r (k := kk) hk ft, .r (v := v0) e1 ar, s, dj, e => by
    unfold fill at e
    split at e
    · rename_i dd ed
      cases q : fill ms _ (ρ.set i none) with
      | none =>
        rw [q] at e
        cases e
      | some p =>
        rw [q] at e
        cases e
        have hk' : ∃ k0, κ[i]? = some k0 := by
          rcases hk with ⟨z, _⟩ | ⟨u, z, _⟩
          · exact ⟨_, z⟩
          · exact ⟨_, z⟩
        obtain ⟨k0, ek⟩ := hk'
        obtain ⟨v, f, g0, ev, o, s0, y1, y2, y3⟩ := s.out ed ek
        have ev2 : v = v0 := by
          rw [e1] at ev
          exact (Option.some.inj (Option.some.inj ev)).symm
        subst ev2
        have o' : OD K F H kk v dd f := by
          rcases hk with ⟨z, _⟩ | ⟨u, z, _⟩
          · rw [ek] at z
            cases z
            exact o
          · rw [ek] at z
            cases z
            exact o
        obtain ⟨gc, fr, s1, s2, x1, x2, x3, x4, x5⟩ := fill_ok ft ar s0 (fun a z y => dj a z (y3 a y)) q
        refine ⟨fun a => f a ∨ gc a, fr, .cons o' s1 (fun a z y => ?_) (fun a z => .inl z) (fun a z => .inr z), s2, fun a z y => ?_, fun a z => ?_, fun a z => y3 a (x3 a z), fun p j z => ?_, by rw [x5, List.length_set]⟩
        · rcases x2 a y with y | y
          · exact dj a y (y2 a z)
          · exact y1 a z y
        · rcases z with z | z
          · exact y1 a z (x3 a y)
          · exact x1 a z y
        · rcases z with z | z
          · exact .inr (y2 a z)
          · rcases x2 a z with y | y
            · exact .inl y
            · exact .inr (y3 a y)
        · cases p with
          | zero =>
            simp only [List.getElem?_cons_zero, Option.some.injEq, Md.r.injEq] at z
            subst z
            exact ⟨v, rfl, e1⟩
          | succ p => simpa using x4 p j (by simpa using z)
    · cases e
theorem set_same {α : Type} : ∀ {l : List α} {i : Nat} {a : α}, l[i]? = some a → l.set i a = l
  | [], _, _, _ => rfl
  | _ :: _, 0, _, h => by
    rw [List.getElem?_cons_zero] at h
    cases h
    rfl
  | _ :: r, i + 1, _, h => by
    rw [List.getElem?_cons_succ] at h
    rw [List.set_cons_succ, set_same h]
theorem back_ok : ∀ {ms : List Md} {ks : List Kind} {vs : List V} {ρo ρr : Env} {g fp : FpS}, Fits κ ms ks → (∀ (p : Nat) (i : Nat), ms[p]? = some (.r i) → ∃ v, vs[p]? = some v ∧ σ[i]? = some (some v)) → Slots K F H ks ρo (vs.map some) g → Slots K F H κ ρr σ fp → (∀ a, g a → ¬ fp a) →
    ∃ fp', Slots K F H κ (back ms ρo ρr) σ fp' ∧ ∀ a, fp' a → g a ∨ fp a
  | [], _, _, ρo, ρr, g, fp, _, _, _, s, _ => ⟨fp, by unfold back; exact s, fun a z => .inr z⟩
  | .t k :: ms, _, [], _, _, _, _, .t _ ft, _, s1, _, _ => by cases s1
  | .r i :: ms, _, [], _, _, _, _, .r hk ft, _, s1, _, _ => by cases s1
  | .t k :: ms, _, v :: vs, _, ρr, g, fp, .t _ ft, hv, s1, s2, dj => by
    have hv' : ∀ (p : Nat) (i : Nat), ms[p]? = some (.r i) → ∃ v, vs[p]? = some v ∧ σ[i]? = some (some v) := fun p i z => by simpa using hv (p + 1) i (by simpa using z)
    cases s1 with
    | skip s =>
      obtain ⟨fp', a1, a2⟩ := back_ok ft hv' s s2 dj
      exact ⟨fp', by unfold back; exact a1, a2⟩
    | cons o s d1 h1 h2 =>
      obtain ⟨fp', a1, a2⟩ := back_ok ft hv' s s2 (fun a z => dj a (h2 a z))
      exact ⟨fp', by unfold back; exact a1, fun a z => (a2 a z).elim (fun y => .inl (h2 a y)) .inr⟩
  | .r i :: ms, _, v :: vs, _, ρr, g, fp, .r hk ft, hv, s1, s2, dj => by
    have hv' : ∀ (p : Nat) (i : Nat), ms[p]? = some (.r i) → ∃ v, vs[p]? = some v ∧ σ[i]? = some (some v) := fun p i z => by simpa using hv (p + 1) i (by simpa using z)
    obtain ⟨v', ev, es⟩ := hv 0 i rfl
    simp only [List.getElem?_cons_zero, Option.some.injEq] at ev
    subst ev
    have hi : i < σ.length := (List.getElem?_eq_some_iff.mp es).1
    cases s1 with
    | skip s =>
      obtain ⟨fp', a1, a2⟩ := back_ok (ρr := ρr.set i none) ft hv' s (s2.drop i) dj
      exact ⟨fp', by unfold back; exact a1, a2⟩
    | @cons _ _ d _ _ _ f g1 _ o s d1 h1 h2 =>
      have hk' : ∃ k0, κ[i]? = some k0 ∧ OD K F H k0 v d f := by
        rcases hk with ⟨z, _⟩ | ⟨u, z, _⟩
        · exact ⟨_, z, o⟩
        · exact ⟨_, z, o⟩
      obtain ⟨k0, ek, o'⟩ := hk'
      have p := s2.put hi o' (fun a z => dj a (h1 a z))
      rw [set_same ek, set_same es] at p
      obtain ⟨fp', a1, a2⟩ := back_ok ft hv' s p (fun a z y => y.elim (fun y => d1 a y z) (dj a (h2 a z)))
      exact ⟨fp', by unfold back; exact a1, fun a z => (a2 a z).elim (fun y => .inl (h2 a y)) fun y => y.elim (fun q => .inl (h1 a q)) .inr⟩
end
theorem frame_slots {K : PySem.W.Frag} {κ : List Kind} {ρ : Env} {σ : L2.St} {wc wc' : Wd} {fp : FpS} (e : Ext wc wc') (s : Slots K wc.F wc.H κ ρ σ fp) (n : ∀ a, fp a → ¬ wc.fp a) : Slots K wc'.F wc'.H κ ρ σ fp :=
  s.frame e.same fun a o z q => e.keep a o q (n a z)
/-! ### the call -/
def fCall (ms : List Md) (g : M D) (fs : M (List D)) : M D := fun ρ => bdo (fs ρ) fun ds ρ1 => match fill ms ds ρ1 with
  | some (ρc, ρr) => match g ρc with
    | some (.ok d ρo) => some (.ok d (back ms ρo ρr))
    | some (.err n d _) => some (.err n d ρr)
    | none => none
  | none => none
section
variable {X : Cx} {W : WX} {κ : List Kind} {pos p : Pos} {e : Expr} {es : List Expr} {fr : M (List D)} {ms : List Md} {ks : List Kind} {kr : Kind} {g : M D}
theorem ev_call {σ : L2.St} {H : Hp} {Q : VK} {E : XK} (hf : Fits κ ms ks) (hE : (∀ ρ n d ρ', g ρ ≠ some (.err n d ρ')) ∨ ∀ cls dx H, W cls dx σ H → E cls dx H) (h : tV (ctx X W) κ (.t kr) (fCall ms g fr) σ H Q) : tA (ctx X W) κ ms fr σ H (fun vs H1 => spF X.K X.mg ks kr g vs H1 Q E) := by
  obtain ⟨ρ, w, rfl, rel, post⟩ := h
  refine seqA (P := PostV (ctx X W) κ σ (.t kr) w Q) rel post (fun z => z) (fun n d ρ' z => z) fun ds ρ1 vs w1 rel1 e1 a1 post1 => ?_
  obtain ⟨ga, ar, ca⟩ := a1
  split at post1
  · rename_i ρc ρr ef
    obtain ⟨gc, fr', s1, s2, x1, x2, x3, x4, x5⟩ := fill_ok hf ar rel1.slots (fun a z => (ca a z).1) ef
    have gl : ∀ a, gc a → w1.F a = none ∧ w1.H a ≠ none := fun a z => (x2 a z).elim (fun y => ⟨(ca a y).2.1, (ca a y).2.2.1⟩) fun y => ⟨rel1.frz a y, rel1.live a y⟩
    have relc : Rel X.K ks ρc (vs.map some) ⟨w1.F, w1.H, gc⟩ := ⟨rel1.same, fun a z => (gl a z).1, fun a z => (gl a z).2, fun i u k z => absurd z (hf.nofix i u k), s1⟩
    · show spF X.K X.mg ks kr g vs w1.H Q E
      refine ⟨ρc, ⟨w1.F, w1.H, gc⟩, rfl, relc, ?_⟩
      have since : ∀ a, gc a → w.fp a ∨ w.H a = none := fun a z => (x2 a z).elim (fun y => (ca a y).2.2.2) fun y => e1.fp a y
      split at post1
      · rename_i d ρo eg
        intro v w' rel' ext' t'
        have ne' : ∀ a, w'.fp a → ¬ fr' a := fun a z y => by
          rcases ext'.fp a z with q | q
          · exact x1 a q y
          · exact rel1.live a (x3 a y) q
        have sr : Slots X.K w'.F w'.H κ ρr σ fr' := frame_slots ext' s2 fun a z y => x1 a y z
        obtain ⟨fp', s', hfp⟩ := back_ok hf x4 rel'.slots sr ne'
        obtain ⟨gt, ot, ct⟩ := t'
        have keepH : ∀ a, fr' a → w'.F a = none ∧ w'.H a ≠ none := fun a z => by
          have l := rel1.live a (x3 a z)
          cases q : w1.H a with
          | none => exact absurd q l
          | some o =>
            have nf : ¬ gc a := fun y => x1 a y z
            refine ⟨?_, by rw [ext'.keep a o q nf]; intro y; cases y⟩
            cases y : w'.F a with
            | none => rfl
            | some u =>
              rcases ext'.new a u y with r | r | r
              · rw [show w1.F a = none from rel1.frz a (x3 a z)] at r; cases r
              · exact absurd r nf
              · rw [show w1.H a = some o from q] at r; cases r
        have rel2 : Rel X.K κ (back ms ρo ρr) σ ⟨w'.F, w'.H, fp'⟩ := ⟨rel'.same, fun a z => (hfp a z).elim (rel'.frz a) fun y => (keepH a y).1, fun a z => (hfp a z).elim (rel'.live a) fun y => (keepH a y).2, rel1.fixed, s'⟩
        have toW : ∀ a, w1.fp a ∨ w1.H a = none → w.fp a ∨ w.H a = none := fun a z => by
          rcases z with z | z
          · exact e1.fp a z
          · cases q : w.H a with
            | none => exact .inr rfl
            | some o =>
              by_cases n : w.fp a
              · exact .inl n
              · rw [e1.keep a o q n] at z; cases z
        have ext2 : Ext w ⟨w'.F, w'.H, fp'⟩ := {
          same := e1.same.trans ext'.same
          new := fun a o q => by
            rcases ext'.new a o q with r | r | r
            · exact e1.new a o r
            · exact .inr (since a r)
            · exact .inr (toW a (.inr r))
          keep := fun a o q n => by
            have q1 := e1.keep a o q n
            refine ext'.keep a o q1 fun y => ?_
            rcases since a y with r | r
            · exact n r
            · rw [q] at r; cases r
          fp := fun a z => by
            rcases hfp a z with y | y
            · rcases ext'.fp a y with r | r
              · exact since a r
              · exact toW a (.inr r)
            · exact e1.fp a (x3 a y) }
        refine post1 v ⟨w'.F, w'.H, fp'⟩ rel2 ext2 ⟨gt, ot, fun a z => ?_⟩
        obtain ⟨c1, c2, c3, c4⟩ := ct a z
        refine ⟨fun y => ?_, c2, c3, ?_⟩
        · rcases hfp a y with q | q
          · exact c1 q
          · rcases c4 with r | r
            · exact x1 a r q
            · exact rel1.live a (x3 a q) r
        · rcases c4 with r | r
          · exact since a r
          · exact toW a (.inr r)
      · rename_i n d ρo eg
        intro cls dx w' sm' ext' ea
        have hE := hE.resolve_left fun z => z _ _ _ _ eg
        refine hE cls (some dx) w'.H ?_
        have sr : Slots X.K w'.F w'.H κ ρr σ fr' := frame_slots ext' s2 fun a z y => x1 a y z
        have keepH : ∀ a, fr' a → w'.F a = none ∧ w'.H a ≠ none := fun a z => by
          have l := rel1.live a (x3 a z)
          cases q : w1.H a with
          | none => exact absurd q l
          | some o =>
            have nf : ¬ gc a := fun y => x1 a y z
            refine ⟨?_, by rw [ext'.keep a o q nf]; intro y; cases y⟩
            cases y : w'.F a with
            | none => rfl
            | some u =>
              rcases ext'.new a u y with r | r | r
              · rw [show w1.F a = none from rel1.frz a (x3 a z)] at r; cases r
              · exact absurd r nf
              · rw [show w1.H a = some o from q] at r; cases r
        have toW : ∀ a, w1.fp a ∨ w1.H a = none → w.fp a ∨ w.H a = none := fun a z => by
          rcases z with z | z
          · exact e1.fp a z
          · cases q : w.H a with
            | none => exact .inr rfl
            | some o =>
              by_cases n : w.fp a
              · exact .inl n
              · rw [e1.keep a o q n] at z; cases z
        have ext2 : Ext w ⟨w'.F, w'.H, fr'⟩ := {
          same := e1.same.trans ext'.same
          new := fun a o q => by
            rcases ext'.new a o q with r | r | r
            · exact e1.new a o r
            · exact .inr (since a r)
            · exact .inr (toW a (.inr r))
          keep := fun a o q n => by
            have q1 := e1.keep a o q n
            refine ext'.keep a o q1 fun y => ?_
            rcases since a y with r | r
            · exact n r
            · rw [q] at r; cases r
          fp := fun a z => e1.fp a (x3 a z) }
        exact post1 cls dx ⟨w'.F, w'.H, fr'⟩ ⟨sm', fun a z => (keepH a z).1, fun a z => (keepH a z).2, rel1.fixed, sr⟩ ext2 ea
      · exact post1.elim
  · exact post1.elim
/-- f(e, ..), f raises nothing -/
theorem fe_call {k : Nat} {f : Addr} {fd : FuncData} {ps : List Str} {x : Str} (F : FnOk X.prog X.w X.K X.mg X.base CX0 k f fd ps (spF X.K X.mg ks kr (noErr g))) (hr : Room k X.A) (hg : Gl X x) (hm : X.mg x = some (.ref f)) (hk : PySem.W.keepIn X.K (.ref f) = true) (hb : Binds X.K fd ps [])
    (hf : Fits κ ms ks) (ha : FA X W κ ms (e :: es) fr) (hdb : (x == ("__debug__" : Str)) = false := by decide) (he : starEach (e :: es) X.env = (false, eval e X.env) :: starEach es X.env := by rfl) (hpl : (backTo pos (starEach es X.env)).any (·.1) = false := by rfl) :
    FV X W κ (.t kr) (.Call (.Name x p) (e :: es) [] pos) (fCall ms (noErr g) fr) := (pe_call F hr hg hm hk hb .nil pass0 ha hdb he hpl).imp fun σ H Q h => by
  have q := ev_call (E := E0) hf (.inl fun _ _ _ _ => noErr_ne) h
  unfold tCall
  simp only [List.append_nil]
  exact q
/-- f(e, ..), f may raise -/
theorem fe_callX {k : Nat} {f : Addr} {fd : FuncData} {ps : List Str} {x : Str} (F : FnOk X.prog X.w X.K X.mg X.base (L2.CX X.prog X.w) k f fd ps (spF X.K X.mg ks kr g)) (tk : Takes X W) (hr : Room k X.A) (hg : Gl X x) (hm : X.mg x = some (.ref f)) (hk : PySem.W.keepIn X.K (.ref f) = true) (hb : Binds X.K fd ps [])
    (hf : Fits κ ms ks) (ha : FA X W κ ms (e :: es) fr) (hdb : (x == ("__debug__" : Str)) = false := by decide) (he : starEach (e :: es) X.env = (false, eval e X.env) :: starEach es X.env := by rfl) (hpl : (backTo pos (starEach es X.env)).any (·.1) = false := by rfl) :
    FV X W κ (.t kr) (.Call (.Name x p) (e :: es) [] pos) (fCall ms g fr) := (pe_callS F hr hg hm hk hb (fun σ => passAt tk σ) ha hdb he hpl).imp fun σ H Q h => ev_call hf (.inr fun _ _ _ z => z) h
end
/-! ### statements -/
inductive Fl where
  | nx (ρ : Env)
  | ret (d : D) (ρ : Env)
  | bk (ρ : Env)
  | ct (ρ : Env)
  | err (c : Str) (d : D) (ρ : Env)
/-- the def around: its parameters' kinds, their values at the entry, the answer's kind; the kinds at a break or continue, at an error -/
structure FC where
  ks : List Kind
  vs : List V
  kr : Kind
  kl : List Kind
  ke : Option (List Kind)
/-- the changed parameters' ends -/
def keepK : Kind → Bool
  | .v _ => false
  | .fix _ _ => false
  | _ => true
def outs : List Kind → Env → Env
  | k :: ks, o :: ρ => (match keepK k with | true => o | false => none) :: outs ks ρ
  | _, _ => []
inductive RetK : List Kind → List V → List Kind → Prop
  | nil {κ : List Kind} : RetK [] [] κ
  | own {k : Kind} {v : V} {ks : List Kind} {vs : List V} {κ : List Kind} : keepK k = true → RetK ks vs κ → RetK (k :: ks) (v :: vs) (.fix v k :: κ)
  | oth {k k' : Kind} {v : V} {ks : List Kind} {vs : List V} {κ : List Kind} : keepK k = false → RetK ks vs κ → RetK (k :: ks) (v :: vs) (k' :: κ)
theorem ret_slots {K : PySem.W.Frag} {F H : Hp} : ∀ {ks : List Kind} {vs : List V} {κ : List Kind} {ρ : Env} {σ : L2.St} {fp : FpS}, RetK ks vs κ → Slots K F H κ ρ σ fp → (∀ (i : Nat) (u : V) (k : Kind), κ[i]? = some (Kind.fix u k) → σ[i]? = some (some u)) → Slots K F H ks (outs ks ρ) (vs.map some) fp
  | [], [], _, _, _, _, .nil, _, _ => by
    unfold outs
    exact .nil
  | k :: ks, v :: vs, _ :: κ, _, _, fp, .own n r, s, hf => by
    have hf' : ∀ (i : Nat) (u : V) (k : Kind), κ[i]? = some (Kind.fix u k) → _ := fun i u k z => hf (i + 1) u k (by simpa using z)
    have e : ∀ (o : Option D) (ρ : Env), outs (k :: ks) (o :: ρ) = o :: outs ks ρ := fun o ρ => by
      show (match keepK k with | true => o | false => none) :: outs ks ρ = _
      rw [n]
    cases s with
    | skip s =>
      rw [e]
      exact .skip (ret_slots r s fun i u k z => by simpa using hf' i u k z)
    | cons o s d h1 h2 =>
      rw [e]
      have e := hf 0 v _ rfl
      simp only [List.getElem?_cons_zero, Option.some.injEq] at e
      subst e
      exact .cons o (ret_slots r s fun i u k z => by simpa using hf' i u k z) d h1 h2
  | k :: ks, v :: vs, k' :: κ, _, _, fp, .oth n r, s, hf => by
    have hf' : ∀ (i : Nat) (u : V) (k : Kind), κ[i]? = some (Kind.fix u k) → _ := fun i u k z => hf (i + 1) u k (by simpa using z)
    have e : ∀ (o : Option D) (ρ : Env), outs (k :: ks) (o :: ρ) = none :: outs ks ρ := fun o ρ => by
      show (match keepK k with | true => o | false => none) :: outs ks ρ = _
      rw [n]
    cases s with
    | skip s =>
      rw [e]
      exact .skip (ret_slots r s fun i u k z => by simpa using hf' i u k z)
    | cons o s d h1 h2 =>
      rw [e]
      exact .skip ((ret_slots r s fun i u k z => by simpa using hf' i u k z).mono h2)
def PostS (c : Ct) (C : FC) (κn : List Kind) (D' : Ends) (w : Wd) : Option Fl → Prop
  | some (.nx ρ) => ∀ σ' w', Rel c.K κn ρ σ' w' → Ext w w' → D'.nx σ' w'.H
  | some (.bk ρ) => ∀ σ' w', Rel c.K C.kl ρ σ' w' → Ext w w' → D'.bk σ' w'.H
  | some (.ct ρ) => ∀ σ' w', Rel c.K C.kl ρ σ' w' → Ext w w' → D'.ct σ' w'.H
  | some (.ret d ρ) => ∀ v w', Rel c.K C.ks (outs C.ks ρ) (C.vs.map some) w' → Ext w w' → Temp c.K C.kr w w' d v → D'.rt v w'.H
  | some (.err n d ρ) => ∀ cls dx σ' w', Same w'.F w'.H → (∀ κ, C.ke = some κ → Rel c.K κ ρ σ' w') → Ext w w' → ErrAt c n d cls dx w' → c.W cls (some dx) σ' w'.H
  | none => False
def tS (c : Ct) (C : FC) (κ κn : List Kind) (f : Env → Option Fl) : TS := fun D' σ H => ∃ ρ w, w.H = H ∧ Rel c.K κ ρ σ w ∧ PostS c C κn D' w (f ρ)
def FS (X : Cx) (W : WX) (C : FC) (κ κn : List Kind) (st : Stmt) (f : Env → Option Fl) : Prop := PS X st (tS (ctx X W) C κ κn f)
def FSs (X : Cx) (W : WX) (C : FC) (κ κn : List Kind) (st : List Stmt) (f : Env → Option Fl) : Prop := PSs X st (tS (ctx X W) C κ κn f)
/-- errors at the kinds κ are let -/
def EK (C : FC) (κ : List Kind) : Prop := C.ke = none ∨ C.ke = some κ
section
variable {c : Ct} {C : FC} {κ κn : List Kind} {D' : Ends} {w w1 : Wd}
theorem PostS.since {r : Option Fl} (h : PostS c C κn D' w r) (e : Ext w w1) : PostS c C κn D' w1 r := by
  cases r with
  | none => exact h
  | some o =>
    cases o with
    | nx ρ => exact fun σ' w' r x => h σ' w' r (e.trans x)
    | bk ρ => exact fun σ' w' r x => h σ' w' r (e.trans x)
    | ct ρ => exact fun σ' w' r x => h σ' w' r (e.trans x)
    | ret d ρ => exact fun v w' r x t => h v w' r (e.trans x) (t.since e)
    | err n d ρ => exact fun cls dx σ' w' s r x a => h cls dx σ' w' s r (e.trans x) a
theorem errS {σ : L2.St} {n : Str} {d : D} {ρ : Env} (he : EK C κ) (h : PostS c C κn D' w (some (.err n d ρ))) : ErrOk c κ σ w n d ρ := fun cls dx w' r x a => h cls dx σ w' r.same (fun κ' z => by
  rcases he with y | y
  · rw [y] at z; cases z
  · rw [y] at z; cases z; exact r) x a
end
def sSeq (f g : Env → Option Fl) : Env → Option Fl := fun ρ => match f ρ with
  | some (.nx ρ') => g ρ'
  | o => o
def sNx : Env → Option Fl := fun ρ => some (.nx ρ)
section
variable {X : Cx} {W : WX} {C : FC} {κ κ1 κn : List Kind} {st : Stmt} {rest : List Stmt} {f g : Env → Option Fl} {pos : Pos} {e : Expr} {fa : M D}
theorem fss_nil : FSs X W C κ κ [] sNx := pss_nil.imp fun D' σ H h => by
  obtain ⟨ρ, w, rfl, rel, post⟩ := h
  exact post σ w rel (Ext.refl _)
theorem fss_cons (h1 : FS X W C κ κ1 st f) (h2 : FSs X W C κ1 κn rest g) : FSs X W C κ κn (st :: rest) (sSeq f g) := (pss_cons h1 h2).imp fun D' σ H h => by
  obtain ⟨ρ, w, rfl, rel, post⟩ := h
  refine ⟨ρ, w, rfl, rel, ?_⟩
  unfold sSeq at post
  cases q : f ρ with
  | none =>
    rw [q] at post
    exact post
  | some o =>
    rw [q] at post
    cases o with
    | nx ρ1 => exact fun σ1 w1 r1 e1 => ⟨ρ1, w1, rfl, r1, PostS.since post e1⟩
    | bk ρ => exact post
    | ct ρ => exact post
    | ret d ρ => exact post
    | err n d ρ => exact post
theorem fss_one (h1 : FS X W C κ κn st f) : FSs X W C κ κn [st] f := pss_one h1
def sDrop (fa : M D) : Env → Option Fl := fun ρ => bnd (fa ρ) Fl.err fun _ ρ1 => some (.nx ρ1)
theorem fs_expr {m : Md} (ha : FV X W κ m e fa) (he : EK C κ := by first | exact .inl rfl | exact .inr rfl) (hs : swapsWith e none pos.line X.env = pure false := by rfl) : FS X W C κ κ (.Expr e pos) (sDrop fa) := (ps_expr ha hs).imp fun D' σ H h => by
  obtain ⟨ρ, w, rfl, rel, post⟩ := h
  exact seqV (P := PostS (ctx X W) C κ D' w) rel post (fun z => z) (fun n d ρ' z => errS he z) fun d ρ1 v w1 rel1 e1 t1 post1 => post1 σ w1 rel1 e1
/-- what comes into slot i -/
theorem rel_set {K : PySem.W.Frag} {k : Kind} {i : Nat} {d : D} {v : V} {ρ : Env} {σ : L2.St} {w w1 : Wd} (rel : Rel K κ ρ σ w1) (t : Temp K k w w1 d v) (hi : i < σ.length) (hk : ∀ u k', k ≠ .fix u k') :
    ∃ w2, w2.H = w1.H ∧ w2.F = w1.F ∧ Rel K (κ.set i k) (ρ.set i (some d)) (σ.set i (some v)) w2 ∧ (Ext w w1 → Ext w w2) := by
  obtain ⟨g, o, cg⟩ := t
  have s := (rel.slots.drop i).put (k := k) (d := d) (v := v) hi o (fun a z => (cg a z).1)
  rw [List.set_set] at s
  refine ⟨⟨w1.F, w1.H, fun a => g a ∨ w1.fp a⟩, rfl, rfl, ⟨rel.same, fun a z => z.elim (fun y => (cg a y).2.1) (rel.frz a), fun a z => z.elim (fun y => (cg a y).2.2.1) (rel.live a), fun j u k' z => ?_, s⟩, fun e => ⟨e.same, e.new, e.keep, fun a z => z.elim (fun y => (cg a y).2.2.2) (e.fp a)⟩⟩
  by_cases hj : j = i
  · subst hj
    have hl : j < κ.length := by rw [rel.slots.lengths.1]; exact hi
    rw [List.getElem?_set_self hl] at z
    cases z
    exact absurd rfl (hk _ _)
  · rw [List.getElem?_set_ne (Ne.symm hj)] at z
    rw [List.getElem?_set_ne (Ne.symm hj)]
    exact rel.fixed j u k' z
def sSet (i : Nat) (fa : M D) : Env → Option Fl := fun ρ => bnd (fa ρ) Fl.err fun d ρ1 => some (.nx (ρ1.set i (some d)))
def nofix : Kind → Prop
  | .fix _ _ => False
  | _ => True
theorem nofix_ne {k : Kind} (h : nofix k) : ∀ u k', k ≠ .fix u k' := fun u k' z => by
  subst z
  exact h
theorem fs_set {k : Kind} {i : Nat} {x : Str} {pos' : Pos} (ha : FV X W κ (.t k) e fa) (hN : X.N.Nodup) (hi : X.N[i]? = some x := by rfl) (hx : Loc X.env.scope x := by first | exact .inl rfl | exact .inr rfl) (hl : i < κ.length := by decide) (hk : nofix k := by trivial) (he : EK C κ := by first | exact .inl rfl | exact .inr rfl)
    (hs : swapsWith e (some (.Name x pos')) pos.line X.env = pure false := by rfl) (hf : X.fn x = true ∨ X.env.scope.names.lookup x = some .local := by first | exact .inl rfl | exact .inr rfl) : FS X W C κ (κ.set i k) (.Assign [.Name x pos'] e pos) (sSet i fa) := (ps_set hN hi hx ha hs hf).imp fun D' σ H h => by
  obtain ⟨ρ, w, rfl, rel, post⟩ := h
  refine seqV (P := PostS (ctx X W) C (κ.set i k) D' w) rel post (fun z => z) (fun n d ρ' z => errS he z) fun d ρ1 v w1 rel1 e1 t1 post1 => ?_
  obtain ⟨w2, eH, _, rel2, ex⟩ := rel_set rel1 t1 (by rw [← rel1.slots.lengths.1]; exact hl) (nofix_ne hk)
  show D'.nx (σ.set i (some v)) w1.H
  rw [← eH]
  exact post1 _ w2 rel2 (ex e1)
/-! ### return -/
theorem rel_ret {K : PySem.W.Frag} {ρ : Env} {σ : L2.St} {w : Wd} (hk : RetK C.ks C.vs κ) (rel : Rel K κ ρ σ w) (hn : ∀ (i : Nat) (u : V) (k : Kind), C.ks[i]? ≠ some (Kind.fix u k)) : Rel K C.ks (outs C.ks ρ) (C.vs.map some) w :=
  ⟨rel.same, rel.frz, rel.live, fun i u k z => absurd z (hn i u k), ret_slots hk rel.slots rel.fixed⟩
/-- the def's parameters' kinds have none that is fixed -/
def noFixs : List Kind → Prop
  | [] => True
  | k :: ks => nofix k ∧ noFixs ks
theorem noFixs_ne : ∀ {ks : List Kind}, noFixs ks → ∀ (i : Nat) (u : V) (k : Kind), ks[i]? ≠ some (Kind.fix u k)
  | [], _, i, u, k, z => by simp at z
  | k0 :: ks, ⟨h, r⟩, 0, u, k, z => by
    simp only [List.getElem?_cons_zero, Option.some.injEq] at z
    exact nofix_ne h u k z
  | k0 :: ks, ⟨h, r⟩, i + 1, u, k, z => noFixs_ne r i u k (by simpa using z)
def sRet (fa : M D) : Env → Option Fl := fun ρ => bnd (fa ρ) Fl.err fun d ρ1 => some (.ret d ρ1)
theorem fs_ret {k : Kind} {κn : List Kind} (ha : FV X W κ (.t k) e fa) (hr : RetK C.ks C.vs κ) (hn : noFixs C.ks := by repeat (first | exact True.intro | refine And.intro True.intro ?_)) (hk : C.kr = k := by rfl) (he : EK C κ := by first | exact .inl rfl | exact .inr rfl) : FS X W C κ κn (.Return (some e) pos) (sRet fa) := (ps_ret ha).imp fun D' σ H h => by
  subst hk
  obtain ⟨ρ, w, rfl, rel, post⟩ := h
  exact seqV (P := PostS (ctx X W) C κn D' w) rel post (fun z => z) (fun n d ρ' z => errS he z) fun d ρ1 v w1 rel1 e1 t1 post1 => post1 v w1 (rel_ret hr rel1 (noFixs_ne hn)) e1 t1
def sRetN : Env → Option Fl := fun ρ => some (.ret .none ρ)
theorem fs_retN {b : Bool} {κn : List Kind} (hr : RetK C.ks C.vs κ) (hn : noFixs C.ks := by repeat (first | exact True.intro | refine And.intro True.intro ?_)) (hk : C.kr = .v b := by rfl) : FS X W C κ κn (.Return none pos) sRetN := ps_retN.imp fun D' σ H h => by
  obtain ⟨ρ, w, rfl, rel, post⟩ := h
  refine post .non w (rel_ret hr rel (noFixs_ne hn)) (Ext.refl _) ?_
  rw [hk]
  exact Temp.imm .non
/-- return of the object in slot i, which goes out of the slot -/
def sRetR (i : Nat) : Env → Option Fl := fun ρ => match ρ[i]? with
  | some (some d) => some (.ret d (ρ.set i none))
  | _ => none
theorem fs_retR {i : Nat} {κn : List Kind} (ha : FV X W κ (.r i) e (fRef i)) (hki : κ[i]? = some C.kr := by rfl) (hr : RetK C.ks C.vs κ) (hn : noFixs C.ks := by repeat (first | exact True.intro | refine And.intro True.intro ?_)) : FS X W C κ κn (.Return (some e) pos) (sRetR i) := (ps_ret ha).imp fun D' σ H h => by
  obtain ⟨ρ, w, rfl, rel, post⟩ := h
  unfold sRetR at post
  split at post
  · rename_i d ed
    refine ⟨ρ, w, rfl, rel, ?_⟩
    unfold fRef
    rw [ed]
    intro v w1 rel1 e1 t1
    obtain ⟨v', f, g, ev, o, s, y1, y2, y3⟩ := rel1.slots.out ed hki
    rw [show σ[i]? = some (some v) from t1] at ev
    cases ev
    have rel2 : Rel X.K κ (ρ.set i none) σ ⟨w1.F, w1.H, g⟩ := ⟨rel1.same, fun a z => rel1.frz a (y3 a z), fun a z => rel1.live a (y3 a z), rel1.fixed, s⟩
    exact post v ⟨w1.F, w1.H, g⟩ (rel_ret hr rel2 (noFixs_ne hn)) ⟨e1.same, e1.new, e1.keep, fun a z => e1.fp a (y3 a z)⟩ ⟨f, o, fun a z => ⟨y1 a z, rel1.frz a (y2 a z), rel1.live a (y2 a z), e1.fp a (y2 a z)⟩⟩
  · exact post.elim
/-! ### if, pass, break, continue -/
def sIf (t : M Bool) (f g : Env → Option Fl) : Env → Option Fl := fun ρ => bnd (t ρ) Fl.err fun b ρ1 => if b = true then f ρ1 else g ρ1
theorem fs_if {c : Expr} {t : M Bool} {a b : List Stmt} (hc : FT X W κ c t) (ha : FSs X W C κ κn a f) (hb : FSs X W C κ κn b g) (he : EK C κ := by first | exact .inl rfl | exact .inr rfl) : FS X W C κ κn (.If c a b pos) (sIf t f g) := (ps_if hc ha hb).imp fun D' σ H h => by
  obtain ⟨ρ, w, rfl, rel, post⟩ := h
  refine seqT (P := PostS (ctx X W) C κn D' w) rel post (fun z => z) (fun n d ρ' z => errS he z) fun k ρ1 w1 rel1 e1 post1 => ?_
  cases k with
  | true => exact ⟨ρ1, w1, rfl, rel1, PostS.since post1 e1⟩
  | false => exact ⟨ρ1, w1, rfl, rel1, PostS.since post1 e1⟩
theorem fs_pass : FS X W C κ κ (.Pass pos) sNx := ps_pass.imp fun D' σ H h => by
  obtain ⟨ρ, w, rfl, rel, post⟩ := h
  exact post σ w rel (Ext.refl _)
def sBk : Env → Option Fl := fun ρ => some (.bk ρ)
def sCt : Env → Option Fl := fun ρ => some (.ct ρ)
theorem fs_break (hk : C.kl = κ := by rfl) : FS X W C κ κn (.Break pos) sBk := ps_break.imp fun D' σ H h => by
  subst hk
  obtain ⟨ρ, w, rfl, rel, post⟩ := h
  exact post σ w rel (Ext.refl _)
theorem fs_continue (hk : C.kl = κ := by rfl) : FS X W C κ κn (.Continue pos) sCt := ps_continue.imp fun D' σ H h => by
  subst hk
  obtain ⟨ρ, w, rfl, rel, post⟩ := h
  exact post σ w rel (Ext.refl _)
end
end FN
set_option Elab.async false
set_option linter.all false
set_option maxRecDepth 100000
set_option maxHeartbeats 4000000
/-! FN6: targets, loops, the def's rule. -/
namespace FN
open PySem PySem.Spec PyProof.Rows L2
/-! ### a def by its body -/
def kin : List Kind → List V → List Kind
  | k :: ks, v :: vs => (match keepK k with | true => .fix v k | false => k) :: kin ks vs
  | _, _ => []
def runF (ks : List Kind) (kr : Kind) (n : Nat) (fb : Env → Option Fl) : M D := fun ρ => match fb (ρ ++ List.replicate n none) with
  | some (.ret d ρ') => some (.ok d (outs ks ρ'))
  | some (.nx ρ') => match kr with
    | .v _ => some (.ok .none (outs ks ρ'))
    | _ => none
  | some (.err c d ρ') => some (.err c d (outs ks ρ'))
  | _ => none
section
variable {K : PySem.W.Frag}
theorem slots_none {F H : Hp} {fp : FpS} : ∀ κl : List Kind, Slots K F H κl (List.replicate κl.length none) (List.replicate κl.length none) fp
  | [] => .nil
  | k :: κl => by
    rw [List.length_cons, List.replicate_succ, List.replicate_succ]
    exact .skip (slots_none κl)
theorem kin_cons {k : Kind} {v : V} {ks : List Kind} {vs : List V} : ∃ k', kin (k :: ks) (v :: vs) = k' :: kin ks vs ∧ (∀ (K : PySem.W.Frag) F H d fp, OD K F H k v d fp → OD K F H k' v d fp) ∧ (∀ u j, k' = .fix u j → (∀ u j, k ≠ .fix u j) → u = v) := by
  cases q : keepK k with
  | true => exact ⟨.fix v k, by show (match keepK k with | true => Kind.fix v k | false => k) :: kin ks vs = _; rw [q], fun _ _ _ _ _ h => h, fun u j e _ => by cases e; rfl⟩
  | false => exact ⟨k, by show (match keepK k with | true => Kind.fix v k | false => k) :: kin ks vs = _; rw [q], fun _ _ _ _ _ h => h, fun u j e n => absurd e (n u j)⟩
theorem slots_start {F H : Hp} (κl : List Kind) : ∀ {ks : List Kind} {vs : List V} {ρ : Env} {fp : FpS}, Slots K F H ks ρ (vs.map some) fp → Slots K F H (kin ks vs ++ κl) (ρ ++ List.replicate κl.length none) (vs.map some ++ List.replicate κl.length none) fp
  | [], [], _, _, .nil => slots_none κl
  | [], _ :: _, _, _, h => by cases h
  | _ :: _, [], _, _, h => by cases h
  | k :: ks, v :: vs, _, _, h => by
    obtain ⟨k', e, ho, _⟩ := kin_cons (k := k) (v := v) (ks := ks) (vs := vs)
    rw [e]
    cases h with
    | skip h => exact .skip (slots_start κl h)
    | cons o h d h1 h2 => exact .cons (ho _ _ _ _ _ o) (slots_start κl h) d h1 h2
theorem kin_fixed (κl : List Kind) (hl : noFixs κl) : ∀ {ks : List Kind} {vs : List V}, noFixs ks → ∀ (i : Nat) (u : V) (k : Kind), (kin ks vs ++ κl)[i]? = some (Kind.fix u k) → (vs.map some ++ List.replicate κl.length none)[i]? = some (some u)
  | [], vs, _, i, u, k, z => by
    rw [show kin [] vs = [] by cases vs <;> rfl, List.nil_append] at z
    exact absurd z (noFixs_ne hl i u k)
  | k0 :: ks, [], _, i, u, k, z => by
    rw [show kin (k0 :: ks) [] = [] by cases k0 <;> rfl, List.nil_append] at z
    exact absurd z (noFixs_ne hl i u k)
  | k0 :: ks, v :: vs, ⟨hn, r⟩, i, u, k, z => by
    obtain ⟨k', e, _, hu⟩ := kin_cons (k := k0) (v := v) (ks := ks) (vs := vs)
    rw [e] at z
    cases i with
    | zero =>
      simp only [List.cons_append, List.getElem?_cons_zero, Option.some.injEq] at z
      rw [hu u k z (nofix_ne hn)]
      rfl
    | succ i => simpa using kin_fixed κl hl (ks := ks) (vs := vs) r i u k (by simpa using z)
end
section
variable {P : Program} {w : World} {K : PySem.W.Frag} {mg : Str → Option Value} {base : Heap}
theorem run_body {X : Cx} {W : WX} {ks κl : List Kind} {kr : Kind} {fb : Env → Option Fl} {vs : List V} {H : Hp} {Q : VK} {E : XK} {σ : L2.St} {κn : List Kind} {x : Bool} (hn : noFixs ks) (hln : noFixs κl) (hσ : σ = vs.map some ++ List.replicate κl.length none) (hr : RetK ks vs κn)
    (hW : x = true → ∀ cls dx σ H, E cls dx H → W cls dx σ H) (h : spF X.K X.mg ks kr (if x = true then runF ks kr κl.length fb else noErr (runF ks kr κl.length fb)) vs H Q E) :
    tS (ctx X W) ⟨ks, vs, kr, [], none⟩ (kin ks vs ++ κl) κn fb { nx := fun _ H' => Q .non H', rt := Q } σ H := by
  obtain ⟨ρ, wd, rfl, rel, post⟩ := h
  subst hσ
  refine ⟨ρ ++ List.replicate κl.length none, wd, rfl, ⟨rel.same, rel.frz, rel.live, kin_fixed κl hln hn, slots_start κl rel.slots⟩, ?_⟩
  cases q : fb (ρ ++ List.replicate κl.length none) with
  | none =>
    cases x with
    | true =>
      rw [if_pos rfl] at post
      unfold runF at post
      rw [q] at post
      exact post
    | false =>
      rw [if_neg Bool.false_ne_true] at post
      unfold noErr runF at post
      rw [q] at post
      exact post
  | some o =>
    have key : ∀ d ρ', runF ks kr κl.length fb ρ = some (.ok d ρ') → ∀ v w', Rel X.K ks ρ' (vs.map some) w' → Ext wd w' → Temp X.K kr wd w' d v → Q v w'.H := fun d ρ' e => by
      cases x with
      | true =>
        rw [if_pos rfl, e] at post
        exact post
      | false =>
        rw [if_neg Bool.false_ne_true] at post
        unfold noErr at post
        rw [e] at post
        exact post
    cases o with
    | ret d ρ' => exact key d (outs ks ρ') (by unfold runF; rw [q])
    | nx ρ' =>
      cases kr with
      | v b =>
        have k2 := key .none (outs ks ρ') (by unfold runF; rw [q])
        exact fun σ' w' rel' e' => k2 .non w' (rel_ret (C := ⟨ks, vs, .v b, [], none⟩) hr rel' (noFixs_ne hn)) e' (Temp.imm .non)
      | lst k =>
        exfalso
        have e : runF ks (.lst k) κl.length fb ρ = none := by unfold runF; rw [q]
        cases x with
        | true => rw [if_pos rfl, e] at post; exact post
        | false => rw [if_neg Bool.false_ne_true] at post; unfold noErr at post; rw [e] at post; exact post
      | scr =>
        exfalso
        have e : runF ks .scr κl.length fb ρ = none := by unfold runF; rw [q]
        cases x with
        | true => rw [if_pos rfl, e] at post; exact post
        | false => rw [if_neg Bool.false_ne_true] at post; unfold noErr at post; rw [e] at post; exact post
      | fix u k =>
        exfalso
        have e : runF ks (.fix u k) κl.length fb ρ = none := by unfold runF; rw [q]
        cases x with
        | true => rw [if_pos rfl, e] at post; exact post
        | false => rw [if_neg Bool.false_ne_true] at post; unfold noErr at post; rw [e] at post; exact post
      | tok u =>
        exfalso
        have e : runF ks (.tok u) κl.length fb ρ = none := by unfold runF; rw [q]
        cases x with
        | true => rw [if_pos rfl, e] at post; exact post
        | false => rw [if_neg Bool.false_ne_true] at post; unfold noErr at post; rw [e] at post; exact post
      | exc a dx cls R =>
        exfalso
        have e : runF ks (.exc a dx cls R) κl.length fb ρ = none := by unfold runF; rw [q]
        cases x with
        | true => rw [if_pos rfl, e] at post; exact post
        | false => rw [if_neg Bool.false_ne_true] at post; unfold noErr at post; rw [e] at post; exact post
      | dT b =>
        exfalso
        have e : runF ks (.dT b) κl.length fb ρ = none := by unfold runF; rw [q]
        cases x with
        | true => rw [if_pos rfl, e] at post; exact post
        | false => rw [if_neg Bool.false_ne_true] at post; unfold noErr at post; rw [e] at post; exact post
      | dK b =>
        exfalso
        have e : runF ks (.dK b) κl.length fb ρ = none := by unfold runF; rw [q]
        cases x with
        | true => rw [if_pos rfl, e] at post; exact post
        | false => rw [if_neg Bool.false_ne_true] at post; unfold noErr at post; rw [e] at post; exact post
    | bk ρ' =>
      exfalso
      have e : runF ks kr κl.length fb ρ = none := by unfold runF; rw [q]
      cases x with
      | true => rw [if_pos rfl, e] at post; exact post
      | false => rw [if_neg Bool.false_ne_true] at post; unfold noErr at post; rw [e] at post; exact post
    | ct ρ' =>
      exfalso
      have e : runF ks kr κl.length fb ρ = none := by unfold runF; rw [q]
      cases x with
      | true => rw [if_pos rfl, e] at post; exact post
      | false => rw [if_neg Bool.false_ne_true] at post; unfold noErr at post; rw [e] at post; exact post
    | err nm d ρ' =>
      have e : runF ks kr κl.length fb ρ = some (.err nm d (outs ks ρ')) := by unfold runF; rw [q]
      cases x with
      | true =>
        rw [if_pos rfl, e] at post
        exact fun cls dx σ' w' sm _ ex ea => hW rfl _ _ _ _ (post cls dx w' sm ex ea)
      | false =>
        rw [if_neg Bool.false_ne_true] at post
        unfold noErr at post
        rw [e] at post
        exact post.elim
/-- a def of the text that is known by its mirror -/
structure Kn (P : Program) (w : World) (K : PySem.W.Frag) (mg : Str → Option Value) (base : Heap) (CX : CXT) (k : Nat) (x : Str) (ps : List Str) (sp : Sp) : Prop where
  ex : ∃ (f : Addr) (fd : FuncData), FnOk P w K mg base CX k f fd ps sp ∧ mg x = some (.ref f) ∧ PySem.W.keepIn K (.ref f) = true ∧ Binds K fd ps [] ∧ ∃ (oc : Value) (od : Option Addr) (osl : Array (Option Value)), K.lookup f = some ⟨oc, od, .func fd, osl⟩
/-- where a def stands -/
structure At (K : PySem.W.Frag) (mg : Str → Option Value) (x : Str) (st : Stmt) (ps : List Str) : Prop where
  ex : ∃ (f : Addr) (fd : FuncData), Fun K x x st f fd ∧ mg x = some (.ref f) ∧ Binds K fd ps []
theorem fun_lk {x qual : Str} {st : Stmt} {f : Addr} {fd : FuncData} (F : Fun K x qual st f fd) : ∃ (oc : Value) (od : Option Addr) (osl : Array (Option Value)), K.lookup f = some ⟨oc, od, .func fd, osl⟩ := by
  obtain ⟨oc, od, kV, doc, pm, an, cdv, ct, osl, rfl, lk, hcd⟩ := F.ex
  exact ⟨oc, od, osl, lk⟩
/-- a def that raises nothing, by its mirror -/
theorem fn_ok0 {x : Str} {st : Stmt} {N ps : List Str} {k : Nat} {ks κl : List Kind} {kr : Kind} {fb : Env → Option Fl} (a : At K mg x st ps) (S : FnScope N ps (defScope st)) (hl : ks.length = ps.length) (hn : noFixs ks) (hln : noFixs κl) (hN : N.length = ps.length + κl.length)
    (hb : ∀ (f : Addr) (cdv : Value) (A : Around) (outer : List PySem.Env) (s : Shared) (H : Hp) (vs : List V) (E : XK), vs.length = ks.length → Room k (A.deeper (envOfC x (defScope st) s.heap.objs.size f cdv)) →
      ∃ κn, RetK ks vs κn ∧ FSs (cxOf CX0 P w K mg base N x (defScope st) f cdv A outer s H E).nox (fun _ _ _ _ => False) ⟨ks, vs, kr, [], none⟩ (kin ks vs ++ κl) κn (defBody st) fb) :
    Kn P w K mg base CX0 (k + 1) x ps (spF K mg ks kr (noErr (runF ks kr κl.length fb))) := by
  obtain ⟨f, fd, F, hm, bd⟩ := a.ex
  refine ⟨f, fd, F.ok S (fun vs H Q E h => (spF_len h).trans hl) (fun cdv A outer s H vs Q E hr h => ?_), hm, F.kp, bd, fun_lk F⟩
  obtain ⟨κn, hk, hbb⟩ := hb f cdv A outer s H vs E (spF_len h) hr
  refine ⟨_, hbb, run_body (X := (cxOf CX0 P w K mg base N x (defScope st) f cdv A outer s H E).nox) (x := false) (fb := fb) (E := E) hn hln ?_ hk (fun z => nomatch z) h⟩
  unfold L2.start
  rw [hN, spF_len h, hl, Nat.add_sub_cancel_left]
/-- a def that may raise -/
theorem fn_okX {x : Str} {st : Stmt} {N ps : List Str} {k : Nat} {ks κl : List Kind} {kr : Kind} {fb : Env → Option Fl} (a : At K mg x st ps) (S : FnScope N ps (defScope st)) (hl : ks.length = ps.length) (hn : noFixs ks) (hln : noFixs κl) (hN : N.length = ps.length + κl.length)
    (hb : ∀ (f : Addr) (cdv : Value) (A : Around) (outer : List PySem.Env) (s : Shared) (H : Hp) (vs : List V) (E : XK), vs.length = ks.length → Room k (A.deeper (envOfC x (defScope st) s.heap.objs.size f cdv)) →
      ∃ κn, RetK ks vs κn ∧ FSs (cxOf (L2.CX P w) P w K mg base N x (defScope st) f cdv A outer s H E) (fun cls d _ H => E cls d H) ⟨ks, vs, kr, [], none⟩ (kin ks vs ++ κl) κn (defBody st) fb) :
    Kn P w K mg base (L2.CX P w) (k + 1) x ps (spF K mg ks kr (runF ks kr κl.length fb)) := by
  obtain ⟨f, fd, F, hm, bd⟩ := a.ex
  refine ⟨f, fd, F.okX S (fun vs H Q E h => (spF_len h).trans hl) (fun cdv A outer s H vs Q E hr h => ?_), hm, F.kp, bd, fun_lk F⟩
  obtain ⟨κn, hk, hbb⟩ := hb f cdv A outer s H vs E (spF_len h) hr
  refine ⟨_, hbb, run_body (X := cxOf (L2.CX P w) P w K mg base N x (defScope st) f cdv A outer s H E) (x := true) (fb := fb) (E := E) hn hln ?_ hk (fun _ _ _ _ _ z => z) h⟩
  unfold L2.start
  rw [hN, spF_len h, hl, Nat.add_sub_cancel_left]
theorem Kn.mono {CX : CXT} {j k : Nat} {x : Str} {ps : List Str} {sp : Sp} (g : Kn P w K mg base CX j x ps sp) (h : j ≤ k) : Kn P w K mg base CX k x ps sp := by
  obtain ⟨f, fd, F, r⟩ := g.ex
  exact ⟨f, fd, F.mono h, r⟩
end
section
variable {X : Cx} {W : WX} {κ : List Kind} {pos p : Pos} {e : Expr} {es : List Expr} {fr : M (List D)} {ms : List Md} {ks : List Kind} {kr : Kind} {g : M D}
/-- f(e, ..) of a known def that raises nothing -/
theorem fe_fn {k : Nat} {ps : List Str} {x : Str} (G : Kn X.prog X.w X.K X.mg X.base CX0 k x ps (spF X.K X.mg ks kr (noErr g))) (hr : Room k X.A) (hf : Fits κ ms ks) (ha : FA X W κ ms (e :: es) fr) (hg : Gl X x := by rfl) (hdb : (x == ("__debug__" : Str)) = false := by decide)
    (he : starEach (e :: es) X.env = (false, eval e X.env) :: starEach es X.env := by rfl) (hpl : (backTo pos (starEach es X.env)).any (·.1) = false := by rfl) : FV X W κ (.t kr) (.Call (.Name x p) (e :: es) [] pos) (fCall ms (noErr g) fr) := by
  obtain ⟨f, fd, F, hm, hk, hb, _⟩ := G.ex
  exact fe_call F hr hg hm hk hb hf ha hdb he hpl
/-- .. that may raise -/
theorem fe_fnX {k : Nat} {ps : List Str} {x : Str} (G : Kn X.prog X.w X.K X.mg X.base (L2.CX X.prog X.w) k x ps (spF X.K X.mg ks kr g)) (tk : Takes X W) (hr : Room k X.A) (hf : Fits κ ms ks) (ha : FA X W κ ms (e :: es) fr) (hg : Gl X x := by rfl) (hdb : (x == ("__debug__" : Str)) = false := by decide)
    (he : starEach (e :: es) X.env = (false, eval e X.env) :: starEach es X.env := by rfl) (hpl : (backTo pos (starEach es X.env)).any (·.1) = false := by rfl) : FV X W κ (.t kr) (.Call (.Name x p) (e :: es) [] pos) (fCall ms g fr) := by
  obtain ⟨f, fd, F, hm, hk, hb, _⟩ := G.ex
  exact fe_callX F tk hr hg hm hk hb hf ha hdb he hpl
variable {C : FC} {κn : List Kind}
/-- x = e where the slot keeps its kind -/
theorem fs_setK {k : Kind} {i : Nat} {x : Str} {pos' : Pos} {fa : M D} (ha : FV X W κ (.t k) e fa) (hN : X.N.Nodup) (hk : κ[i]? = some k := by rfl) (hn : nofix k := by exact True.intro) (hi : X.N[i]? = some x := by rfl) (hx : Loc X.env.scope x := by first | exact .inl rfl | exact .inr rfl) (he : EK C κ := by first | exact .inl rfl | exact .inr rfl)
    (hs : swapsWith e (some (.Name x pos')) pos.line X.env = pure false := by rfl) (hf : X.fn x = true ∨ X.env.scope.names.lookup x = some .local := by first | exact .inl rfl | exact .inr rfl) : FS X W C κ κ (.Assign [.Name x pos'] e pos) (sSet i fa) := by
  have z := fs_set (κ := κ) (C := C) ha hN hi hx (List.getElem?_eq_some_iff.mp hk).1 hn he hs hf
  rw [set_same hk] at z
  exact z
end
/-! ### while -/
/-- one turn after the other, at most so many -/
def whN (t : M Bool) (b : Env → Option Fl) : Nat → Env → Option Fl
  | 0, _ => none
  | n + 1, ρ => bnd (t ρ) Fl.err fun c ρ1 => if c = true then match b ρ1 with
    | some (.nx ρ2) => whN t b n ρ2
    | some (.ct ρ2) => whN t b n ρ2
    | some (.bk ρ2) => some (.nx ρ2)
    | o => o
    else some (.nx ρ1)
theorem whN_more {t : M Bool} {b : Env → Option Fl} : ∀ {n : Nat} {ρ : Env} {r : Fl}, whN t b n ρ = some r → whN t b (n + 1) ρ = some r
  | 0, _, _, h => by
    unfold whN at h
    cases h
  | n + 1, ρ, r, h => by
    unfold whN at h ⊢
    unfold bnd at h ⊢
    split
    · rename_i c ρ1 e
      rw [e] at h
      dsimp only at h ⊢
      by_cases hc : c = true
      · rw [if_pos hc] at h ⊢
        split
        · rename_i ρ2 e2
          rw [e2] at h
          exact whN_more h
        · rename_i ρ2 e2
          rw [e2] at h
          exact whN_more h
        · rename_i ρ2 e2
          rw [e2] at h
          exact h
        · rename_i h1 h2 h3
          split at h
          · rename_i ρ2 e2
            exact absurd e2 (h1 ρ2)
          · rename_i ρ2 e2
            exact absurd e2 (h2 ρ2)
          · rename_i ρ2 e2
            exact absurd e2 (h3 ρ2)
          · exact h
      · rw [if_neg hc] at h ⊢
        exact h
    · rename_i e
      rw [e] at h
      exact h
    · rename_i e
      rw [e] at h
      exact h
theorem whN_le {t : M Bool} {b : Env → Option Fl} {n m : Nat} {ρ : Env} {r : Fl} (h : whN t b n ρ = some r) (l : n ≤ m) : whN t b m ρ = some r := by
  induction l with
  | refl => exact h
  | step _ ih => exact whN_more ih
open Classical in
noncomputable def sWh (t : M Bool) (b : Env → Option Fl) : Env → Option Fl := fun ρ => if h : ∃ n r, whN t b n ρ = some r then whN t b (choose h) ρ else none
theorem sWh_of {t : M Bool} {b : Env → Option Fl} {n : Nat} {ρ : Env} {r : Fl} (h : whN t b n ρ = some r) : sWh t b ρ = some r := by
  have ex : ∃ n r, whN t b n ρ = some r := ⟨n, r, h⟩
  unfold sWh
  rw [dif_pos ex]
  obtain ⟨r', h'⟩ := Classical.choose_spec ex
  have a := whN_le h' (Nat.le_max_left (Classical.choose ex) n)
  have b := whN_le h (Nat.le_max_right (Classical.choose ex) n)
  rw [a] at b
  rw [h', b]
theorem sWh_ex {t : M Bool} {b : Env → Option Fl} {ρ : Env} {r : Fl} (h : sWh t b ρ = some r) : ∃ n, whN t b n ρ = some r := by
  unfold sWh at h
  split at h
  · exact ⟨_, h⟩
  · cases h
theorem sWh_none {t : M Bool} {b : Env → Option Fl} {ρ : Env} (h : sWh t b ρ = none) : True := trivial
section
variable {X : Cx} {W : WX} {C : FC} {κ κ1 κn : List Kind} {st : Stmt} {rest : List Stmt} {f g : Env → Option Fl} {pos : Pos} {e : Expr} {fa : M D}
theorem fs_while {c : Expr} {t : M Bool} {body : List Stmt} (hp : PassesOwn (model X.prog X.w) X.A X.env X.xe) (hc : FT X W κ c t) (hb : FSs X W { C with kl := κ } κ κ body f) (he : EK C κ := by first | exact .inl rfl | exact .inr rfl) : FS X W C κ κ (.While c body [] pos) (sWh t f) := (ps_while hp hc hb).imp fun D' σ H h => by
  obtain ⟨ρ, w, rfl, rel, post⟩ := h
  cases q : sWh t f ρ with
  | none =>
    rw [q] at post
    exact post.elim
  | some r =>
    rw [q] at post
    obtain ⟨n, hn⟩ := sWh_ex q
    refine ⟨fun m σ H => ∃ ρ w1, w1.H = H ∧ Rel X.K κ ρ σ w1 ∧ Ext w w1 ∧ whN t f m ρ = some r, ⟨n, ρ, w, rfl, rel, Ext.refl _, hn⟩, ?_⟩
    rintro m σ _ ⟨ρ, w1, rfl, rel1, e1, hm⟩
    cases m with
    | zero =>
      unfold whN at hm
      cases hm
    | succ m =>
      unfold whN at hm
      refine seqT (P := fun o => o = some r) rel1 hm (fun z => nomatch z) (fun nm d ρ' z => ?_) fun b ρ2 w2 rel2 e2 h2 => ?_
      · cases z
        exact errS he (PostS.since post e1)
      · cases b with
        | false =>
          rw [if_neg Bool.false_ne_true] at h2 ⊢
          cases h2
          exact post σ w2 rel2 (e1.trans e2)
        | true =>
          rw [if_pos rfl] at h2 ⊢
          refine ⟨fun σ' H' => ∃ ρ3 w3, w3.H = H' ∧ Rel X.K κ ρ3 σ' w3 ∧ Ext w w3 ∧ whN t f m ρ3 = some r, fun σ' H' z => ⟨m, Nat.lt_succ_self _, z⟩, ρ2, w2, rfl, rel2, ?_⟩
          have e12 := e1.trans e2
          cases qb : f ρ2 with
          | none =>
            rw [qb] at h2
            cases h2
          | some o =>
            rw [qb] at h2
            cases o with
            | nx ρ3 => exact fun σ' w3 rel3 e3 => ⟨ρ3, w3, rfl, rel3, e12.trans e3, h2⟩
            | ct ρ3 => exact fun σ' w3 rel3 e3 => ⟨ρ3, w3, rfl, rel3, e12.trans e3, h2⟩
            | bk ρ3 =>
              cases h2
              exact fun σ' w3 rel3 e3 => post σ' w3 rel3 (e12.trans e3)
            | ret d ρ3 =>
              cases h2
              exact fun v w3 rel3 e3 t3 => post v w3 rel3 (e12.trans e3) (t3.since e12)
            | err nm d ρ3 =>
              cases h2
              exact fun cls dx σ' w3 sm r3 e3 ea => post cls dx σ' w3 sm r3 (e12.trans e3) ea
end
/-! ### targets -/
/-- the slots beside sl are as they were -/
def Upto (sl : List Nat) (σ σ' : L2.St) : Prop := σ'.length = σ.length ∧ ∀ j, j ∉ sl → σ'[j]? = σ[j]?
theorem Upto.refl (sl : List Nat) (σ : L2.St) : Upto sl σ σ := ⟨rfl, fun _ _ => rfl⟩
theorem Upto.trans {s1 s2 : List Nat} {σ σ1 σ2 : L2.St} (a : Upto s1 σ σ1) (b : Upto s2 σ1 σ2) : Upto (s1 ++ s2) σ σ2 := ⟨b.1.trans a.1, fun j h => (b.2 j fun z => h (List.mem_append_right _ z)).trans (a.2 j fun z => h (List.mem_append_left _ z))⟩
def tG (c : Ct) (b : Bool) (sl : List Nat) (κ κn : List Kind) (ft : D → Env → Option Env) : TG := fun v σ H Q => ∃ ρ w d, w.H = H ∧ Rel c.K κ ρ σ w ∧ RD b c.K w.F v d ∧ match ft d ρ with
  | some ρ' => ∀ σ' w', w'.H = w.H → Upto sl σ σ' → Rel c.K κn ρ' σ' w' → Ext w w' → Q σ' w'.H
  | none => False
def tGs (c : Ct) (b : Bool) (sl : List Nat) (κ κn : List Kind) (ft : List D → Env → Option Env) : TGs := fun vs σ H Q => ∃ ρ w ds, w.H = H ∧ Rel c.K κ ρ σ w ∧ RDs b c.K w.F vs ds ∧ match ft ds ρ with
  | some ρ' => ∀ σ' w', w'.H = w.H → Upto sl σ σ' → Rel c.K κn ρ' σ' w' → Ext w w' → Q σ' w'.H
  | none => False
def FG (X : Cx) (W : WX) (b : Bool) (sl : List Nat) (κ κn : List Kind) (e : Expr) (ft : D → Env → Option Env) : Prop := PG X e (tG (ctx X W) b sl κ κn ft)
def FGs (X : Cx) (W : WX) (b : Bool) (sl : List Nat) (κ κn : List Kind) (es : List Expr) (ft : List D → Env → Option Env) : Prop := PGs X es (tGs (ctx X W) b sl κ κn ft)
theorem _root_.L2.PG.imp {X : Cx} {e : Expr} {t t' : TG} (h : PG X e t) (i : ∀ v σ H Q, t' v σ H Q → t v σ H Q) : PG X e t' := ⟨fun pins s σ H v u Q I r q => h.run pins s σ H v u Q I r (i v σ H Q q)⟩
theorem _root_.L2.PGs.imp {X : Cx} {e : List Expr} {t t' : TGs} (h : PGs X e t) (i : ∀ v σ H Q, t' v σ H Q → t v σ H Q) : PGs X e t' := ⟨fun pins s σ H v u Q I r q => h.run pins s σ H v u Q I r (i v σ H Q q)⟩
section
variable {X : Cx} {W : WX} {C : FC} {b : Bool} {sl sl2 : List Nat} {κ κ1 κn : List Kind} {pos : Pos} {e : Expr} {es : List Expr}
def gNm (i : Nat) : D → Env → Option Env := fun d ρ => some (ρ.set i (some d))
theorem fg_name {i : Nat} {x : Str} (hN : X.N.Nodup) (hi : X.N[i]? = some x := by rfl) (hx : Loc X.env.scope x := by first | exact .inl rfl | exact .inr rfl) (hl : i < κ.length := by decide) (hf : X.fn x = true ∨ X.env.scope.names.lookup x = some .local := by first | exact .inl rfl | exact .inr rfl) : FG X W b [i] κ (κ.set i (.v b)) (.Name x pos) (gNm i) := (pg_name hN hi hx hf).imp fun v σ H Q h => by
  obtain ⟨ρ, w, d, rfl, rel, r, post⟩ := h
  obtain ⟨w2, eH, _, rel2, ex⟩ := rel_set (κ := κ) (k := .v b) (i := i) (w := w) rel (Temp.imm r) (by rw [← rel.slots.lengths.1]; exact hl) (fun _ _ z => nomatch z)
  show Q (σ.set i (some v)) w.H
  rw [← eH]
  exact post _ w2 eH ⟨List.length_set .., fun j h => List.getElem?_set_ne (fun z => h (by rw [z]; exact List.mem_singleton.mpr rfl))⟩ rel2 (ex (Ext.refl _))
theorem fg_nameK {i : Nat} {x : Str} (hN : X.N.Nodup) (hk : κ[i]? = some (.v b) := by rfl) (hi : X.N[i]? = some x := by rfl) (hx : Loc X.env.scope x := by first | exact .inl rfl | exact .inr rfl) (hf : X.fn x = true ∨ X.env.scope.names.lookup x = some .local := by first | exact .inl rfl | exact .inr rfl) : FG X W b [i] κ κ (.Name x pos) (gNm i) := by
  have z := fg_name (κ := κ) (b := b) (W := W) (pos := pos) hN hi hx (List.getElem?_eq_some_iff.mp hk).1 hf
  rw [set_same hk] at z
  exact z
def gsNil : List D → Env → Option Env := fun ds ρ => match ds with
  | [] => some ρ
  | _ => none
def gsCons (f : D → Env → Option Env) (g : List D → Env → Option Env) : List D → Env → Option Env := fun ds ρ => match ds with
  | d :: ds => (f d ρ).bind (g ds)
  | [] => none
theorem fgs_nil : FGs X W b [] κ κ [] gsNil := pgs_nil.imp fun vs σ H Q h => by
  obtain ⟨ρ, w, ds, rfl, rel, r, post⟩ := h
  cases r with
  | nil => exact ⟨rfl, post σ w rfl (Upto.refl _ _) rel (Ext.refl _)⟩
  | cons _ _ => exact post.elim
theorem fgs_cons {f : D → Env → Option Env} {g : List D → Env → Option Env} (h1 : FG X W b sl κ κ1 e f) (h2 : FGs X W b sl2 κ1 κn es g) (hs : (assignEach (e :: es) X.env).map (·.2) = assign e X.env :: (assignEach es X.env).map (·.2) := by rfl) : FGs X W b (sl ++ sl2) κ κn (e :: es) (gsCons f g) := (pgs_cons h1 h2 hs).imp fun vs σ H Q h => by
  obtain ⟨ρ, w, ds, rfl, rel, r, post⟩ := h
  cases r with
  | nil => exact post.elim
  | @cons v vs d ds r rs =>
    refine ⟨v, vs, rfl, ρ, w, d, rfl, rel, r, ?_⟩
    have post' : (match (f d ρ).bind (g ds) with
      | some ρ' => ∀ σ' w', w'.H = w.H → Upto (sl ++ sl2) σ σ' → Rel X.K κn ρ' σ' w' → Ext w w' → Q σ' w'.H
      | none => False) := post
    cases q : f d ρ with
    | none =>
      rw [q] at post'
      exact post'.elim
    | some ρ1 =>
      rw [q] at post'
      intro σ1 w1 eH u1 rel1 e1
      refine ⟨ρ1, w1, ds, rfl, rel1, rs.mono e1.same, ?_⟩
      have post2 : (match g ds ρ1 with
        | some ρ' => ∀ σ' w', w'.H = w.H → Upto (sl ++ sl2) σ σ' → Rel X.K κn ρ' σ' w' → Ext w w' → Q σ' w'.H
        | none => False) := post'
      cases q2 : g ds ρ1 with
      | none =>
        rw [q2] at post2
        exact post2.elim
      | some ρ2 =>
        rw [q2] at post2
        exact fun σ2 w2 eH2 u2 rel2 e2 => post2 σ2 w2 (eH2.trans eH) (u1.trans u2) rel2 (e1.trans e2)
def gTp (g : List D → Env → Option Env) : D → Env → Option Env := fun d ρ => match d with
  | .tuple ds => g ds ρ
  | _ => none
theorem fg_tup {g : List D → Env → Option Env} {k : Nat} {n : Nat} (hc : X.calm = true) (hl : ∀ ds ρ ρ', g ds ρ = some ρ' → ds.length = n) (h : FGs X W b sl κ κn es g) (hn : (assignEach es X.env).length = n := by rfl) (hst : (assignEach es X.env).findIdx? (·.1) = none := by rfl) : FG X W b sl κ κn (.Tuple es k pos) (gTp g) := (pg_tup hc h hn hst).imp fun v σ H Q h => by
  obtain ⟨ρ, w, d, rfl, rel, r, post⟩ := h
  have key : ∀ ds, d = .tuple ds → gTup X.K n (tGs (ctx X W) b sl κ κn g) v σ w.H Q := fun ds ed => by
    subst ed
    have post' : (match g ds ρ with
      | some ρ' => ∀ σ' w', w'.H = w.H → Upto sl σ σ' → Rel X.K κn ρ' σ' w' → Ext w w' → Q σ' w'.H
      | none => False) := post
    have q : ∃ ρ', g ds ρ = some ρ' := by
      cases y : g ds ρ with
      | none =>
        rw [y] at post'
        exact post'.elim
      | some ρ' => exact ⟨ρ', rfl⟩
    obtain ⟨ρ', q⟩ := q
    cases r with
    | tup h1 t1 => exact ⟨_, _, rfl, SqT.of (rel.same _ _ h1), by rw [t1.length]; exact hl _ _ _ q, ρ, w, ds, rfl, rel, t1, post⟩
    | con z h1 t1 => exact ⟨_, _, rfl, sameT rel.same h1, by rw [t1.length]; exact hl _ _ _ q, ρ, w, ds, rfl, rel, t1, post⟩
  cases d with
  | tuple ds => exact key ds rfl
  | none => exact post.elim
  | bool _ => exact post.elim
  | int _ => exact post.elim
  | str _ => exact post.elim
  | list _ => exact post.elim
  | dict _ => exact post.elim
theorem gs_len0 : ∀ ds ρ ρ', gsNil ds ρ = some ρ' → ds.length = 0 := fun ds ρ ρ' h => by
  cases ds with
  | nil => rfl
  | cons _ _ => cases h
theorem gs_lenS {f : D → Env → Option Env} {g : List D → Env → Option Env} {n : Nat} (h : ∀ ds ρ ρ', g ds ρ = some ρ' → ds.length = n) : ∀ ds ρ ρ', gsCons f g ds ρ = some ρ' → ds.length = n + 1 := fun ds ρ ρ' z => by
  cases ds with
  | nil => cases z
  | cons d ds =>
    have z' : (f d ρ).bind (g ds) = some ρ' := z
    cases q : f d ρ with
    | none => rw [q] at z'; cases z'
    | some ρ1 =>
      rw [q] at z'
      rw [List.length_cons, h ds ρ1 ρ' z']
/-- target = value -/
def sAsg (ft : D → Env → Option Env) (fa : M D) : Env → Option Fl := fun ρ => bnd (fa ρ) Fl.err fun d ρ1 => (ft d ρ1).map Fl.nx
theorem fs_asg {tg : Expr} {fa : M D} {ft : D → Env → Option Env} (ha : FV X W κ (.t (.v b)) e fa) (hg : FG X W b sl κ κn tg ft) (he : EK C κ := by first | exact .inl rfl | exact .inr rfl) (hs : swapsWithSole [tg] e pos.line X.env = pure false := by rfl) (hw : swappedStores [tg] e X.env = pure none := by rfl)
    (h1 : (assignEach [tg] X.env).map (·.2) = [assign tg X.env] := by rfl) : FS X W C κ κn (.Assign [tg] e pos) (sAsg ft fa) := (ps_asg ha hg hs hw h1).imp fun D' σ H h => by
  obtain ⟨ρ, w, rfl, rel, post⟩ := h
  refine seqV (P := PostS (ctx X W) C κn D' w) rel post (fun z => z) (fun n d ρ' z => errS he z) fun d ρ1 v w1 rel1 e1 t1 post1 => ?_
  refine ⟨ρ1, w1, d, rfl, rel1, Temp.rd t1, ?_⟩
  cases q : ft d ρ1 with
  | none =>
    rw [q] at post1
    exact post1.elim
  | some ρ2 =>
    rw [q] at post1
    exact fun σ' w' _ _ rel' e' => post1 σ' w' rel' (e1.trans e')
/-- a, b = x, y: two locals, no tuple is made -/
def sPar (i j : Nat) (fr : M (List D)) : Env → Option Fl := fun ρ => bnd (fr ρ) Fl.err fun ds ρ1 => match ds with
  | [d, e] => some (.nx ((ρ1.set i (some d)).set j (some e)))
  | _ => none
end
end FN
set_option Elab.async false
set_option linter.all false
set_option maxRecDepth 100000
set_option maxHeartbeats 4000000
/-! FN7: what is walked; for; comprehensions. -/
namespace FN
open PySem PySem.Spec PyProof.Rows L2
/-! ### walks -/
/-- J gives the data ds, one after the other, as long as what is frozen stands -/
def WalkD (b : Bool) (K : PySem.W.Frag) (J : It) (ds : List D) (F : Hp) : Prop := ∀ (i : Nat) (H : Hp), Same F H → (ds.length ≤ i → J.stop i H) ∧ ∀ d, ds[i]? = some d → J.go i H ∧ ∀ x H', J.yld i H x H' →
  (H' = H ∧ RD b K F x d) ∨ ∃ (T : Addr) (xs : List V) (es : List D), H T = none ∧ H' = upd H T (.tup xs) ∧ x = .ref T ∧ d = .tuple es ∧ RDs b K F xs es
def PostI (c : Ct) (b : Bool) (κ : List Kind) (σ : L2.St) (w : Wd) (R : It → Hp → Prop) : Option (Out (List D)) → Prop
  | some (.ok ds ρ) => ∀ w' J, Rel c.K κ ρ σ w' → Ext w w' → WalkD b c.K J ds w'.F → R J w'.H
  | some (.err n d ρ) => ErrOk c κ σ w n d ρ
  | none => False
def tI (c : Ct) (b : Bool) (κ : List Kind) (f : M (List D)) : TI := fun σ H R => ∃ ρ w, w.H = H ∧ Rel c.K κ ρ σ w ∧ PostI c b κ σ w R (f ρ)
def FI (X : Cx) (W : WX) (b : Bool) (κ : List Kind) (tg e : Expr) (f : M (List D)) : Prop := PI X tg e (tI (ctx X W) b κ f)
theorem _root_.L2.PI.imp {X : Cx} {tg e : Expr} {t t' : TI} (h : PI X tg e t) (i : ∀ σ H R, t' σ H R → t σ H R) : PI X tg e t' := ⟨fun pins s σ H R I q => h.run pins s σ H R I (i σ H R q)⟩
theorem seqI {c : Ct} {b : Bool} {κ : List Kind} {σ : L2.St} {w1 : Wd} {β : Type} {fa : M (List D)} {ρ : Env} {P : Option β → Prop} {e : Str → D → Env → β} {g : List D → Env → Option β} {R : It → Hp → Prop} (rel : Rel c.K κ ρ σ w1) (h : P (bnd (fa ρ) e g)) (hN : ¬ P none) (hE : ∀ n d ρ', P (some (e n d ρ')) → ErrOk c κ σ w1 n d ρ')
    (hR : ∀ ds ρ2 w2 J, Rel c.K κ ρ2 σ w2 → Ext w1 w2 → WalkD b c.K J ds w2.F → P (g ds ρ2) → R J w2.H) : tI c b κ fa σ w1.H R := by
  refine ⟨ρ, w1, rfl, rel, ?_⟩
  cases q : fa ρ with
  | none =>
    rw [q] at h
    exact hN h
  | some o =>
    rw [q] at h
    cases o with
    | ok d ρ2 => exact fun w2 J r2 e2 t2 => hR d ρ2 w2 J r2 e2 t2 h
    | err n d ρ2 => exact hE n d ρ2 h
theorem walk_list {b : Bool} {K : PySem.W.Frag} {F : Hp} {a : Addr} {xs : List V} {ds : List D} (h : SqL K F a xs) (r : RDs b K F xs ds) : WalkD b K (Itl K a) ds F := fun i H e => by
  have hq : SqL K H a xs := e.seq h
  refine ⟨fun l => ⟨xs, hq, by rw [r.length]; exact l⟩, fun d ed => ?_⟩
  obtain ⟨v, ev, rv⟩ := r.get ed
  refine ⟨⟨xs, v, hq, ev⟩, fun x H' y => ?_⟩
  obtain ⟨e1, y⟩ := y
  have := y xs hq
  rw [ev] at this
  cases this
  exact .inl ⟨e1, rv⟩
theorem walk_tup {b : Bool} {K : PySem.W.Frag} {F : Hp} {a : Addr} {xs : List V} {ds : List D} (h : SqT K F a xs) (r : RDs b K F xs ds) : WalkD b K (Itt K a) ds F := fun i H e => by
  have hq : SqT K H a xs := sameT e h
  refine ⟨fun l => ⟨xs, hq, by rw [r.length]; exact l⟩, fun d ed => ?_⟩
  obtain ⟨v, ev, rv⟩ := r.get ed
  refine ⟨⟨xs, v, hq, ev⟩, fun x H' y => ?_⟩
  obtain ⟨e1, y⟩ := y
  have := y xs hq
  rw [ev] at this
  cases this
  exact .inl ⟨e1, rv⟩
def chD (z : Str) : List D := z.cps.toList.map fun c => .str ⟨#[c]⟩
theorem walk_str {b : Bool} {K : PySem.W.Frag} {F : Hp} {z : Str} : WalkD b K (Its z) (chD z) F := fun i H _ => by
  refine ⟨fun l => (show z.cps.size ≤ i by simpa [chD] using l), fun d ed => ?_⟩
  unfold chD at ed
  rw [List.getElem?_map] at ed
  cases q : z.cps.toList[i]? with
  | none =>
    rw [q] at ed
    cases ed
  | some ch =>
    rw [q] at ed
    cases ed
    have q' : z.cps[i]? = some ch := by simpa using q
    refine ⟨(Array.getElem?_eq_some_iff.mp q').1, fun x H' y => ?_⟩
    obtain ⟨e1, c2, e2, e3⟩ := y
    rw [q'] at e2
    cases e2
    subst e3
    exact .inl ⟨e1, .str _⟩
theorem walk_range {b : Bool} {K : PySem.W.Frag} {F : Hp} {lo : Int} {n : Nat} : WalkD b K (Itr lo n) ((List.range n).map fun k => .int (lo + (k : Nat))) F := fun i H _ => by
  refine ⟨fun l => (show n ≤ i by simpa using l), fun d ed => ?_⟩
  rw [List.getElem?_map] at ed
  cases q : (List.range n)[i]? with
  | none =>
    rw [q] at ed
    cases ed
  | some j =>
    rw [q] at ed
    cases ed
    obtain ⟨hj, ej⟩ := List.getElem?_eq_some_iff.mp q
    rw [List.getElem_range] at ej
    subst ej
    refine ⟨(show i < n by simpa using hj), fun x H' y => ?_⟩
    obtain ⟨e1, e2⟩ := y
    subst e2
    exact .inl ⟨e1, .int _⟩
/-! ### a list, a tuple or a text, walked -/
def iAny (K : PySem.W.Frag) (tl : TE) : TI := fun σ H R => tl σ H fun x H1 => (∃ a xs, x = .ref a ∧ SqL K H1 a xs ∧ R (Itl K a) H1) ∨ (∃ a xs, x = .ref a ∧ SqT K H1 a xs ∧ R (Itt K a) H1) ∨ (∃ y, x = .str y ∧ R (Its y) H1)
theorem pi_any {X : Cx} {tg l : Expr} {tl : TE} (hl : PE X l tl) : PI X tg l (iAny X.K tl) := by
  constructor
  intro pins s σ H R I h
  refine thn (hl.run pins s σ H _ I h) (fun v s1 hh => ?_)
  obtain ⟨x, H1, I1, r1, q1⟩ := hh
  have new : ∀ (J : It) (tn : Nat → Heap → Prop) (o : Obj), Turn X.prog X.w X.K tg J [s1.heap.objs.size] s1.heap.objs.size tn → tn 0 (s1.heap.push o) → R J H1 → PIE X pins σ tg R (.ref s1.heap.objs.size) { s1 with heap := s1.heap.push o } := fun J tn o T st q => by
    refine ⟨_, [s1.heap.objs.size], tn, J, H1, rfl, I1.kept (t' := s1.toks) fun b ob e => (Heap.get?_push_of_some _ e), T, st, fun b hb => ?_, q⟩
    rw [List.mem_singleton.mp hb]
    exact I1.fpOk (Nat.le_refl _) (I1.hok.fresh (Nat.le_refl _))
  rcases q1 with ⟨a, xs, rfl, hq, q⟩ | ⟨a, xs, rfl, hq, q⟩ | ⟨y, rfl, q⟩
  · cases r1
    obtain ⟨its, _, p, _⟩ := I1.list hq
    exact wpAny_pyIter_list p.isList (new _ _ _ (turn_list a _) ⟨_, Heap.get?_push_size _ rfl, rfl, rfl⟩ q)
  · cases r1
    obtain ⟨its, _, p, _⟩ := I1.tuple hq
    exact wpAny_pyIter_tuple (show s1.heap.IsTuple a its.toArray from p) (new _ _ _ (turn_tuple a _) ⟨_, Heap.get?_push_size _ rfl, rfl, rfl⟩ q)
  · obtain ⟨t, rfl⟩ := r1
    cases ha : y.cps.all (· < 128)
    · exact wpAny_pyIter_wide ha (pi_one (tk := s1.toks) I1 _ (turn_str _ y t "str_iterator" (.inr rfl)) ⟨_, Heap.get?_push_size _ rfl, rfl, rfl⟩ q)
    · exact wpAny_pyIter_ascii ha (pi_one (tk := s1.toks) I1 _ (turn_str _ y t "str_ascii_iterator" (.inl rfl)) ⟨_, Heap.get?_push_size _ rfl, rfl, rfl⟩ q)
def iSeq (fa : M D) : M (List D) := fun ρ => bdo (fa ρ) fun x ρ1 => match x with
  | .list ds => some (.ok ds ρ1)
  | .tuple ds => some (.ok ds ρ1)
  | .str z => some (.ok (chD z) ρ1)
  | _ => none
section
variable {X : Cx} {W : WX} {C : FC} {b : Bool} {κ κ1 κn : List Kind} {pos p : Pos} {tg e a : Expr} {fa fb : M D} {m ma mb : Md}
theorem fi_seq (ha : FV X W κ (.t (.v b)) e fa) : FI X W b κ tg e (iSeq fa) := (pi_any ha).imp fun σ H R h => by
  obtain ⟨ρ, w, rfl, rel, post⟩ := h
  refine seqV (P := PostI (ctx X W) b κ σ w R) rel post (fun z => z) (fun n d ρ' z => z) fun d ρ1 v w1 rel1 e1 t1 post1 => ?_
  have r := Temp.rd t1
  split at post1
  · cases r with
    | lst h1 rs => exact .inl ⟨_, _, rfl, SqL.of (rel1.same _ _ h1), post1 w1 _ rel1 e1 (walk_list (SqL.of h1) rs)⟩
  · cases r with
    | tup h1 rs => exact .inr (.inl ⟨_, _, rfl, SqT.of (rel1.same _ _ h1), post1 w1 _ rel1 e1 (walk_tup (SqT.of h1) rs)⟩)
    | con z h1 rs => exact .inr (.inl ⟨_, _, rfl, sameT rel1.same h1, post1 w1 _ rel1 e1 (walk_tup h1 rs)⟩)
  · exact .inr (.inr ⟨_, dp_str r.dp, post1 w1 _ rel1 e1 walk_str⟩)
  · exact post1.elim
/-- the script, walked -/
def iScr (i : Nat) : M (List D) := fun ρ => match ρ[i]? with
  | some (some (.list ds)) => some (.ok ds ρ)
  | _ => none
theorem fi_str (ha : FV X W κ (.t (.v b)) e fa) : FI X W b κ tg e (fun ρ => bdo (fa ρ) fun x ρ1 => match x with
  | .str z => some (.ok (chD z) ρ1)
  | _ => none) := (pi_str ha).imp fun σ H R h => by
  obtain ⟨ρ, w, rfl, rel, post⟩ := h
  refine seqV (P := PostI (ctx X W) b κ σ w R) rel post (fun z => z) (fun n d ρ' z => z) fun d ρ1 v w1 rel1 e1 t1 post1 => ?_
  have r := Temp.rd t1
  split at post1
  · exact ⟨_, dp_str r.dp, post1 w1 _ rel1 e1 walk_str⟩
  · exact post1.elim
/-! ### range -/
def rgD (i j : Int) : List D := (List.range (j - i).toNat).map fun k => .int (i + (k : Nat))
def okR (i : Int) : Bool := decide (-(2 ^ 62) ≤ i ∧ i < 2 ^ 62)
def iRg1 (m : Md) (fa : M D) : M (List D) := fun ρ => bdo (fa ρ) fun x ρ1 => match rd m x ρ1 with
  | some (.int j) => if okR j = true then some (.ok (rgD 0 j) ρ1) else none
  | _ => none
theorem fi_range1 (hg : Gl X "range") (hm : X.mg "range" = none) (ha : FV X W κ m a fa) (hp : starEach (a :: []) X.env = (false, eval a X.env) :: starEach [] X.env := by rfl) (hs : starEach [a] X.env = [(false, eval a X.env)] := by rfl) : FI X W b κ tg (.Call (.Name "range" p) [a] [] pos) (iRg1 m fa) := (pi_range1 hg hm (pa_cons ha pa_nil hp) hs).imp fun σ H R h => by
  obtain ⟨ρ, w, rfl, rel, post⟩ := h
  refine seqV (P := PostI (ctx X W) b κ σ w R) rel post (fun z => z) (fun n d ρ' z => z) fun d ρ1 v w1 rel1 e1 t1 post1 => ?_
  split at post1
  · rename_i j ej
    split at post1
    · rename_i hok
      obtain ⟨h1, h2⟩ : -(2 ^ 62) ≤ j ∧ j < 2 ^ 62 := of_decide_eq_true hok
      have ev := dp_int (rd_dp rel1 t1 ej)
      subst ev
      refine ⟨j, rfl, h1, h2, post1 w1 _ rel1 e1 ?_⟩
      have := walk_range (b := b) (K := X.K) (F := w1.F) (lo := 0) (n := j.toNat)
      unfold rgD
      rw [Int.sub_zero]
      exact this
    · exact post1.elim
  · exact post1.elim
def iRg2 (ma mb : Md) (fa fb : M D) : M (List D) := fun ρ => bdo (fa ρ) fun x ρ1 => bdo (fb ρ1) fun y ρ2 => match rd ma x ρ2, rd mb y ρ2 with
  | some (.int i), some (.int j) => if okR i && okR j then some (.ok (rgD i j) ρ2) else none
  | _, _ => none
theorem fi_range2 {a' : Expr} (hg : Gl X "range") (hm : X.mg "range" = none) (ha : FV X W κ ma a fa) (hb : FV X W κ mb a' fb) (hp : starEach (a :: [a']) X.env = (false, eval a X.env) :: starEach [a'] X.env := by rfl) (hp2 : starEach (a' :: []) X.env = (false, eval a' X.env) :: starEach [] X.env := by rfl)
    (hs : starEach [a, a'] X.env = [(false, eval a X.env), (false, eval a' X.env)] := by rfl) (hs2 : starEach [a'] X.env = [(false, eval a' X.env)] := by rfl) : FI X W b κ tg (.Call (.Name "range" p) [a, a'] [] pos) (iRg2 ma mb fa fb) := (pi_range2 hg hm (pa_cons ha (pa_cons hb pa_nil hp2) hp) hs hs2).imp fun σ H R h => by
  obtain ⟨ρ, w, rfl, rel, post⟩ := h
  refine seqV (P := PostI (ctx X W) b κ σ w R) rel post (fun z => z) (fun n d ρ' z => z) fun dx ρ1 vx w1 rel1 e1 t1 post1 => ?_
  refine seqV (P := PostI (ctx X W) b κ σ w R) rel1 post1 (fun z => z) (fun n d ρ' z => ErrOk.since z e1) fun dy ρ2 vy w2 rel2 e2 t2 post2 => ?_
  split at post2
  · rename_i i j ei ej
    split at post2
    · rename_i hok
      rw [Bool.and_eq_true] at hok
      obtain ⟨h1, h2⟩ : -(2 ^ 62) ≤ i ∧ i < 2 ^ 62 := of_decide_eq_true hok.1
      obtain ⟨h3, h4⟩ : -(2 ^ 62) ≤ j ∧ j < 2 ^ 62 := of_decide_eq_true hok.2
      have ex := dp_int (rd_dp rel2 (t1.keep e2) ei)
      have ey := dp_int (rd_dp rel2 t2 ej)
      subst ex ey
      exact ⟨i, j, rfl, ⟨h1, h2, h3, h4⟩, post2 w2 _ rel2 (e1.trans e2) walk_range⟩
    · exact post2.elim
  · exact post2.elim
/-! ### for -/
/-- what a turn yields, in the world behind -/
theorem world_yield {K : PySem.W.Frag} {J : It} {ds : List D} {i : Nat} {d : D} {x : V} {H' : Hp} {ρ : Env} {σ : L2.St} {w : Wd} {F0 : Hp} (wk : WalkD b K J ds F0) (s0 : Same F0 w.F) (rel : Rel K κ ρ σ w) (ed : ds[i]? = some d) (y : J.yld i w.H x H') :
    ∃ w', w'.H = H' ∧ Rel K κ ρ σ w' ∧ Ext w w' ∧ RD b K w'.F x d := by
  obtain ⟨_, h⟩ := wk i w.H (s0.trans rel.same)
  rcases (h d ed).2 x H' y with ⟨rfl, r⟩ | ⟨T, xs, es, nT, rfl, rfl, rfl, rs⟩
  · exact ⟨w, rfl, rel, Ext.refl _, r.mono s0⟩
  · obtain ⟨w2, eH, eF, rel2, e2⟩ := world_new (o := .tup xs) rel nT
    exact ⟨w2, eH, rel2, e2, .tup (by rw [eF, upd_same]) ((rs.mono s0).mono e2.same)⟩
def forL (ft : D → Env → Option Env) (f : Env → Option Fl) : List D → Env → Option Fl
  | [], ρ => some (.nx ρ)
  | d :: ds, ρ => match ft d ρ with
    | some ρ1 => (match f ρ1 with
      | some (.nx ρ2) => forL ft f ds ρ2
      | some (.ct ρ2) => forL ft f ds ρ2
      | some (.bk ρ2) => some (.nx ρ2)
      | o => o)
    | none => none
def sFor (fi : M (List D)) (ft : D → Env → Option Env) (f : Env → Option Fl) : Env → Option Fl := fun ρ => bnd (fi ρ) Fl.err fun ds ρ1 => forL ft f ds ρ1
theorem fs_for {body : List Stmt} {fi : M (List D)} {ft : D → Env → Option Env} {f : Env → Option Fl} (hp : PassesOwn (model X.prog X.w) X.A X.env X.xe) (hc : X.calm = true) (hi : FI X W b κ tg e fi) {sl : List Nat} (hg : FG X W b sl κ κ tg ft) (hb : FSs X W { C with kl := κ } κ κ body f) (he : EK C κ := by first | exact .inl rfl | exact .inr rfl)
    (hs : ∀ x, foldedSetIterable e X.env x = pure x := by intro _; rfl) : FS X W C κ κ (.For tg e body [] pos) (sFor fi ft f) := (ps_for hp hc hi hg hb hs).imp fun D' σ H h => by
  obtain ⟨ρ, w, rfl, rel, post⟩ := h
  refine seqI (P := PostS (ctx X W) C κ D' w) rel post (fun z => z) (fun n d ρ' z => errS he z) fun ds ρ1 w1 J rel1 e1 wk post1 => ?_
  refine ⟨fun i m σ H => ∃ ρ w2, w2.H = H ∧ Rel X.K κ ρ σ w2 ∧ Ext w w2 ∧ Same w1.F w2.F ∧ m = ds.length - i ∧ PostS (ctx X W) C κ D' w (forL ft f (ds.drop i) ρ), ⟨ds.length, ρ1, w1, rfl, rel1, e1, Same.refl _, rfl, post1⟩, ?_⟩
  rintro i m σ _ ⟨ρ, w2, rfl, rel2, e2, s2, rfl, post2⟩
  have wk2 := wk i w2.H (s2.trans rel2.same)
  by_cases hi : i < ds.length
  · have ed : ds[i]? = some ds[i] := List.getElem?_eq_getElem hi
    rw [List.drop_eq_getElem_cons hi] at post2
    unfold forL at post2
    cases q : ft ds[i] ρ with
    | none =>
      rw [q] at post2
      exact post2.elim
    | some ρ3 =>
      rw [q] at post2
      refine .inr ⟨(wk2.2 _ ed).1, fun σ' H' => ∃ ρ w3, w3.H = H' ∧ Rel X.K κ ρ σ' w3 ∧ Ext w w3 ∧ Same w1.F w3.F ∧ PostS (ctx X W) C κ D' w (forL ft f (ds.drop (i + 1)) ρ), fun σ' H' z => ?_, fun x H' y => ?_⟩
      · obtain ⟨ρ, w3, z1, z2, z3, z4, z5⟩ := z
        exact ⟨ds.length - (i + 1), by omega, ρ, w3, z1, z2, z3, z4, rfl, z5⟩
      · obtain ⟨w3, eH, rel3, e3, r3⟩ := world_yield wk s2 rel2 ed y
        subst eH
        refine ⟨ρ, w3, ds[i], rfl, rel3, r3, ?_⟩
        rw [q]
        intro σ4 w4 eH4 _ rel4 e4
        have e24 := (e2.trans e3).trans e4
        have s24 := (s2.trans e3.same).trans e4.same
        refine ⟨ρ3, w4, rfl, rel4, ?_⟩
        dsimp only at post2
        cases qb : f ρ3 with
        | none =>
          rw [qb] at post2
          exact post2
        | some o =>
          rw [qb] at post2
          cases o with
          | nx ρ5 => exact fun σ' w5 rel5 e5 => ⟨ρ5, w5, rfl, rel5, e24.trans e5, s24.trans e5.same, post2⟩
          | ct ρ5 => exact fun σ' w5 rel5 e5 => ⟨ρ5, w5, rfl, rel5, e24.trans e5, s24.trans e5.same, post2⟩
          | bk ρ5 => exact fun σ' w5 rel5 e5 => post2 σ' w5 rel5 (e24.trans e5)
          | ret d ρ5 => exact fun v w5 rel5 e5 t5 => post2 v w5 rel5 (e24.trans e5) (t5.since e24)
          | err nm d ρ5 => exact fun cls dx σ' w5 sm r5 e5 ea => post2 cls dx σ' w5 sm r5 (e24.trans e5) ea
  · rw [List.drop_eq_nil_of_le (by omega)] at post2
    exact .inl ⟨wk2.1 (by omega), post2 σ w2 rel2 e2⟩
end
/-! ### comprehensions -/
section
variable {K : PySem.W.Frag} {F H : Hp}
def wipeE (ρ : Env) : List Nat → Env
  | [] => ρ
  | v :: vs => (wipeE ρ vs).set v none
theorem slots_wipe {κ : List Kind} {ρ : Env} {σ : L2.St} {fp : FpS} (h : Slots K F H κ ρ σ fp) : ∀ i : Nat, Slots K F H κ (ρ.set i none) (σ.set i none) fp := by
  induction h with
  | nil => exact fun i => .nil
  | skip t ih =>
    intro i
    cases i with
    | zero => exact .skip t
    | succ i => exact .skip (ih i)
  | cons r t dj h1 h2 ih =>
    intro i
    cases i with
    | zero => exact .skip (t.mono h2)
    | succ i => exact .cons r (ih i) dj h1 h2
theorem slots_wipes {κ : List Kind} {ρ : Env} {σ : L2.St} {fp : FpS} (h : Slots K F H κ ρ σ fp) : ∀ vs : List Nat, Slots K F H κ (wipeE ρ vs) (wipe σ vs) fp
  | [] => h
  | v :: vs => slots_wipe (slots_wipes h vs) v
theorem slots_unwipe {κ : List Kind} {ρ : Env} {σ' : L2.St} {fp : FpS} (h : Slots K F H κ ρ σ' fp) : ∀ {i : Nat} {σ : L2.St}, σ'.length = σ.length → (∀ j, j ≠ i → σ'[j]? = σ[j]?) → Slots K F H κ (ρ.set i none) σ fp := by
  induction h with
  | nil =>
    intro i σ hl _
    cases σ with
    | nil => exact .nil
    | cons _ _ => simp at hl
  | @skip k κ ρ o σ0 fp t ih =>
    intro i σ hl hj
    cases σ with
    | nil => simp at hl
    | cons o' σ =>
      cases i with
      | zero =>
        have : σ0 = σ := List.ext_getElem? fun j => by simpa using hj (j + 1) (by omega)
        subst this
        exact .skip t
      | succ i => exact .skip (ih (by simpa using hl) fun j hne => by simpa using hj (j + 1) (by omega))
  | @cons k κ d ρ v σ0 f g fp r t dj h1 h2 ih =>
    intro i σ hl hj
    cases σ with
    | nil => simp at hl
    | cons o' σ =>
      cases i with
      | zero =>
        have : σ0 = σ := List.ext_getElem? fun j => by simpa using hj (j + 1) (by omega)
        subst this
        exact .skip (t.mono h2)
      | succ i =>
        have e0 := hj 0 (by omega)
        simp only [List.getElem?_cons_zero, Option.some.injEq] at e0
        subst e0
        exact .cons r (ih (by simpa using hl) fun j hne => by simpa using hj (j + 1) (by omega)) dj h1 h2
theorem slots_unwipes {κ : List Kind} : ∀ {vs : List Nat} {ρ : Env} {σ : L2.St} {fp : FpS}, Slots K F H κ ρ (wipe σ vs) fp → Slots K F H κ (wipeE ρ vs) σ fp
  | [], _, _, _, h => h
  | v :: vs, ρ, σ, fp, h => by
    -- the last one first
    have h' : Slots K F H κ (ρ.set v none) (wipe σ vs) fp := slots_unwipe (i := v) h (by show ((wipe σ vs).set v none).length = _; rw [List.length_set]) fun j hj => by
      show ((wipe σ vs).set v none)[j]? = _
      rw [List.getElem?_set_ne (Ne.symm hj)]
    have q := slots_unwipes h'
    have e : ∀ (vs : List Nat) (ρ : Env), wipeE (ρ.set v none) vs = (wipeE ρ vs).set v none := by
      intro vs
      induction vs with
      | nil => intro ρ; rfl
      | cons u us ih =>
        intro ρ
        show (wipeE (ρ.set v none) us).set u none = ((wipeE ρ us).set u none).set v none
        rw [ih]
        by_cases huv : u = v
        · rw [huv]
        · rw [List.set_comm _ _ (Ne.symm huv)]
    rw [e] at q
    exact q
theorem wipe_get (σ : L2.St) : ∀ (vs : List Nat) (i : Nat), (wipe σ vs)[i]? = if i ∈ vs then (if i < σ.length then some none else none) else σ[i]?
  | [], i => by simp [wipe]
  | v :: vs, i => by
    show ((wipe σ vs).set v none)[i]? = _
    by_cases h : v = i
    · subst h
      rw [if_pos (List.mem_cons_self ..)]
      by_cases hl : v < σ.length
      · rw [if_pos hl, List.getElem?_set_self (by rw [wipe_length]; exact hl)]
      · rw [if_neg hl, List.getElem?_eq_none (by rw [List.length_set, wipe_length]; omega)]
    · rw [List.getElem?_set_ne h, wipe_get σ vs i]
      by_cases hm : i ∈ vs
      · rw [if_pos hm, if_pos (List.mem_cons_of_mem _ hm)]
      · rw [if_neg hm, if_neg (fun z => (List.mem_cons.mp z).elim (fun y => h y.symm) hm)]
theorem wipe_upto {σ σ' : L2.St} {sl vs : List Nat} (u : Upto sl (wipe σ vs) σ') (h : ∀ i ∈ sl, i ∈ vs) : wipe σ' vs = wipe σ vs := List.ext_getElem? fun i => by
  have hl : σ'.length = σ.length := by rw [u.1, wipe_length]
  rw [wipe_get, wipe_get, hl]
  by_cases hm : i ∈ vs
  · rw [if_pos hm, if_pos hm]
  · rw [if_neg hm, if_neg hm, u.2 i fun z => hm (h i z), wipe_get, if_neg hm]
end
/-- none of the slots is a changed parameter -/
def nfAt (κ : List Kind) : List Nat → Prop
  | [] => True
  | i :: vs => (match κ[i]? with | some (.fix _ _) => False | _ => True) ∧ nfAt κ vs
theorem nfAt_ne {κ : List Kind} : ∀ {vs : List Nat}, nfAt κ vs → ∀ i ∈ vs, ∀ (u : V) (k : Kind), κ[i]? ≠ some (Kind.fix u k)
  | [], _, i, hi, _, _, _ => by simp at hi
  | v :: vs, ⟨h, r⟩, i, hi, u, k, e => by
    rcases List.mem_cons.mp hi with z | z
    · subst z
      rw [e] at h
      exact h
    · exact nfAt_ne r i z u k e
theorem rel_wipe {K : PySem.W.Frag} {κ : List Kind} {ρ : Env} {σ : L2.St} {w : Wd} {vs : List Nat} (hv : nfAt κ vs) (rel : Rel K κ ρ σ w) : Rel K κ (wipeE ρ vs) (wipe σ vs) w :=
  ⟨rel.same, rel.frz, rel.live, fun i u k e => by
    rw [wipe_get, if_neg fun z => nfAt_ne hv i z u k e]
    exact rel.fixed i u k e, slots_wipes rel.slots vs⟩
theorem rel_unwipe {K : PySem.W.Frag} {κ : List Kind} {ρ : Env} {σ : L2.St} {w : Wd} {vs : List Nat} (hf : ∀ (i : Nat) (u : V) (k : Kind), κ[i]? = some (Kind.fix u k) → σ[i]? = some (some u)) (rel : Rel K κ ρ (wipe σ vs) w) : Rel K κ (wipeE ρ vs) σ w :=
  ⟨rel.same, rel.frz, rel.live, hf, slots_unwipes rel.slots⟩
/-- an owned list is frozen -/
theorem temp_freeze {K : PySem.W.Frag} {b : Bool} {κ : List Kind} {ρ : Env} {σ : L2.St} {w w1 : Wd} {d : D} {v : V} (rel : Rel K κ ρ σ w1) (e : Ext w w1) (t : Temp K (.lst (.v b)) w w1 d v) : ∃ w2, w2.H = w1.H ∧ Rel K κ ρ σ w2 ∧ Ext w w2 ∧ Temp K (.v b) w w2 d v := by
  obtain ⟨g, ⟨a, vs, ds, g', rfl, rfl, eH, ga, _, _, od⟩, cg⟩ := t
  obtain ⟨c1, c2, c3, c4⟩ := cg a ga
  have sF : Same w1.F (upd w1.F a (.lst vs)) := fun x o q => by rw [upd_ne (ne_of_none q c2)]; exact q
  have ne : ∀ x, w1.fp x → x ≠ a := fun x h z => c1 (by rw [← z]; exact h)
  refine ⟨⟨upd w1.F a (.lst vs), w1.H, w1.fp⟩, rfl, ⟨fun x o q => ?_, fun x h => ?_, rel.live, rel.fixed, rel.slots.frame sF fun _ _ _ h => h⟩, ⟨e.same.trans sF, fun x o q => ?_, e.keep, e.fp⟩, Temp.imm (.lst upd_same ((odl_rds od).mono sF))⟩
  · have q' : upd w1.F a (.lst vs) x = some o := q
    by_cases hx : x = a
    · rw [hx, upd_same] at q'
      cases q'
      show w1.H x = _
      rw [hx]
      exact eH
    · rw [upd_ne hx] at q'
      exact rel.same x o q'
  · show upd w1.F a (.lst vs) x = none
    rw [upd_ne (ne x h)]
    exact rel.frz x h
  · have q' : upd w1.F a (.lst vs) x = some o := q
    by_cases hx : x = a
    · rw [hx]
      exact .inr c4
    · rw [upd_ne hx] at q'
      exact e.new x o q'
theorem fin_temp {c : Ct} {b : Bool} {k : Kind} {κ : List Kind} {ρ : Env} {σ : L2.St} {w w1 : Wd} {d : D} {v : V} {Q : VK} (hk : newL b k) (h : PostV c κ σ (.t k) w Q (some (.ok d ρ))) (rel : Rel c.K κ ρ σ w1) (e : Ext w w1) (t : Temp c.K (.lst (.v b)) w w1 d v) : Q v w1.H := by
  cases k with
  | v c' =>
    cases hk
    obtain ⟨w2, eH, rel2, e2, t2⟩ := temp_freeze rel e t
    rw [← eH]
    exact h v w2 rel2 e2 t2
  | lst k =>
    cases k with
    | v c' =>
      cases hk
      exact h v w1 rel e t
    | lst _ => exact hk.elim
    | _ => exact hk.elim
  | _ => exact hk.elim
abbrev W0 : WX := fun _ _ _ _ => False
structure FTs (X : Cx) (κ : List Kind) (ifs : List Expr) (f : M Bool) : Prop where
  h : PTs X ifs (tT (ctx X W0) κ f)
theorem _root_.L2.PTs.imp {X : Cx} {e : List Expr} {t t' : TT} (h : PTs X e t) (i : ∀ σ H Q, t' σ H Q → t σ H Q) : PTs X e t' := ⟨fun pins s σ H Q I q => h.run pins s σ H Q I (i σ H Q q)⟩
def tYesF : M Bool := fun ρ => some (.ok true ρ)
section
variable {X : Cx} {W : WX} {C : FC} {b : Bool} {κ κ1 κn : List Kind} {pos p : Pos} {tg e a : Expr} {fa fb : M D} {m ma mb : Md}
theorem fts_nil : FTs X κ [] tYesF := ⟨pts_nil.imp fun σ H Q h => by
  obtain ⟨ρ, w, rfl, rel, post⟩ := h
  exact post w rel (Ext.refl _)⟩
theorem fts_one {t : M Bool} (h : FT X W0 κ a t) : FTs X κ [a] t := ⟨pts_one h⟩
def compL (vs : List Nat) (ft : D → Env → Option Env) (tt : M Bool) (fe : M D) : List D → List D → Env → Option (Out (List D))
  | [], acc, ρ => some (.ok acc (wipeE ρ vs))
  | d :: ds, acc, ρ => match ft d (wipeE ρ vs) with
    | some ρ1 => (match tt ρ1 with
      | some (.ok true ρ2) => (match fe ρ2 with
        | some (.ok y ρ3) => if acc.length < sizeLine then compL vs ft tt fe ds (acc ++ [y]) (wipeE ρ3 vs) else none
        | _ => none)
      | some (.ok false ρ2) => compL vs ft tt fe ds acc (wipeE ρ2 vs)
      | _ => none)
    | none => none
def fLc (vs : List Nat) (fi : M (List D)) (ft : D → Env → Option Env) (tt : M Bool) (fe : M D) : M D := fun ρ => bdo (fi ρ) fun ds ρ1 => bdo (compL vs ft tt fe ds [] ρ1) fun r ρ2 => some (.ok (.list r) ρ2)
theorem temp_app {K : PySem.W.Frag} {κ : List Kind} {ρ : Env} {σ : L2.St} {w1 w2 : Wd} {L : Addr} {acc : List V} {ds : List D} {y : V} {d : D} (rel : Rel K κ ρ σ w2) (e : Ext w1 w2) (nL : w1.H L = none) (t : Temp K (.lst (.v b)) w1 w2 (.list ds) (.ref L)) (ha : w2.H L = some (.lst acc)) (ry : RD b K w2.F y d) :
    ∃ w3, w3.H = upd w2.H L (.lst (acc ++ [y])) ∧ w3.F = w2.F ∧ Rel K κ ρ σ w3 ∧ Ext w1 w3 ∧ Temp K (.lst (.v b)) w1 w3 (.list (ds ++ [d])) (.ref L) := by
  obtain ⟨g, ⟨a, vs, ds', g', ea, ed, eH, ga, _, _, od⟩, cg⟩ := t
  cases ea
  cases ed
  rw [ha] at eH
  cases eH
  obtain ⟨c1, c2, c3, c4⟩ := cg L ga
  have ne : ∀ x, w2.fp x → x ≠ L := fun x h z => c1 (by rw [← z]; exact h)
  refine ⟨⟨w2.F, upd w2.H L (.lst (acc ++ [y])), w2.fp⟩, rfl, rfl, ⟨fun x o q => ?_, rel.frz, fun x h => ?_, rel.fixed, rel.slots.frame (Same.refl _) fun x o h q => ?_⟩, ⟨e.same, e.new, fun x o q n => ?_, e.fp⟩, ⟨fun x => x = L, ⟨L, _, _, fun _ => False, rfl, rfl, upd_same, rfl, fun z => z, fun _ z => z.elim, odl_imm ((odl_rds od).append (.cons ry .nil))⟩, fun x hx => ?_⟩⟩
  · show upd w2.H L _ x = some o
    rw [upd_ne (ne_of_none q c2)]
    exact rel.same x o q
  · show upd w2.H L _ x ≠ none
    rw [upd_ne (ne x h)]
    exact rel.live x h
  · show upd w2.H L _ x = some o
    rw [upd_ne (ne x h)]
    exact q
  · show upd w2.H L _ x = some o
    rw [upd_ne (ne_of_none q nL)]
    exact e.keep x o q n
  · have hx' : x = L := hx
    rw [hx']
    exact ⟨c1, c2, (by show upd w2.H L _ L ≠ none; rw [upd_same]; intro z; cases z), .inr nL⟩
theorem ev_lc {kd : Kind} {vs sl : List Nat} {fi : M (List D)} {ft : D → Env → Option Env} {tt : M Bool} {fe : M D} {σ : L2.St} {H : Hp} {Q : VK} (hd : newL b kd) (hv : nfAt κ vs) (hs : ∀ i ∈ sl, i ∈ vs)
    (h : tV (ctx X W) κ (.t kd) (fLc vs fi ft tt fe) σ H Q) : tLc (tI (ctx X W) b κ fi) (tG (ctx X W0) b sl κ κ ft) (tT (ctx X W0) κ tt) (tV (ctx X W0) κ (.t (.v b)) fe) vs σ H Q := by
  obtain ⟨ρ, w, rfl, rel, post⟩ := h
  refine seqI (P := PostV (ctx X W) κ σ (.t kd) w Q) rel post (fun z => z) (fun n d ρ' z => z) fun ds ρ1 w1 J rel1 e1 wk post1 => ?_
  intro L nL
  obtain ⟨w2, eH2, eF2, ef2, rel2, e2⟩ := world_own (o := .lst []) rel1 nL
  have t2 : Temp X.K (.lst (.v b)) w1 w2 (.list []) (.ref L) := ⟨fun x => x = L, ⟨L, [], [], fun _ => False, rfl, rfl, by rw [eH2, upd_same], rfl, fun z => z, fun _ z => z.elim, .nil⟩, fun x hx => by
    have hx' : x = L := hx
    rw [hx', ef2, eF2, eH2, upd_same]
    exact ⟨fun z => rel1.live L z nL, rel1.same.free nL, fun z => (nomatch z), .inr nL⟩⟩
  refine ⟨fun i m H => ∃ ρ wi acc, wi.H = H ∧ Rel X.K κ ρ (wipe σ vs) wi ∧ Ext w1 wi ∧ Temp X.K (.lst (.v b)) w1 wi (.list acc) (.ref L) ∧ m = ds.length - i ∧ PostV (ctx X W) κ σ (.t kd) w Q (bdo (compL vs ft tt fe (ds.drop i) acc ρ) fun r ρ2 => some (.ok (.list r) ρ2)), ⟨ds.length, wipeE ρ1 vs, w2, [], eH2, rel_wipe hv rel2, e2, t2, rfl, ?_⟩, ?_⟩
  · rw [List.drop_zero]
    have ww : ∀ (us : List Nat) (ρ : Env), wipeE (wipeE ρ us) us = wipeE ρ us := by
      intro us ρ
      have key : ∀ (us : List Nat) (v : Nat) (ρ : Env), wipeE (ρ.set v none) us = (wipeE ρ us).set v none := by
        intro us v
        induction us with
        | nil => intro ρ; rfl
        | cons u us ih =>
          intro ρ
          show (wipeE (ρ.set v none) us).set u none = ((wipeE ρ us).set u none).set v none
          rw [ih]
          by_cases huv : u = v
          · rw [huv]
          · rw [List.set_comm _ _ (Ne.symm huv)]
      induction us with
      | nil => rfl
      | cons u us ih =>
        show (wipeE ((wipeE ρ us).set u none) us).set u none = (wipeE ρ us).set u none
        rw [key, ih, List.set_set]
    have cw : ∀ ds acc, compL vs ft tt fe ds acc (wipeE ρ1 vs) = compL vs ft tt fe ds acc ρ1 := by
      intro ds acc
      cases ds with
      | nil => unfold compL; rw [ww]
      | cons d ds => unfold compL; rw [ww]
    rw [cw]
    exact post1
  rintro i m _ ⟨ρi, wi, acc, rfl, reli, ei, ti, rfl, posti⟩
  have wki := wk i wi.H (ei.same.trans reli.same)
  by_cases hi : i < ds.length
  · have ed : ds[i]? = some ds[i] := List.getElem?_eq_getElem hi
    rw [List.drop_eq_getElem_cons hi] at posti
    unfold compL at posti
    cases q : ft ds[i] (wipeE ρi vs) with
    | none =>
      rw [q] at posti
      exact posti.elim
    | some ρ3 =>
      rw [q] at posti
      dsimp only at posti
      refine .inr ⟨(wki.2 _ ed).1, fun H' => ∃ ρ wj acc, wj.H = H' ∧ Rel X.K κ ρ (wipe σ vs) wj ∧ Ext w1 wj ∧ Temp X.K (.lst (.v b)) w1 wj (.list acc) (.ref L) ∧ PostV (ctx X W) κ σ (.t kd) w Q (bdo (compL vs ft tt fe (ds.drop (i + 1)) acc ρ) fun r ρ2 => some (.ok (.list r) ρ2)), fun H' z => ?_, fun x H' y => ?_⟩
      · obtain ⟨ρ, wj, acc, z1, z2, z3, z4, z5⟩ := z
        exact ⟨ds.length - (i + 1), by omega, ρ, wj, acc, z1, z2, z3, z4, rfl, z5⟩
      · obtain ⟨w4, eH4, rel4, e4, r4⟩ := world_yield wk ei.same reli ed y
        subst eH4
        have relw : Rel X.K κ (wipeE ρi vs) (wipe σ vs) w4 := by
          have z := rel_wipe hv rel4
          have : wipe (wipe σ vs) vs = wipe σ vs := wipe_upto (sl := []) (Upto.refl _ _) (fun _ z => by simp at z)
          rw [this] at z
          exact z
        refine ⟨wipeE ρi vs, w4, ds[i], rfl, relw, r4, ?_⟩
        rw [q]
        intro σ5 w5 eH5 u5 rel5 e5
        have ew : wipe σ5 vs = wipe σ vs := wipe_upto u5 hs
        refine ⟨ew, ?_⟩
        have e15 := (ei.trans e4).trans e5
        have t5 := (ti.keep e4).keep e5
        refine ⟨ρ3, w5, rfl, rel5, ?_⟩
        cases qt : tt ρ3 with
        | none =>
          rw [qt] at posti
          exact posti.elim
        | some o =>
          rw [qt] at posti
          cases o with
          | err n d ρ' => exact posti.elim
          | ok bb ρ6 =>
            intro w6 rel6 e6
            have back : ∀ {ρ : Env} {w : Wd}, Rel X.K κ ρ σ5 w → Rel X.K κ (wipeE ρ vs) (wipe σ vs) w := fun r => by
              have z := rel_wipe hv r
              rw [ew] at z
              exact z
            cases bb with
            | false =>
              rw [if_neg Bool.false_ne_true]
              exact ⟨wipeE ρ6 vs, w6, acc, rfl, back rel6, e15.trans e6, t5.keep e6, posti⟩
            | true =>
              rw [if_pos rfl]
              dsimp only at posti
              refine ⟨ρ6, w6, rfl, rel6, ?_⟩
              cases qe : fe ρ6 with
              | none =>
                rw [qe] at posti
                exact posti.elim
              | some o =>
                rw [qe] at posti
                cases o with
                | err n d ρ' => exact posti.elim
                | ok yd ρ7 =>
                  dsimp only at posti
                  intro yv w7 rel7 e7 t7
                  split at posti
                  · rename_i hl
                    have t7L := (t5.keep e6).keep e7
                    obtain ⟨g, ⟨a, vs', ds', g', ea, ed', eHa, _, _, _, od⟩, _⟩ := id t7L
                    cases ea
                    cases ed'
                    refine ⟨vs', eHa, by rw [(odl_rds od).length]; exact hl, ?_⟩
                    obtain ⟨w8, eH8, _, rel8, e8, t8⟩ := temp_app (back rel7) ((e15.trans e6).trans e7) nL t7L eHa (Temp.rd t7)
                    exact ⟨wipeE ρ7 vs, w8, _, eH8, rel8, e8, t8, posti⟩
                  · exact posti.elim
  · rw [List.drop_eq_nil_of_le (by omega)] at posti
    exact .inl ⟨wki.1 (by omega), fin_temp hd posti (rel_unwipe rel1.fixed reli) (e1.trans ei) (ti.since e1)⟩
theorem fe_lc {kd : Kind} {elt iter : Expr} {ifs : List Expr} {scope : Scope} {own : List (Str × Nat)} {sl : List Nat} {fi : M (List D)} {ft : D → Env → Option Env} {tt : M Bool} {fe : M D} (hd : newL b kd) (hc : X.calm = true) (hN : X.N.Nodup) (hi : FI X W b κ tg iter fi) (ok : BlkOk X.N X.env.scope scope own) (hv : nfAt κ (own.map (·.2))) (hs : ∀ i ∈ sl, i ∈ own.map (·.2))
    (hg : ∀ (s : Shared) (H : Hp) (A : Addr) (cl : List (Str × Addr)) (fp : List Addr), FG (X.blk s H scope (compEnvC scope cl A X.env) fp) W0 b sl κ κ tg ft) (ht : ∀ (s : Shared) (H : Hp) (A : Addr) (cl : List (Str × Addr)) (fp : List Addr), FTs (X.blk s H scope (compEnvC scope cl A X.env) fp) κ ifs tt)
    (he : ∀ (s : Shared) (H : Hp) (A : Addr) (cl : List (Str × Addr)) (fp : List Addr), FV (X.blk s H scope (compEnvC scope cl A X.env) fp) W0 κ (.t (.v b)) elt fe) (hf : ∀ x, foldedSetIterable iter X.env x = pure x := by intro _; rfl) :
    FV X W κ (.t kd) (.ListComp elt [⟨tg, iter, ifs, 0⟩] scope pos) (fLc (own.map (·.2)) fi ft tt fe) :=
  (pe_lc (own := own) (g := tG (ctx X W0) b sl κ κ ft) (tt := tT (ctx X W0) κ tt) (te := tV (ctx X W0) κ (.t (.v b)) fe) hc hN hi ok hg (fun s H A cl fp => (ht s H A cl fp).h) he hf).imp fun σ H Q h => ev_lc hd hv hs h
end
end FN
set_option Elab.async false
set_option linter.all false
set_option maxRecDepth 100000
set_option maxHeartbeats 4000000
/-! FN8: lists that are changed, several targets, built-ins. -/
namespace FN
open PySem PySem.Spec PyProof.Rows L2
/-- the slot's list is owned -/
def ownK (b : Bool) : Option Kind → Prop
  | some (.lst (.v c)) => c = b
  | some (.fix _ (.lst (.v c))) => c = b
  | _ => False
theorem own_cases {b : Bool} {o : Option Kind} (h : ownK b o) : ∃ k, o = some k ∧ (k = .lst (.v b) ∨ ∃ u, k = .fix u (.lst (.v b))) := by
  unfold ownK at h
  split at h
  · exact ⟨_, rfl, .inl (by rw [h])⟩
  · exact ⟨_, rfl, .inr ⟨_, by rw [h]⟩⟩
  · exact h.elim
theorem own_list {K : PySem.W.Frag} {b : Bool} {κ : List Kind} {ρ : Env} {σ : L2.St} {w : Wd} {i : Nat} {ds : List D} (rel : Rel K κ ρ σ w) (hk : ownK b κ[i]?) (ed : ρ[i]? = some (some (.list ds))) :
    ∃ a xs, σ[i]? = some (some (.ref a)) ∧ w.H a = some (.lst xs) ∧ RDs b K w.F xs ds ∧ ∀ xs' ds', RDs b K w.F xs' ds' → ∃ w', w'.H = upd w.H a (.lst xs') ∧ w'.F = w.F ∧ Rel K κ (ρ.set i (some (.list ds'))) σ w' ∧ Ext w w' := by
  obtain ⟨k, ek, hk⟩ := own_cases hk
  obtain ⟨v, f, g, ev, o, s, y1, y2, y3⟩ := rel.slots.out ed ek
  have hi : i < σ.length := (List.getElem?_eq_some_iff.mp ev).1
  have o1 : OD K w.F w.H (.lst (.v b)) v (.list ds) f := by
    rcases hk with rfl | ⟨u, rfl⟩
    · exact o
    · exact o
  obtain ⟨a, xs, ds0, g', rfl, e2, eH, ga, _, _, od⟩ := o1
  cases e2
  refine ⟨a, xs, ev, eH, odl_rds od, fun xs' ds' r' => ?_⟩
  have nF : w.F a = none := rel.frz a (y2 a ga)
  have ne : ∀ x, g x → x ≠ a := fun x h z => y1 a ga (by rw [← z]; exact h)
  have s' : Slots K w.F (upd w.H a (.lst xs')) κ (ρ.set i none) σ g := s.frame (Same.refl _) fun x o h q => by rw [upd_ne (ne x h)]; exact q
  have o' : OD K w.F (upd w.H a (.lst xs')) k (.ref a) (.list ds') (fun x => x = a) := by
    have z : OD K w.F (upd w.H a (.lst xs')) (.lst (.v b)) (.ref a) (.list ds') (fun x => x = a) := ⟨a, xs', ds', fun _ => False, rfl, rfl, upd_same, rfl, fun z => z, fun _ z => z.elim, odl_imm r'⟩
    rcases hk with rfl | ⟨u, rfl⟩
    · exact z
    · exact z
  have p := s'.put hi o' (fun x hx hg => ne x hg hx)
  rw [List.set_set, set_same ek, set_same ev] at p
  refine ⟨⟨w.F, upd w.H a (.lst xs'), fun x => x = a ∨ g x⟩, rfl, rfl, ⟨fun x o q => ?_, fun x h => ?_, fun x h => ?_, rel.fixed, p⟩, ⟨Same.refl _, fun x o q => .inl q, fun x o q n => ?_, fun x h => .inl ?_⟩⟩
  · show upd w.H a _ x = some o
    rw [upd_ne (ne_of_none q nF)]
    exact rel.same x o q
  · rcases h with rfl | h
    · exact nF
    · exact rel.frz x (y3 x h)
  · show upd w.H a _ x ≠ none
    by_cases hx : x = a
    · rw [hx, upd_same]
      intro z
      cases z
    · rw [upd_ne hx]
      exact rel.live x (h.elim (fun z => absurd z hx) (y3 x))
  · show upd w.H a _ x = some o
    rw [upd_ne (fun z => n (by rw [z]; exact y2 a ga))]
    exact q
  · rcases h with rfl | h
    · exact y2 _ ga
    · exact y3 x h
theorem tyV_list {K : PySem.W.Frag} {H : Hp} {a : Addr} {xs : List V} (h : H a = some (.lst xs)) : tyV K "list" (.ref a) H := .inl ⟨rfl, xs, SqL.of h⟩
section
variable {X : Cx} {W : WX} {C : FC} {b : Bool} {κ κ1 κn : List Kind} {pos p apos cpos : Pos} {tg e a o : Expr} {fa fb : M D} {m ma mb : Md} {i : Nat}
/-- a method of the owned list in slot i, one argument: op gives the answer and the new list -/
def fMt (i : Nat) (op : List D → D → Option (D × List D)) (fa : M D) : M D := fun ρ => match ρ[i]? with
  | some (some (.list _)) => bdo (fa ρ) fun d ρ1 => match ρ1[i]? with
    | some (some (.list ds)) => (op ds d).map fun r => .ok r.1 (ρ1.set i (some (.list r.2)))
    | _ => none
  | _ => none
def fMt0 (i : Nat) (op : List D → Option (D × List D)) : M D := fun ρ => match ρ[i]? with
  | some (some (.list ds)) => (op ds).map fun r => .ok r.1 (ρ.set i (some (.list r.2)))
  | _ => none
theorem ev_mt {b2 : Bool} {r : V → List V → Hp → VK → Prop} {op : List D → D → Option (D × List D)} {σ : L2.St} {H : Hp} {Q : VK} (hk : ownK b κ[i]?) (hl : ∀ ρ, fa ρ = fa ρ)
    (hr : ∀ (ρ : Env) (w w2 : Wd) (a : Addr) (xs : List V) (ds : List D) (d : D) (v : V) (r0 : D) (ds' : List D), Rel X.K κ ρ σ w2 → Ext w w2 → w2.H a = some (.lst xs) → RDs b X.K w2.F xs ds → RD b2 X.K w2.F v d → op ds d = some (r0, ds') →
      (∀ v' xs', RD b X.K w2.F v' r0 → RDs b X.K w2.F xs' ds' → Q v' (upd w2.H a (.lst xs'))) → r (.ref a) [v] w2.H Q)
    (h : tV (ctx X W) κ (.t (.v b)) (fMt i op fa) σ H Q) : tBM X.K "list" r (tV (ctx X W) κ (.r i) (fRef i)) (tCons (tV (ctx X W) κ (.t (.v b2)) fa) tNil) σ H Q := by
  obtain ⟨ρ, w, rfl, rel, post⟩ := h
  unfold fMt at post
  split at post
  · rename_i ds0 ed0
    refine ⟨ρ, w, rfl, rel, ?_⟩
    unfold fRef
    rw [ed0]
    intro v0 w1 rel1 e1 t1
    obtain ⟨a, xs0, ev, eH0, _, _⟩ := own_list rel1 hk ed0
    rw [show σ[i]? = some (some v0) from t1] at ev
    cases ev
    refine ⟨tyV_list eH0, ?_⟩
    refine seqV (P := PostV (ctx X W) κ σ (.t (.v b)) w Q) rel1 post (fun z => z) (fun n d ρ' z => ErrOk.since z e1) fun d ρ2 v w2 rel2 e2 t2 post2 => ?_
    split at post2
    · rename_i ds ed
      obtain ⟨a', xs, ev, eH, rs, wr⟩ := own_list rel2 hk ed
      rw [show σ[i]? = some (some (V.ref a)) from t1] at ev
      cases ev
      cases q : op ds d with
      | none =>
        rw [q] at post2
        exact post2.elim
      | some r0 =>
        rw [q] at post2
        refine hr ρ2 w w2 a xs ds d v r0.1 r0.2 rel2 (e1.trans e2) eH rs (Temp.rd t2) (by rw [q]) fun v' xs' rv rxs => ?_
        obtain ⟨w3, eH3, eF3, rel3, e3⟩ := wr xs' r0.2 rxs
        rw [← eH3]
        exact post2 v' w3 rel3 ((e1.trans e2).trans e3) (Temp.imm (by rw [eF3]; exact rv))
    · exact post2.elim
  · exact post.elim
def oApp : List D → D → Option (D × List D) := fun ds d => if ds.length < sizeLine then some (.none, ds ++ [d]) else none
theorem fe_append {x : Str} {xp : Pos} (hk : ownK b κ[i]? := by rfl) (ho : FV X W κ (.r i) (.Name x xp) (fRef i)) (ha : FV X W κ (.t (.v b)) e fa)
    (hfew : ((backTo cpos (starEach (e :: []) X.env)).all (fun x => !x.1) && (backToKw cpos (keywordEach [] X.env)).all (fun x => x.1.isSome)
      && decide ((e :: []).length + ([] : List Keyword).length + (if ([] : List Keyword).isEmpty then 0 else 1) < 30)) = true := by rfl)
    (hline : (apos.endLine == cpos.line) = true := by rfl) (hs : starEach (e :: []) X.env = (false, eval e X.env) :: starEach [] X.env := by rfl) (hplain : (backTo cpos (starEach [] X.env)).any (·.1) = false := by rfl) :
    FV X W κ (.t (.v b)) (.Call (.Attribute (.Name x xp) "append" apos) [e] [] cpos) (fMt i oApp fa) :=
  (pe_bm PySem.F.plainAttrs_list PySem.F.slot_list_append PySem.F.type_list_append mt_append ho (pa_cons ha pa_nil hs) (by rfl) hfew hline hs hplain).imp fun σ H Q h => ev_mt hk (fun _ => rfl) (fun ρ w w2 a xs ds d v r0 ds' rel ext eH rs rv eo fin => by
    unfold oApp at eo
    split at eo
    · rename_i hl
      cases eo
      exact ⟨a, xs, v, rfl, rfl, eH, by rw [rs.length]; exact hl, fin _ _ .non (rs.append (.cons rv .nil))⟩
    · cases eo) h
def oPopAt : List D → D → Option (D × List D) := fun ds d => match d with
  | .int i => if okR i = true then (match ixN ds.length i with
    | some j => (match ds[j]? with
      | some y => some (y, ds.eraseIdx j)
      | none => none)
    | none => none) else none
  | _ => none
theorem fe_popAt {b2 : Bool} {x : Str} {xp : Pos} (hk : ownK b κ[i]? := by rfl) (ho : FV X W κ (.r i) (.Name x xp) (fRef i)) (ha : FV X W κ (.t (.v b2)) e fa)
    (hfew : ((backTo cpos (starEach (e :: []) X.env)).all (fun x => !x.1) && (backToKw cpos (keywordEach [] X.env)).all (fun x => x.1.isSome)
      && decide ((e :: []).length + ([] : List Keyword).length + (if ([] : List Keyword).isEmpty then 0 else 1) < 30)) = true := by rfl)
    (hline : (apos.endLine == cpos.line) = true := by rfl) (hs : starEach (e :: []) X.env = (false, eval e X.env) :: starEach [] X.env := by rfl) (hplain : (backTo cpos (starEach [] X.env)).any (·.1) = false := by rfl) :
    FV X W κ (.t (.v b)) (.Call (.Attribute (.Name x xp) "pop" apos) [e] [] cpos) (fMt i oPopAt fa) :=
  (pe_bm PySem.F.plainAttrs_list PySem.F.slot_list_pop PySem.F.type_list_pop mt_popAt ho (pa_cons ha pa_nil hs) (by rfl) hfew hline hs hplain).imp fun σ H Q h => ev_mt hk (fun _ => rfl) (fun ρ w w2 a xs ds d v r0 ds' rel ext eH rs rv eo fin => by
    unfold oPopAt at eo
    split at eo
    · rename_i i
      split at eo
      · rename_i hok
        obtain ⟨h1, h2⟩ : -(2 ^ 62) ≤ i ∧ i < 2 ^ 62 := of_decide_eq_true hok
        split at eo
        · rename_i j q
          split at eo
          · rename_i y q2
            cases eo
            obtain ⟨yv, ey, ry⟩ := rs.get q2
            obtain ⟨z1, z2, z3, z4⟩ := ixN_seq q
            exact ⟨a, xs, i, j, yv, rfl, by rw [dp_int rv.dp], eH, by omega, by omega, by rw [rs.length]; exact z1, ey, fin _ _ ry (rs.eraseIdx j)⟩
          · cases eo
        · cases eo
      · cases eo
    · cases eo) h
theorem ev_mt0 {r : V → List V → Hp → VK → Prop} {op : List D → Option (D × List D)} {σ : L2.St} {H : Hp} {Q : VK} (hk : ownK b κ[i]?)
    (hr : ∀ (ρ : Env) (w : Wd) (a : Addr) (xs : List V) (ds : List D) (r0 : D) (ds' : List D), Rel X.K κ ρ σ w → w.H a = some (.lst xs) → RDs b X.K w.F xs ds → op ds = some (r0, ds') →
      (∀ v' xs', RD b X.K w.F v' r0 → RDs b X.K w.F xs' ds' → Q v' (upd w.H a (.lst xs'))) → r (.ref a) [] w.H Q)
    (h : tV (ctx X W) κ (.t (.v b)) (fMt0 i op) σ H Q) : tBM0 X.K "list" r (tV (ctx X W) κ (.r i) (fRef i)) σ H Q := by
  obtain ⟨ρ, w, rfl, rel, post⟩ := h
  unfold fMt0 at post
  split at post
  · rename_i ds ed
    refine ⟨ρ, w, rfl, rel, ?_⟩
    unfold fRef
    rw [ed]
    intro v0 w1 rel1 e1 t1
    obtain ⟨a, xs, ev, eH, rs, wr⟩ := own_list rel1 hk ed
    rw [show σ[i]? = some (some v0) from t1] at ev
    cases ev
    refine ⟨tyV_list eH, ?_⟩
    cases q : op ds with
    | none =>
      rw [q] at post
      exact post.elim
    | some r0 =>
      rw [q] at post
      refine hr ρ w1 a xs ds r0.1 r0.2 rel1 eH rs (by rw [q]) fun v' xs' rv rxs => ?_
      obtain ⟨w3, eH3, eF3, rel3, e3⟩ := wr xs' r0.2 rxs
      rw [← eH3]
      exact post v' w3 rel3 (e1.trans e3) (Temp.imm (by rw [eF3]; exact rv))
  · exact post.elim
def oPop : List D → Option (D × List D) := fun ds => match ds[ds.length - 1]? with
  | some y => some (y, ds.dropLast)
  | none => none
theorem fe_pop {x : Str} {xp : Pos} (hk : ownK b κ[i]? := by rfl) (ho : FV X W κ (.r i) (.Name x xp) (fRef i)) (hline : (apos.endLine == cpos.line) = true := by rfl) :
    FV X W κ (.t (.v b)) (.Call (.Attribute (.Name x xp) "pop" apos) [] [] cpos) (fMt0 i oPop) :=
  (pe_bm0 PySem.F.plainAttrs_list PySem.F.slot_list_pop PySem.F.type_list_pop mt_pop ho (by rfl) hline).imp fun σ H Q h => ev_mt0 hk (fun ρ w a xs ds r0 ds' rel eH rs eo fin => by
    unfold oPop at eo
    split at eo
    · rename_i y q
      cases eo
      obtain ⟨yv, ey, ry⟩ := rs.get q
      exact ⟨a, xs, yv, rfl, rfl, eH, by rw [rs.length]; exact ey, fin _ _ ry rs.dropLast⟩
    · cases eo) h
/-- x.extend(ys), ys another list that stands by itself -/
def fExt (i : Nat) (fa : M D) : M D := fun ρ => match ρ[i]? with
  | some (some (.list _)) => bdo (fa ρ) fun d ρ1 => match ρ1[i]?, d with
    | some (some (.list ds)), .list es => if ds.length + es.length ≤ sizeLine then some (.ok .none (ρ1.set i (some (.list (ds ++ es))))) else none
    | _, _ => none
  | _ => none
def oExt : List D → D → Option (D × List D) := fun ds d => match d with
  | .list es => if ds.length + es.length ≤ sizeLine then some (.none, ds ++ es) else none
  | _ => none
theorem fe_extend {x : Str} {xp : Pos} (hk : ownK b κ[i]? := by rfl) (ho : FV X W κ (.r i) (.Name x xp) (fRef i)) (ha : FV X W κ (.t (.v b)) e fa)
    (hfew : ((backTo cpos (starEach (e :: []) X.env)).all (fun x => !x.1) && (backToKw cpos (keywordEach [] X.env)).all (fun x => x.1.isSome)
      && decide ((e :: []).length + ([] : List Keyword).length + (if ([] : List Keyword).isEmpty then 0 else 1) < 30)) = true := by rfl)
    (hline : (apos.endLine == cpos.line) = true := by rfl) (hs : starEach (e :: []) X.env = (false, eval e X.env) :: starEach [] X.env := by rfl) (hplain : (backTo cpos (starEach [] X.env)).any (·.1) = false := by rfl) :
    FV X W κ (.t (.v b)) (.Call (.Attribute (.Name x xp) "extend" apos) [e] [] cpos) (fMt i oExt fa) :=
  (pe_bm PySem.F.plainAttrs_list PySem.F.slot_list_extend PySem.F.type_list_extend mt_extend ho (pa_cons ha pa_nil hs) (by rfl) hfew hline hs hplain).imp fun σ H Q h => ev_mt hk (fun _ => rfl) (fun ρ w w2 a xs ds d v r0 ds' rel ext eH rs rv eo fin => by
    unfold oExt at eo
    split at eo
    · rename_i es
      split at eo
      · rename_i hl
        cases eo
        cases rv with
        | @lst a' xs' _ h1 t1 => exact ⟨a, a', xs, xs', rfl, rfl, eH, rel.same _ _ h1, by rw [rs.length, t1.length]; exact hl, fin _ _ .non (rs.append t1)⟩
      · cases eo
    · cases eo) h
/-! ### x[i] = e of an owned list -/
def sPut (i : Nat) (fi fa : M D) : Env → Option Fl := fun ρ => bnd (fa ρ) Fl.err fun d ρ1 => match ρ1[i]? with
  | some (some (.list _)) => bnd (fi ρ1) Fl.err fun k ρ2 => match ρ2[i]?, k with
    | some (some (.list ds)), .int k => (ixN ds.length k).map fun j => .nx (ρ2.set i (some (.list (ds.set j d))))
    | _, _ => none
  | _ => none
theorem fs_put {bi : Bool} {x : Str} {xp : Pos} {fi : M D} {ix : Expr} (hk : ownK b κ[i]? := by rfl) (ho : FV X W κ (.r i) (.Name x xp) (fRef i)) (hi : FV X W κ (.t (.v bi)) ix fi) (ha : FV X W κ (.t (.v b)) e fa) (he : EK C κ := by first | exact .inl rfl | exact .inr rfl)
    (hs : swapsWithSole [.Subscript (.Name x xp) ix p] e pos.line X.env = pure false := by rfl) (hw : swappedStores [.Subscript (.Name x xp) ix p] e X.env = pure none := by rfl) (h1 : (assignEach [.Subscript (.Name x xp) ix p] X.env).map (·.2) = [assign (.Subscript (.Name x xp) ix p) X.env] := by rfl)
    (h2 : ∀ v, assign (.Subscript (.Name x xp) ix p) X.env v = (do
      let ov ← holding [v] (eval (.Name x xp) X.env)
      let iv ← holding [v, ov] (eval ix X.env)
      standAt p
      holding [v, ov, iv] (setItem ov iv v)
      release [v, ov, iv] []) := by intro _; rfl) : FS X W C κ κ (.Assign [.Subscript (.Name x xp) ix p] e pos) (sPut i fi fa) := (ps_asg ha (pg_sub ho hi set_list h2) hs hw h1).imp fun D' σ H h => by
  obtain ⟨ρ, w, rfl, rel, post⟩ := h
  refine seqV (P := PostS (ctx X W) C κ D' w) rel post (fun z => z) (fun n d ρ' z => errS he z) fun d ρ1 v w1 rel1 e1 t1 post1 => ?_
  show gSub _ _ _ v σ w1.H D'.nx
  split at post1
  · rename_i ds0 ed0
    refine ⟨ρ1, w1, rfl, rel1, ?_⟩
    unfold fRef
    rw [ed0]
    intro v0 w2 rel2 e2 t2
    obtain ⟨a, xs0, ev0, _, _, _⟩ := own_list rel2 hk ed0
    rw [show σ[i]? = some (some v0) from t2] at ev0
    cases ev0
    refine seqV (P := PostS (ctx X W) C κ D' w) rel2 post1 (fun z => z) (fun n d ρ' z => ErrOk.since (errS he z) (e1.trans e2)) fun kd ρ3 kv w3 rel3 e3 t3 post3 => ?_
    split at post3
    · rename_i ds k ed
      obtain ⟨a', xs, ev, eH, rs, wr⟩ := own_list rel3 hk ed
      rw [show σ[i]? = some (some (V.ref a)) from t2] at ev
      cases ev
      cases q : ixN ds.length k with
      | none =>
        rw [q] at post3
        exact post3.elim
      | some j =>
        rw [q] at post3
        have rv : RD b X.K w3.F v d := ((Temp.rd t1).mono e2.same).mono e3.same
        obtain ⟨w4, eH4, _, rel4, e4⟩ := wr (xs.set j v) (ds.set j d) (rs.set rv j)
        refine ⟨a, xs, k, j, rfl, dp_int (Temp.rd t3).dp, eH, by rw [rs.length]; exact q, ?_⟩
        rw [← eH4]
        exact post3 σ w4 rel4 (((e1.trans e2).trans e3).trans e4)
    · exact post3.elim
  · exact post1.elim
/-! ### x += e, x -= e of ints and texts -/
def sAug (i : Nat) (op : D → D → Option D) (fa : M D) : Env → Option Fl := fun ρ => match ρ[i]? with
  | some (some x) => bnd (fa ρ) Fl.err fun y ρ1 => (op x y).map fun z => .nx (ρ1.set i (some z))
  | _ => none
def dAug : D → D → Option D
  | .int i, .int j => some (.int (i + j))
  | .str x, .str y => if x.length + y.length ≤ sizeLine then some (.str (x ++ y)) else none
  | _, _ => none
theorem fs_aug {op : Operator} {r : R2} {o : D → D → Option D} {x : Str} {pos' : Pos} (ho : OpR X (inplaceOp op) r) (hs : Sc X.K r o) (ha : FV X W κ (.t (.v b)) e fa) (hN : X.N.Nodup) (hk : κ[i]? = some (.v b) := by rfl) (hi : X.N[i]? = some x := by rfl) (hx : Loc X.env.scope x := by first | exact .inl rfl | exact .inr rfl) (he : EK C κ := by first | exact .inl rfl | exact .inr rfl)
    (hf : X.fn x = true ∨ X.env.scope.names.lookup x = some .local := by first | exact .inl rfl | exact .inr rfl) : FS X W C κ κ (.AugAssign (.Name x pos') op e pos) (sAug i o fa) := (ps_aug hN hi hx ha ho hf).imp fun D' σ H h => by
  obtain ⟨ρ, w, rfl, rel, post⟩ := h
  unfold sAug at post
  split at post
  · rename_i d0 ed
    obtain ⟨v0, f, ev, o0, _⟩ := rel.slots.get ed hk
    refine ⟨v0, ev, ?_⟩
    refine seqV (P := PostS (ctx X W) C κ D' w) rel post (fun z => z) (fun n d ρ' z => errS he z) fun d ρ1 v w1 rel1 e1 t1 post1 => ?_
    cases q : o d0 d with
    | none =>
      rw [q] at post1
      exact post1.elim
    | some z =>
      rw [q] at post1
      have r0 : RD b X.K w.F v0 d0 := o0
      refine hs _ _ _ _ _ _ _ (Dp_same rel1.same (r0.mono e1.same)) (Dp_same rel1.same (Temp.rd t1)) q fun v' rv => ?_
      have hil : i < σ.length := (List.getElem?_eq_some_iff.mp ev).1
      obtain ⟨w2, eH, _, rel2, ex⟩ := rel_set (κ := κ) (k := .v b) (i := i) (w := w) rel1 (Temp.imm (rv b w1.F)) hil (fun _ _ z => nomatch z)
      rw [set_same hk] at rel2
      show D'.nx (σ.set i (some v')) w1.H
      rw [← eH]
      exact post1 _ w2 rel2 (ex e1)
  · exact post.elim
theorem s_aug {K : PySem.W.Frag} : Sc K (fun x y H Q => rI0 (fun i j => .int (i + j)) x y H Q ∨ ∃ i j, x = .str i ∧ y = .str j ∧ i.length + j.length ≤ sizeLine ∧ Q (.str (i ++ j)) H) dAug := by
  intro x y dx dy z H Q hx hy ho q
  unfold dAug at ho
  split at ho
  · cases ho
    exact .inl ⟨_, _, dp_int hx, dp_int hy, q _ fun b F => .int _⟩
  · split at ho
    · rename_i hl
      cases ho
      exact .inr ⟨_, _, dp_str hx, dp_str hy, hl, q _ fun b F => .str _⟩
    · cases ho
  · cases ho
theorem s_isub {K : PySem.W.Frag} : Sc K (rI0 fun i j => .int (i - j)) dSub := s_sub
/-! ### a, b = x, y of plain locals -/
theorem fs_par {i j : Nat} {k1 k2 : Kind} {x y : Str} {ea eb : Expr} {fr : M (List D)} {px py pt : Pos} {kt k2' pt2} (hc : X.calm = true) (hN : X.N.Nodup) (ha : FA X W κ [.t k1, .t k2] [ea, eb] fr) (hij : i ≠ j := by decide) (hi : X.N[i]? = some x := by rfl) (hj : X.N[j]? = some y := by rfl)
    (hx : X.env.scope.names.lookup x = some .local := by rfl) (hy : X.env.scope.names.lookup y = some .local := by rfl) (hli : i < κ.length := by decide) (hlj : j < κ.length := by decide) (hn1 : nofix k1 := by trivial) (hn2 : nofix k2 := by trivial) (he : EK C κ := by first | exact .inl rfl | exact .inr rfl)
    (hw : swappedStores [.Tuple [.Name x px, .Name y py] kt pt] (.Tuple [ea, eb] k2' pt2) X.env = pure (some [x, y]) := by rfl)
    (hs : swapsWithSole [.Tuple [.Name x px, .Name y py] kt pt] (.Tuple [ea, eb] k2' pt2) pos.line X.env = pure false := by rfl) : FS X W C κ ((κ.set i k1).set j k2) (.Assign [.Tuple [.Name x px, .Name y py] kt pt] (.Tuple [ea, eb] k2' pt2) pos) (sPar i j fr) := (ps_par hc hN hi hj hij hx hy ha hw hs).imp fun D' σ H h => by
  obtain ⟨ρ, w, rfl, rel, post⟩ := h
  refine seqA (P := PostS (ctx X W) C ((κ.set i k1).set j k2) D' w) rel post (fun z => z) (fun n d ρ' z => errS (κn := (κ.set i k1).set j k2) he z) fun ds ρ1 vs w1 rel1 e1 a1 post1 => ?_
  obtain ⟨g, ar, cg⟩ := a1
  cases ar with
  | @t _ d1 v1 _ _ _ f1 g1 _ o1 ar dj h1 h2 =>
    cases ar with
    | @t _ d2 v2 _ _ _ f2 g2 _ o2 ar dj2 h3 h4 =>
      cases ar
      refine ⟨v1, v2, rfl, ?_⟩
      have hl := rel1.slots.lengths
      have p1 := (rel1.slots.drop i).put (i := i) (by rw [← hl.1]; exact hli) o1 (fun a z => (cg a (h1 a z)).1)
      rw [List.set_set] at p1
      have p2 := (p1.drop j).put (i := j) (by rw [List.length_set, ← hl.1]; exact hlj) o2 (fun a z y => y.elim (fun y => dj a y (h3 a z)) (cg a (h2 a (h3 a z))).1)
      rw [List.set_set] at p2
      have all : ∀ a, (f2 a ∨ f1 a ∨ w1.fp a) → w1.fp a ∨ g a := fun a z => by
        rcases z with z | z | z
        · exact .inr (h2 a (h3 a z))
        · exact .inr (h1 a z)
        · exact .inl z
      refine post1 _ ⟨w1.F, w1.H, fun a => f2 a ∨ f1 a ∨ w1.fp a⟩ ⟨rel1.same, fun a z => (all a z).elim (rel1.frz a) fun y => (cg a y).2.1, fun a z => (all a z).elim (rel1.live a) fun y => (cg a y).2.2.1, fun q u k z => ?_, p2⟩ ⟨e1.same, e1.new, e1.keep, fun a z => (all a z).elim (e1.fp a) fun y => (cg a y).2.2.2⟩
      by_cases hq2 : q = j
      · subst hq2
        rw [List.getElem?_set_self (by rw [List.length_set]; exact hlj)] at z
        cases z
        exact absurd rfl (nofix_ne hn2 _ _)
      · rw [List.getElem?_set_ne (Ne.symm hq2)] at z ⊢
        by_cases hq1 : q = i
        · subst hq1
          rw [List.getElem?_set_self hli] at z
          cases z
          exact absurd rfl (nofix_ne hn1 _ _)
        · rw [List.getElem?_set_ne (Ne.symm hq1)] at z ⊢
          exact rel1.fixed q u k z
theorem fs_parK {i j : Nat} {k1 k2 : Kind} {x y : Str} {ea eb : Expr} {fr : M (List D)} {px py pt : Pos} {kt k2' pt2} (hc : X.calm = true) (hN : X.N.Nodup) (ha : FA X W κ [.t k1, .t k2] [ea, eb] fr) (h1 : κ[i]? = some k1 := by rfl) (h2 : κ[j]? = some k2 := by rfl) (hij : i ≠ j := by decide) (hi : X.N[i]? = some x := by rfl) (hj : X.N[j]? = some y := by rfl)
    (hx : X.env.scope.names.lookup x = some .local := by rfl) (hy : X.env.scope.names.lookup y = some .local := by rfl) (hn1 : nofix k1 := by exact True.intro) (hn2 : nofix k2 := by exact True.intro) (he : EK C κ := by first | exact .inl rfl | exact .inr rfl)
    (hw : swappedStores [.Tuple [.Name x px, .Name y py] kt pt] (.Tuple [ea, eb] k2' pt2) X.env = pure (some [x, y]) := by rfl)
    (hs : swapsWithSole [.Tuple [.Name x px, .Name y py] kt pt] (.Tuple [ea, eb] k2' pt2) pos.line X.env = pure false := by rfl) : FS X W C κ κ (.Assign [.Tuple [.Name x px, .Name y py] kt pt] (.Tuple [ea, eb] k2' pt2) pos) (sPar i j fr) := by
  have z := fs_par (C := C) hc hN ha hij hi hj hx hy (List.getElem?_eq_some_iff.mp h1).1 (List.getElem?_eq_some_iff.mp h2).1 hn1 hn2 he hw hs
  rw [set_same h1, set_same h2] at z
  exact z
end
end FN
set_option Elab.async false
set_option linter.all false
set_option maxRecDepth 100000
set_option maxHeartbeats 4000000
/-! FN9: built-in functions. -/
namespace FN
open PySem PySem.Spec PyProof.Rows L2
/-! ### isinstance -/
def tyD : D → String
  | .none => "NoneType"
  | .bool _ => "bool"
  | .int _ => "int"
  | .str _ => "str"
  | .list _ => "list"
  | .tuple _ => "tuple"
  | .dict _ => "dict"
theorem tyX_of {K : PySem.W.Frag} {H : Hp} {v : V} {d : D} (h : Dp K H v d) : TyX K H v (.type (tyD d)) := by
  cases h with
  | non => exact .base .non
  | bl b => exact .base (.bl b)
  | int i => exact .base (.int i)
  | str x => exact .base (.str x)
  | lst h t =>
    rcases h with (h | ⟨o, h⟩) | ⟨o, _, _, hk, hc, _⟩
    · exact .base (.lst h)
    · exact .base (.frz h)
    · exact .kList hk hc
  | tup h t =>
    rcases h with (h | ⟨o, h⟩) | ⟨o, _, _, hk, hc, _⟩
    · exact .base (.tup h)
    · exact .fTuple h
    · exact .kTuple hk hc
def isInt : D → Bool
  | .int _ => true
  | .bool _ => true
  | _ => false
def isBool : D → Bool
  | .bool _ => true
  | _ => false
def isStr : D → Bool
  | .str _ => true
  | _ => false
def isList : D → Bool
  | .list _ => true
  | _ => false
def isTuple : D → Bool
  | .tuple _ => true
  | _ => false
def isDict : D → Bool
  | .dict _ => true
  | _ => false
/-- T's instances are those of p -/
def Isi (T : String) (p : D → Bool) : Prop := ∀ d, kitB (tyD d) T = some (p d)
theorem isi_int : Isi "int" isInt := fun d => by
  cases d with
  | none => exact (by decide +kernel : kitB "NoneType" "int" = some false)
  | bool _ => exact (by decide +kernel : kitB "bool" "int" = some true)
  | int _ => exact (by decide +kernel : kitB "int" "int" = some true)
  | str _ => exact (by decide +kernel : kitB "str" "int" = some false)
  | list _ => exact (by decide +kernel : kitB "list" "int" = some false)
  | tuple _ => exact (by decide +kernel : kitB "tuple" "int" = some false)
  | dict _ => exact (by decide +kernel : kitB "dict" "int" = some false)
theorem isi_bool : Isi "bool" isBool := fun d => by
  cases d with
  | none => exact (by decide +kernel : kitB "NoneType" "bool" = some false)
  | bool _ => exact (by decide +kernel : kitB "bool" "bool" = some true)
  | int _ => exact (by decide +kernel : kitB "int" "bool" = some false)
  | str _ => exact (by decide +kernel : kitB "str" "bool" = some false)
  | list _ => exact (by decide +kernel : kitB "list" "bool" = some false)
  | tuple _ => exact (by decide +kernel : kitB "tuple" "bool" = some false)
  | dict _ => exact (by decide +kernel : kitB "dict" "bool" = some false)
theorem isi_str : Isi "str" isStr := fun d => by
  cases d with
  | none => exact (by decide +kernel : kitB "NoneType" "str" = some false)
  | bool _ => exact (by decide +kernel : kitB "bool" "str" = some false)
  | int _ => exact (by decide +kernel : kitB "int" "str" = some false)
  | str _ => exact (by decide +kernel : kitB "str" "str" = some true)
  | list _ => exact (by decide +kernel : kitB "list" "str" = some false)
  | tuple _ => exact (by decide +kernel : kitB "tuple" "str" = some false)
  | dict _ => exact (by decide +kernel : kitB "dict" "str" = some false)
theorem isi_list : Isi "list" isList := fun d => by
  cases d with
  | none => exact (by decide +kernel : kitB "NoneType" "list" = some false)
  | bool _ => exact (by decide +kernel : kitB "bool" "list" = some false)
  | int _ => exact (by decide +kernel : kitB "int" "list" = some false)
  | str _ => exact (by decide +kernel : kitB "str" "list" = some false)
  | list _ => exact (by decide +kernel : kitB "list" "list" = some true)
  | tuple _ => exact (by decide +kernel : kitB "tuple" "list" = some false)
  | dict _ => exact (by decide +kernel : kitB "dict" "list" = some false)
theorem isi_tuple : Isi "tuple" isTuple := fun d => by
  cases d with
  | none => exact (by decide +kernel : kitB "NoneType" "tuple" = some false)
  | bool _ => exact (by decide +kernel : kitB "bool" "tuple" = some false)
  | int _ => exact (by decide +kernel : kitB "int" "tuple" = some false)
  | str _ => exact (by decide +kernel : kitB "str" "tuple" = some false)
  | list _ => exact (by decide +kernel : kitB "list" "tuple" = some false)
  | tuple _ => exact (by decide +kernel : kitB "tuple" "tuple" = some true)
  | dict _ => exact (by decide +kernel : kitB "dict" "tuple" = some false)
theorem isi_dict : Isi "dict" isDict := fun d => by
  cases d with
  | none => exact (by decide +kernel : kitB "NoneType" "dict" = some false)
  | bool _ => exact (by decide +kernel : kitB "bool" "dict" = some false)
  | int _ => exact (by decide +kernel : kitB "int" "dict" = some false)
  | str _ => exact (by decide +kernel : kitB "str" "dict" = some false)
  | list _ => exact (by decide +kernel : kitB "list" "dict" = some false)
  | tuple _ => exact (by decide +kernel : kitB "tuple" "dict" = some false)
  | dict _ => exact (by decide +kernel : kitB "dict" "dict" = some true)
section
variable {X : Cx} {W : WX} {C : FC} {b : Bool} {κ κ1 κn : List Kind} {pos p p2 : Pos} {tg e a : Expr} {fa fb : M D} {m ma mb : Md} {i : Nat}
def f1b (m : Md) (q : D → Bool) (fa : M D) : M D := f1 m (fun d => some (.bool (q d))) fa
/-- a built-in class, named -/
def Cls1 (X : Cx) (T : String) (e : Expr) : Prop := PE X e (tC (.ty T))
theorem cls1 {x : Str} {T : String} (hg : Gl X x) (hm : X.mg x = none) (hv : bootBuiltins x = some (.type T)) (hn : x ≠ "__name__" := by decide) (hd : (x == ("__debug__" : Str)) = false := by decide) : Cls1 X T (.Name x pos) := pe_bltn hg hm hv rfl hn hd
theorem fe_isi {T : String} {q : D → Bool} (hq : Isi T q) (hg : Gl X "isinstance") (hm : X.mg "isinstance" = none) (ha : FV X W κ m a fa) (hc : Cls1 X T e) (hs : starEach (a :: [e]) X.env = (false, eval a X.env) :: starEach [e] X.env := by rfl) (hs2 : starEach (e :: []) X.env = (false, eval e X.env) :: starEach [] X.env := by rfl) (hpl : (backTo pos (starEach [e] X.env)).any (·.1) = false := by rfl) :
    FV X W κ (.t (.v b)) (.Call (.Name "isinstance" p) [a, e] [] pos) (f1b m q fa) :=
  (pe_callB call_isi hg hm boot_isinstance (pa_cons ha (pa_cons hc pa_nil hs2) hs) (by decide) (by decide) hs hpl).imp fun σ H Q h =>
    ev_1 (r := fun x H Q => rIsi X.K [x, .ty T] H Q) (fun ρ w w1 x dx vx z rel ext t ex ez post => by
      cases ez
      exact ⟨vx, .ty T, _, _, q x, rfl, .ty T, tyX_of (rd_dp rel t ex), kit_ty (hq x), fin_imm post rel ext (.bl _)⟩) h
/-- isinstance(x, (T1, T2)) -/
theorem fe_isi2 {T1 T2 : String} {q1 q2 : D → Bool} {e1 e2 : Expr} {x1 : _} {pt : Pos} (hq1 : Isi T1 q1) (hq2 : Isi T2 q2) (hg : Gl X "isinstance") (hm : X.mg "isinstance" = none) (ha : FV X W κ m a fa) (hc1 : Cls1 X T1 e1) (hc2 : Cls1 X T2 e2) (hs : starEach (a :: [.Tuple [e1, e2] x1 pt]) X.env = (false, eval a X.env) :: starEach [.Tuple [e1, e2] x1 pt] X.env := by rfl)
    (hs2 : starEach (.Tuple [e1, e2] x1 pt :: []) X.env = (false, eval (.Tuple [e1, e2] x1 pt) X.env) :: starEach [] X.env := by rfl) (hs3 : starEach (e1 :: [e2]) X.env = (false, eval e1 X.env) :: starEach [e2] X.env := by rfl) (hs4 : starEach (e2 :: []) X.env = (false, eval e2 X.env) :: starEach [] X.env := by rfl) (hpl : (backTo pos (starEach [.Tuple [e1, e2] x1 pt] X.env)).any (·.1) = false := by rfl) :
    FV X W κ (.t (.v b)) (.Call (.Name "isinstance" p) [a, .Tuple [e1, e2] x1 pt] [] pos) (f1b m (fun d => q1 d || q2 d) fa) :=
  (pe_callB call_isiT hg hm boot_isinstance (pa_cons ha (pa_cons (pe_tup (pa_cons hc1 (pa_cons hc2 pa_nil hs4) hs3)) pa_nil hs2) hs) (by decide) (by decide) hs hpl).imp fun σ H Q h =>
    ev_1 (r := fun x H Q => [V.ty T1, V.ty T2].length ≤ sizeLine ∧ ∀ p, H p = none → rIsiT X.K [x, .ref p] (upd H p (.tup [.ty T1, .ty T2])) Q) (fun ρ w w1 x dx vx z rel ext t ex ez post => by
      cases ez
      refine ⟨by show 2 ≤ sizeLine; decide, fun tp np => ?_⟩
      obtain ⟨w2, eH, eF, ef, rel2, e2⟩ := world_own (o := .tup [.ty T1, .ty T2]) rel np
      have dp : Dp X.K w2.H vx x := by
        have t2 := t.keep e2
        exact rd_dp rel2 t2 ex
      rw [← eH]
      refine ⟨vx, tp, [.ty T1, .ty T2], _, [.type T1, .type T2], q1 x || q2 x, rfl, by rw [eH, upd_same], .cons (.ty T1) (.cons (.ty T2) .nil), tyX_of dp, ?_, fin_imm post rel2 (ext.trans e2) (.bl _)⟩
      refine kitAny_cons (kit_ty (hq1 x)) (fun h1 => ?_) (fun h1 => by rw [h1]; rfl)
      rw [h1, Bool.false_or]
      exact kitAny_cons (kit_ty (hq2 x)) (fun h2 => by rw [h2]; exact kitAny_nil) fun h2 => h2) h
/-! ### int, abs, max, min -/
def dInt : D → Option D
  | .int i => some (.int i)
  | .bool k => some (.int (if k then 1 else 0))
  | .str x => match PySem.intText? x with
    | some n => if x.length ≤ 640 then some (.int n) else none
    | none => none
  | _ => none
theorem fe_int1 (hg : Gl X "int") (hm : X.mg "int" = none) (ha : FV X W κ m a fa) (hs : starEach (a :: []) X.env = (false, eval a X.env) :: starEach [] X.env := by rfl) : FV X W κ (.t (.v b)) (.Call (.Name "int" p) [a] [] pos) (f1 m dInt fa) :=
  (pe_callTy (call_int1.or call_int_str) hg hm PyProof.Rows.boot_int (pa_cons ha pa_nil hs) (by decide) (by decide) hs).imp fun σ H Q h => ev_c1 (fun ρ w w1 x dx vx z rel ext t ex ez post => by
    unfold dInt at ez
    split at ez
    · cases ez
      exact .inl (.inl ⟨_, by rw [dp_int (rd_dp rel t ex)], fin_imm post rel ext (.int _)⟩)
    · cases ez
      exact .inl (.inr ⟨_, by rw [dp_bl (rd_dp rel t ex)], fin_imm post rel ext (.int _)⟩)
    · split at ez
      · rename_i n hn
        split at ez
        · rename_i hl
          cases ez
          exact .inr ⟨_, n, by rw [dp_str (rd_dp rel t ex)], hn, hl, fin_imm post rel ext (.int _)⟩
        · cases ez
      · cases ez
    · cases ez) h
def dAbs : D → Option D
  | .int i => some (.int (if i < 0 then -i else i))
  | _ => none
theorem fe_abs (hg : Gl X "abs") (hm : X.mg "abs" = none) (ha : FV X W κ m a fa) (hs : starEach (a :: []) X.env = (false, eval a X.env) :: starEach [] X.env := by rfl) : FV X W κ (.t (.v b)) (.Call (.Name "abs" p) [a] [] pos) (f1 m dAbs fa) :=
  (pe_callB call_abs hg hm boot_abs (pa_cons ha pa_nil hs) (by decide) (by decide) hs).imp fun σ H Q h => ev_c1 (fun ρ w w1 x dx vx z rel ext t ex ez post => by
    unfold dAbs at ez
    split at ez
    · cases ez
      exact ⟨_, by rw [dp_int (rd_dp rel t ex)], fin_imm post rel ext (.int _)⟩
    · cases ez) h
def dMax2 : D → D → Option D := oI (fun _ _ => true) fun i j => .int (if j > i then j else i)
def dMin2 : D → D → Option D := oI (fun _ _ => true) fun i j => .int (if j < i then j else i)
theorem fe_max2 (hc : X.calm = true) (hg : Gl X "max") (hm : X.mg "max" = none) (ha : FV X W κ ma a fa) (hb : FV X W κ mb e fb) (hs : starEach (a :: [e]) X.env = (false, eval a X.env) :: starEach [e] X.env := by rfl) (hs2 : starEach (e :: []) X.env = (false, eval e X.env) :: starEach [] X.env := by rfl) (hpl : (backTo pos (starEach [e] X.env)).any (·.1) = false := by rfl) : FV X W κ (.t (.v b)) (.Call (.Name "max" p) [a, e] [] pos) (f2 ma mb dMax2 fa fb) :=
  (pe_callB (call_max2 hc) hg hm boot_max (pa_cons ha (pa_cons hb pa_nil hs2) hs) (by decide) (by decide) hs hpl).imp fun σ H Q h => ev_c2 (fun ρ w w2 x y dx dy vx vy z rel ext t1 t2 ex ey ez post => by
    unfold dMax2 oI at ez
    split at ez
    · cases ez
      exact ⟨_, _, by rw [dp_int (rd_dp rel t1 ex), dp_int (rd_dp rel t2 ey)], fin_imm post rel ext (.int _)⟩
    · cases ez) h
theorem fe_min2 (hc : X.calm = true) (hg : Gl X "min") (hm : X.mg "min" = none) (ha : FV X W κ ma a fa) (hb : FV X W κ mb e fb) (hs : starEach (a :: [e]) X.env = (false, eval a X.env) :: starEach [e] X.env := by rfl) (hs2 : starEach (e :: []) X.env = (false, eval e X.env) :: starEach [] X.env := by rfl) (hpl : (backTo pos (starEach [e] X.env)).any (·.1) = false := by rfl) : FV X W κ (.t (.v b)) (.Call (.Name "min" p) [a, e] [] pos) (f2 ma mb dMin2 fa fb) :=
  (pe_callB (call_min2 hc) hg hm boot_min (pa_cons ha (pa_cons hb pa_nil hs2) hs) (by decide) (by decide) hs hpl).imp fun σ H Q h => ev_c2 (fun ρ w w2 x y dx dy vx vy z rel ext t1 t2 ex ey ez post => by
    unfold dMin2 oI at ez
    split at ez
    · cases ez
      exact ⟨_, _, by rw [dp_int (rd_dp rel t1 ex), dp_int (rd_dp rel t2 ey)], fin_imm post rel ext (.int _)⟩
    · cases ez) h
/-! ### over a list: sum, all, any, sorted; list(x), tuple(x) -/
def ints? : List D → Option (List Int)
  | [] => some []
  | .int i :: ds => (ints? ds).map (i :: ·)
  | _ => none
def bools? : List D → Option (List Bool)
  | [] => some []
  | .bool i :: ds => (bools? ds).map (i :: ·)
  | _ => none
theorem ints_vals {K : PySem.W.Frag} {H : Hp} : ∀ {xs : List V} {ds : List D} {ns : List Int}, DpAll K H xs ds → ints? ds = some ns → xs = ns.map V.int ∧ ds = ns.map PyData.int
  | _, _, _, .nil, e => by
    cases e
    exact ⟨rfl, rfl⟩
  | _, _, _, .cons h t, e => by
    cases h with
    | int i =>
      unfold ints? at e
      cases q : ints? _ with
      | none =>
        rw [q] at e
        cases e
      | some ns =>
        rw [q] at e
        cases e
        obtain ⟨e1, e2⟩ := ints_vals t q
        exact ⟨by rw [List.map_cons, ← e1], by rw [List.map_cons, ← e2]⟩
    | non => cases e
    | bl => cases e
    | str => cases e
    | lst => cases e
    | tup => cases e
theorem bools_vals {K : PySem.W.Frag} {H : Hp} : ∀ {xs : List V} {ds : List D} {ns : List Bool}, DpAll K H xs ds → bools? ds = some ns → xs = ns.map V.bl
  | _, _, _, .nil, e => by
    cases e
    rfl
  | _, _, _, .cons h t, e => by
    cases h with
    | bl i =>
      unfold bools? at e
      cases q : bools? _ with
      | none =>
        rw [q] at e
        cases e
      | some ns =>
        rw [q] at e
        cases e
        have e1 := bools_vals t q
        rw [List.map_cons, ← e1]
    | non => cases e
    | int => cases e
    | str => cases e
    | lst => cases e
    | tup => cases e
theorem dp_list {K : PySem.W.Frag} {H : Hp} {v : V} {ds : List D} (h : Dp K H v (.list ds)) : ∃ a xs, v = .ref a ∧ SqL K H a xs ∧ DpAll K H xs ds := by
  cases h with
  | lst h t => exact ⟨_, _, rfl, h, t⟩
def dSum : D → Option D
  | .list ds => (ints? ds).map fun ns => .int ns.sum
  | _ => none
def dAll : D → Option D
  | .list ds => (bools? ds).map fun bs => .bool (bs.all id)
  | _ => none
def dAny : D → Option D
  | .list ds => (bools? ds).map fun bs => .bool (bs.any id)
  | _ => none
theorem fe_sum (hc : X.calm = true) (hg : Gl X "sum") (hm : X.mg "sum" = none) (ha : FV X W κ m a fa) (hs : starEach (a :: []) X.env = (false, eval a X.env) :: starEach [] X.env := by rfl) : FV X W κ (.t (.v b)) (.Call (.Name "sum" p) [a] [] pos) (f1 m dSum fa) :=
  (pe_callB (cr_sum hc) hg hm boot_sum (pa_cons ha pa_nil hs) (by decide) (by decide) hs).imp fun σ H Q h => ev_c1 (fun ρ w w1 x dx vx z rel ext t ex ez post => by
    unfold dSum at ez
    split at ez
    · cases q : ints? _ with
      | none =>
        rw [q] at ez
        cases ez
      | some ns =>
        rw [q] at ez
        cases ez
        obtain ⟨a, xs, rfl, hl, al⟩ := dp_list (rd_dp rel t ex)
        obtain ⟨rfl, _⟩ := ints_vals al q
        exact ⟨a, ns, rfl, hl, fin_imm post rel ext (.int _)⟩
    · cases ez) h
theorem fe_all (hc : X.calm = true) (hg : Gl X "all") (hm : X.mg "all" = none) (ha : FV X W κ m a fa) (hs : starEach (a :: []) X.env = (false, eval a X.env) :: starEach [] X.env := by rfl) : FV X W κ (.t (.v b)) (.Call (.Name "all" p) [a] [] pos) (f1 m dAll fa) :=
  (pe_callB (cr_all hc) hg hm boot_all (pa_cons ha pa_nil hs) (by decide) (by decide) hs).imp fun σ H Q h => ev_c1 (fun ρ w w1 x dx vx z rel ext t ex ez post => by
    unfold dAll at ez
    split at ez
    · cases q : bools? _ with
      | none =>
        rw [q] at ez
        cases ez
      | some ns =>
        rw [q] at ez
        cases ez
        obtain ⟨a, xs, rfl, hl, al⟩ := dp_list (rd_dp rel t ex)
        have := bools_vals al q
        subst this
        exact ⟨a, ns, rfl, hl, fin_imm post rel ext (.bl _)⟩
    · cases ez) h
theorem fe_any (hc : X.calm = true) (hg : Gl X "any") (hm : X.mg "any" = none) (ha : FV X W κ m a fa) (hs : starEach (a :: []) X.env = (false, eval a X.env) :: starEach [] X.env := by rfl) : FV X W κ (.t (.v b)) (.Call (.Name "any" p) [a] [] pos) (f1 m dAny fa) :=
  (pe_callB (cr_any hc) hg hm boot_any (pa_cons ha pa_nil hs) (by decide) (by decide) hs).imp fun σ H Q h => ev_c1 (fun ρ w w1 x dx vx z rel ext t ex ez post => by
    unfold dAny at ez
    split at ez
    · cases q : bools? _ with
      | none =>
        rw [q] at ez
        cases ez
      | some ns =>
        rw [q] at ez
        cases ez
        obtain ⟨a, xs, rfl, hl, al⟩ := dp_list (rd_dp rel t ex)
        have := bools_vals al q
        subst this
        exact ⟨a, ns, rfl, hl, fin_imm post rel ext (.bl _)⟩
    · cases ez) h
/-- list(x): a new list -/
def dList : D → Option D
  | .list ds => some (.list ds)
  | .tuple ds => some (.list ds)
  | _ => none
def dTuple : D → Option D
  | .list ds => some (.tuple ds)
  | .tuple ds => some (.tuple ds)
  | _ => none
theorem fe_list {kd : Kind} (hd : newL b kd) (hg : Gl X "list") (hm : X.mg "list" = none) (ha : FV X W κ m a fa) (h1 : itB b κ m := by rfl) (hs : starEach (a :: []) X.env = (false, eval a X.env) :: starEach [] X.env := by rfl) : FV X W κ (.t kd) (.Call (.Name "list" p) [a] [] pos) (f1 m dList fa) :=
  (pe_callTy call_list_of hg hm PyProof.Rows.boot_list (pa_cons ha pa_nil hs) (by decide) (by decide) hs).imp fun σ H Q h => ev_c1 (fun ρ w w1 x dx vx z rel ext t ex ez post => by
    unfold dList at ez
    split at ez
    · cases ez
      obtain ⟨q, us, eq, sq, rs⟩ := opd_list h1 rel t ex
      exact ⟨q, us, by rw [eq], .inl (SqL.of sq), fun l nl => fin_lst hd post rel ext rs nl⟩
    · cases ez
      obtain ⟨q, us, eq, sq, _, rs⟩ := opd_tup h1 rel t ex
      exact ⟨q, us, by rw [eq], .inr sq, fun l nl => fin_lst hd post rel ext rs nl⟩
    · cases ez) h
theorem fe_tuple (hg : Gl X "tuple") (hm : X.mg "tuple" = none) (ha : FV X W κ m a fa) (h1 : itB b κ m := by rfl) (hs : starEach (a :: []) X.env = (false, eval a X.env) :: starEach [] X.env := by rfl) : FV X W κ (.t (.v b)) (.Call (.Name "tuple" p) [a] [] pos) (f1 m dTuple fa) :=
  (pe_callTy call_tuple_of hg hm PyProof.Rows.boot_tuple (pa_cons ha pa_nil hs) (by decide) (by decide) hs).imp fun σ H Q h => ev_c1 (fun ρ w w1 x dx vx z rel ext t ex ez post => by
    unfold dTuple at ez
    split at ez
    · cases ez
      obtain ⟨q, us, eq, sq, rs⟩ := opd_list h1 rel t ex
      exact ⟨q, us, by rw [eq], .inl ⟨SqL.of sq, fun l nl => fin_tup post rel ext rs nl⟩⟩
    · cases ez
      obtain ⟨q, us, eq, sq, r1, rs⟩ := opd_tup h1 rel t ex
      refine ⟨q, us, by rw [eq], .inr ⟨sq, ?_⟩⟩
      rw [← eq]
      exact fin_imm post rel ext r1
    · cases ez) h
/-! ### list(range(..)), tuple(range(..)) -/
def PostRg (c : Ct) (κ : List Kind) (σ : L2.St) (w : Wd) (Q : Int → Int → Hp → Prop) : Option (Out (List D)) → Prop
  | some (.ok ds ρ') => ∀ i j w', ds = rgD i j → RgOk i j → Rel c.K κ ρ' σ w' → Ext w w' → Q i j w'.H
  | some (.err n d ρ') => ErrOk c κ σ w n d ρ'
  | none => False
def tRgF (c : Ct) (κ : List Kind) (f : M (List D)) : L2.St → Hp → (Int → Int → Hp → Prop) → Prop := fun σ H Q => ∃ ρ w, w.H = H ∧ Rel c.K κ ρ σ w ∧ PostRg c κ σ w Q (f ρ)
def FRg (X : Cx) (W : WX) (κ : List Kind) (e : Expr) (f : M (List D)) : Prop := PRg X e (tRgF (ctx X W) κ f)
theorem PRg.imp' {e : Expr} {t t' : L2.St → Hp → (Int → Int → Hp → Prop) → Prop} (h : PRg X e t) (i : ∀ σ H Q, t' σ H Q → t σ H Q) : PRg X e t' := fun pins s σ H Q I q => h pins s σ H Q I (i σ H Q q)
def okRg (i j : Int) : Bool := decide (-(2 ^ 62) ≤ i ∧ i < 2 ^ 62 ∧ -(2 ^ 62) ≤ j ∧ j < 2 ^ 62 ∧ (j - i).toNat ≤ 2 ^ 24)
def rRg1 (m : Md) (fa : M D) : M (List D) := fun ρ => bdo (fa ρ) fun x ρ1 => match rd m x ρ1 with
  | some (.int j) => if okRg 0 j = true then some (.ok (rgD 0 j) ρ1) else none
  | _ => none
def rRg2 (ma mb : Md) (fa fb : M D) : M (List D) := fun ρ => bdo (fa ρ) fun x ρ1 => bdo (fb ρ1) fun y ρ2 => match rd ma x ρ2, rd mb y ρ2 with
  | some (.int i), some (.int j) => if okRg i j = true then some (.ok (rgD i j) ρ2) else none
  | _, _ => none
theorem frg_1 (hg : Gl X "range") (hm : X.mg "range" = none) (ha : FV X W κ m a fa) (hs : starEach [a] X.env = (false, eval a X.env) :: starEach [] X.env := by rfl) : FRg X W κ (.Call (.Name "range" p) [a] [] pos) (rRg1 m fa) := PRg.imp' (prg_1 hg hm ha hs) fun σ H Q h => by
  obtain ⟨ρ, w, rfl, rel, post⟩ := h
  refine seqV (P := PostRg (ctx X W) κ σ w Q) rel post (fun z => z) (fun n d ρ' z => z) fun d ρ1 v w1 rel1 e1 t1 post1 => ?_
  cases q : rd m d ρ1 with
  | none =>
    rw [q] at post1
    exact post1.elim
  | some x =>
    rw [q] at post1
    cases x with
    | int j =>
      dsimp only at post1
      by_cases hok : okRg 0 j = true
      · rw [if_pos hok] at post1
        exact ⟨j, dp_int (rd_dp rel1 t1 q), post1 0 j w1 rfl (of_decide_eq_true hok : -(2 ^ 62) ≤ (0 : Int) ∧ (0 : Int) < 2 ^ 62 ∧ -(2 ^ 62) ≤ j ∧ j < 2 ^ 62 ∧ (j - 0).toNat ≤ 2 ^ 24) rel1 e1⟩
      · rw [if_neg hok] at post1
        exact post1.elim
    | none => exact post1.elim
    | bool _ => exact post1.elim
    | str _ => exact post1.elim
    | list _ => exact post1.elim
    | tuple _ => exact post1.elim
    | dict _ => exact post1.elim
theorem rgV_rds {K : PySem.W.Frag} {F : Hp} (i j : Int) : RDs b K F (rgV i j) (rgD i j) := by
  unfold rgV rgD
  generalize List.range (j - i).toNat = l
  induction l with
  | nil => exact .nil
  | cons k l ih => exact .cons (.int _) ih
def fLrg (fr : M (List D)) : M D := fun ρ => bdo (fr ρ) fun ds ρ1 => some (.ok (.list ds) ρ1)
def fTrg (fr : M (List D)) : M D := fun ρ => bdo (fr ρ) fun ds ρ1 => some (.ok (.tuple ds) ρ1)
theorem fe_listRg {kd : Kind} {fr : M (List D)} (hd : newL b kd) (hc : X.calm = true) (hg : Gl X "list") (hm : X.mg "list" = none) (he : FRg X W κ e fr) (hs : starEach [e] X.env = (false, eval e X.env) :: starEach [] X.env := by rfl) : FV X W κ (.t kd) (.Call (.Name "list" p) [e] [] pos) (fLrg fr) := (pe_listRg hc hg hm he hs).imp fun σ H Q h => by
  obtain ⟨ρ, w, rfl, rel, post⟩ := h
  refine ⟨ρ, w, rfl, rel, ?_⟩
  unfold fLrg bdo bnd at post
  cases q : fr ρ with
  | none =>
    rw [q] at post
    exact post
  | some o =>
    rw [q] at post
    cases o with
    | err n d ρ' => exact post
    | ok ds ρ' =>
      intro i j w' eds hok rel' e'
      subst eds
      exact ⟨hok, fun q nq => fin_lst hd post rel' e' (rgV_rds i j) nq⟩
theorem fe_tupRg {fr : M (List D)} (hc : X.calm = true) (hg : Gl X "tuple") (hm : X.mg "tuple" = none) (he : FRg X W κ e fr) (hs : starEach [e] X.env = (false, eval e X.env) :: starEach [] X.env := by rfl) : FV X W κ (.t (.v b)) (.Call (.Name "tuple" p) [e] [] pos) (fTrg fr) := (pe_tupRg hc hg hm he hs).imp fun σ H Q h => by
  obtain ⟨ρ, w, rfl, rel, post⟩ := h
  refine ⟨ρ, w, rfl, rel, ?_⟩
  unfold fTrg bdo bnd at post
  cases q : fr ρ with
  | none =>
    rw [q] at post
    exact post
  | some o =>
    rw [q] at post
    cases o with
    | err n d ρ' => exact post
    | ok ds ρ' =>
      intro i j w' eds hok rel' e'
      subst eds
      exact ⟨hok, fun q nq => fin_tup post rel' e' (rgV_rds i j) nq⟩
end
end FN
set_option Elab.async false
set_option linter.all false
set_option maxRecDepth 100000
set_option maxHeartbeats 4000000
/-! FN10: more operators. -/
namespace FN
open PySem PySem.Spec PyProof.Rows L2
section
variable {X : Cx} {W : WX} {κ : List Kind} {pos : Pos} {a b : Expr} {fa fb : M D} {ma mb : Md}
/-! ### a * b -/
def dMul : D → D → Option D
  | .int i, .int j => if i.natAbs.log2 + j.natAbs.log2 < 1000000 then some (.int (i * j)) else none
  | .list ds, .int k => if 0 ≤ k ∧ k < 2 ^ 63 ∧ ds.length * k.toNat ≤ sizeLine then some (.list (List.replicate k.toNat ds).flatten) else none
  | .tuple ds, .int k => if ds ≠ [] ∧ 2 ≤ k ∧ k ≤ 1000 ∧ ds.length ≤ 1000 then some (.tuple (List.replicate k.toNat ds).flatten) else none
  | _, _ => none
theorem rds_rep {K : PySem.W.Frag} {k : Bool} {F : Hp} {xs : List V} {ds : List D} (r : RDs k K F xs ds) : ∀ n : Nat, RDs k K F (List.replicate n xs).flatten (List.replicate n ds).flatten
  | 0 => .nil
  | n + 1 => by
    rw [List.replicate_succ, List.replicate_succ, List.flatten_cons, List.flatten_cons]
    exact r.append (rds_rep r n)
theorem fe_mul {k : Bool} {kd : Kind} (ha : FV X W κ ma a fa) (hb : FV X W κ mb b fb) (hd : kd = .v k := by rfl) (h1 : itB k κ ma := by rfl) : FV X W κ (.t kd) (.BinOp a .Mult b pos) (f2 ma mb dMul fa fb) := by
  subst hd
  refine (pe_op (((op_mulW (X := X)).or op_rep).or op_repT) ha hb).imp fun _ _ _ h => ev_2 (fun ρ w w2 x y dx dy vx vy z rel e t1 t2 e1 e2 ez post => ?_) h
  unfold dMul at ez
  split at ez
  · split at ez
    · rename_i hc
      cases ez
      exact .inl (.inl ⟨_, _, dp_int (rd_dp rel t1 e1), dp_int (rd_dp rel t2 e2), hc, fin_imm post rel e (.int _)⟩)
    · cases ez
  · split at ez
    · rename_i hc
      cases ez
      obtain ⟨p, us, ep, sp, rs1⟩ := opd_list h1 rel t1 e1
      exact .inl (.inr ⟨p, _, us, ep, dp_int (rd_dp rel t2 e2), sp, by have := hc.1; omega, hc.2.1, by rw [rs1.length]; exact hc.2.2, fun p' np => fin_lst (b := k) (k := .v k) rfl post rel e (rds_rep rs1 _) np⟩)
    · cases ez
  · split at ez
    · rename_i hc
      cases ez
      obtain ⟨p, us, ep, sp, r1, rs1⟩ := opd_tup h1 rel t1 e1
      exact .inr ⟨p, _, us, ep, dp_int (rd_dp rel t2 e2), sp, fun z => hc.1 (by cases rs1 with | nil => rfl | cons _ _ => cases z), hc.2.1, hc.2.2.1, by rw [rs1.length]; exact hc.2.2.2, fun p' np => fin_tup post rel e (rds_rep rs1 _) np⟩
    · cases ez
  · cases ez
/-- list * n, owned -/
def dRep : D → D → Option D
  | .list ds, .int k => if 0 ≤ k ∧ k < 2 ^ 63 ∧ ds.length * k.toNat ≤ sizeLine then some (.list (List.replicate k.toNat ds).flatten) else none
  | _, _ => none
theorem fe_rep {k : Bool} {kd : Kind} (ha : FV X W κ ma a fa) (hb : FV X W κ mb b fb) (hd : newL k kd := by rfl) (h1 : itB k κ ma := by rfl) : FV X W κ (.t kd) (.BinOp a .Mult b pos) (f2 ma mb dRep fa fb) := by
  refine (pe_op (op_rep (X := X)) ha hb).imp fun _ _ _ h => ev_2 (fun ρ w w2 x y dx dy vx vy z rel e t1 t2 e1 e2 ez post => ?_) h
  unfold dRep at ez
  split at ez
  · split at ez
    · rename_i hc
      cases ez
      obtain ⟨p, us, ep, sp, rs1⟩ := opd_list h1 rel t1 e1
      exact ⟨p, _, us, ep, dp_int (rd_dp rel t2 e2), sp, by have := hc.1; omega, hc.2.1, by rw [rs1.length]; exact hc.2.2, fun p' np => fin_lst (b := k) hd post rel e (rds_rep rs1 _) np⟩
    · cases ez
  · cases ez
end
section
variable {K : PySem.W.Frag}
/-! ### a // b -/
def dDiv : D → D → Option D := oI (fun _ j => decide (0 < j ∧ j.natAbs.log2 < 9000)) fun i j => .int (i / j)
theorem s_div : Sc K (rI CDivW fun i j => .int (i / j)) dDiv := sc_I (fun i j h => (of_decide_eq_true h : 0 < j ∧ j.natAbs.log2 < 9000)) fun i j b F => .int _
/-! ### is -/
def isNone : D → Bool
  | .none => true
  | _ => false
def dIs : D → D → Option D
  | x, .none => some (.bool (isNone x))
  | .bool a, .bool b => some (.bool (decide (a = b)))
  | _, _ => none
def dIsN : D → D → Option D
  | x, .none => some (.bool (!isNone x))
  | .bool a, .bool b => some (.bool (!decide (a = b)))
  | _, _ => none
theorem dp_none {H : Hp} {x : V} (h : Dp K H x .none) : x = .non := by cases h; rfl
theorem dp_isNone {H : Hp} {x : V} {d : D} (h : Dp K H x d) : decide (x = .non) = isNone d := by
  cases h <;> first | rfl | exact decide_eq_false (by intro z; cases z)
theorem s_is : Sc K (fun x y H Q => rIsN x y H Q ∨ rIsB x y H Q) dIs := by
  intro x y dx dy z H Q hx hy ho q
  unfold dIs at ho
  split at ho
  · cases ho
    exact .inl ⟨dp_none hy, by rw [dp_isNone hx]; exact q _ fun b F => .bl _⟩
  · cases ho
    exact .inr ⟨_, _, dp_bl hx, dp_bl hy, q _ fun b F => .bl _⟩
  · cases ho
theorem s_isn : Sc K (fun x y H Q => rNotN x y H Q ∨ rNotB x y H Q) dIsN := by
  intro x y dx dy z H Q hx hy ho q
  unfold dIsN at ho
  split at ho
  · cases ho
    exact .inl ⟨dp_none hy, by rw [dp_isNone hx]; exact q _ fun b F => .bl _⟩
  · cases ho
    exact .inr ⟨_, _, dp_bl hx, dp_bl hy, q _ fun b F => .bl _⟩
  · cases ho
end
section
variable {X : Cx}
theorem op_isA : OpR X (compareOp .Is) (fun x y H Q => rIsN x y H Q ∨ rIsB x y H Q) := (op_isN1 (X := X)).or op_isBl
theorem op_isNotA : OpR X (compareOp .IsNot) (fun x y H Q => rNotN x y H Q ∨ rNotB x y H Q) := (op_notN1 (X := X)).or op_notBl
/-! ### in -/
/-- x in a list or a tuple of data -/
def rInA (K : PySem.W.Frag) (neg : Bool) : R2 := fun x y H Q => (∃ d e ds, Dp K H x d ∧ Dp K H y e ∧ (e = .list ds ∨ e = .tuple ds) ∧ SeqAt.shaped d = true ∧ SeqAt.shaped e = true ∧ Q (.bl (if neg then !(ds.any fun z => PyData.eqv z d) else ds.any fun z => PyData.eqv z d)) H)
theorem op_inA0 (hu : X.A.units + 65 < cLine) : OpR X (compareOp .In) (rInA X.K false) := by
  intro pins s σ H x y v u Q I rx ry h
  obtain ⟨d, e, ds, hd, he, ee, sd, se, q⟩ := h
  obtain ⟨as, r1⟩ := Dp.reads I d x v hd rx
  obtain ⟨bs, r2⟩ := Dp.reads I e y u he ry
  rcases ee with rfl | rfl
  · exact SeqAt.in_list_reads r2 r1 (SeqAt.canLay_of_shaped se) (SeqAt.canLay_of_shaped sd) (room_in_shaped sd hu) ⟨.bl _, H, I, rfl, q⟩
  · exact SeqAt.in_tuple_reads r2 r1 (SeqAt.canLay_of_shaped se) (SeqAt.canLay_of_shaped sd) (room_in_shaped sd hu) ⟨.bl _, H, I, rfl, q⟩
theorem op_ninA0 (hu : X.A.units + 65 < cLine) : OpR X (compareOp .NotIn) (rInA X.K true) := by
  intro pins s σ H x y v u Q I rx ry h
  obtain ⟨d, e, ds, hd, he, ee, sd, se, q⟩ := h
  obtain ⟨as, r1⟩ := Dp.reads I d x v hd rx
  obtain ⟨bs, r2⟩ := Dp.reads I e y u he ry
  rcases ee with rfl | rfl
  · exact SeqAt.notIn_list_reads r2 r1 (SeqAt.canLay_of_shaped se) (SeqAt.canLay_of_shaped sd) (room_in_shaped sd hu) ⟨.bl _, H, I, rfl, q⟩
  · exact SeqAt.notIn_tuple_reads r2 r1 (SeqAt.canLay_of_shaped se) (SeqAt.canLay_of_shaped sd) (room_in_shaped sd hu) ⟨.bl _, H, I, rfl, q⟩
def rInStr : R2 := fun x y H Q => ∃ i j, x = .str i ∧ y = .str j ∧ Q (.bl (!(Builtin.Str.occurrences j i 0 j.length 1).isEmpty)) H
def rNinStr : R2 := fun x y H Q => ∃ i j, x = .str i ∧ y = .str j ∧ Q (.bl (!(!(Builtin.Str.occurrences j i 0 j.length 1).isEmpty))) H
theorem op_inA {n : Nat} (hr : Room n X.A) : OpR X (compareOp .In) (fun x y H Q => (rInA X.K false x y H Q ∨ rInS x y H Q) ∨ rInStr x y H Q) := ((op_inA0 (by have := hr.un; omega)).or op_inS).or op_in_str
theorem op_ninA {n : Nat} (hr : Room n X.A) : OpR X (compareOp .NotIn) (fun x y H Q => (rInA X.K true x y H Q ∨ rNotInS x y H Q) ∨ rNinStr x y H Q) := ((op_ninA0 (by have := hr.un; omega)).or op_notInS).or op_notin_str
end
section
variable {K : PySem.W.Frag}
/-- is a's text within b's -/
def strIn (i j : Str) : Bool := match i.cps.toList with
  | [c] => decide (c ∈ j.cps.toList)
  | _ => !(Builtin.Str.occurrences j i 0 j.length 1).isEmpty
def dInB : D → D → Option Bool
  | d, .list ds => if SeqAt.shaped d && SeqAt.shaped (.list ds) then some (ds.any fun z => PyData.eqv z d) else none
  | d, .tuple ds => if SeqAt.shaped d && SeqAt.shaped (.tuple ds) then some (ds.any fun z => PyData.eqv z d) else none
  | .str i, .str j => some (strIn i j)
  | _, _ => none
def dIn (x y : D) : Option D := (dInB x y).map fun b => .bool b
def dNin (x y : D) : Option D := (dInB x y).map fun b => .bool (!b)
theorem strIn_or {i j : Str} {neg : Bool} {H : Hp} {Q : VK} (q : Q (.bl (if neg then !strIn i j else strIn i j)) H) : (∃ (c : Nat), i = ⟨#[c]⟩ ∧ Q (.bl (if neg then !decide (c ∈ j.cps.toList) else decide (c ∈ j.cps.toList))) H) ∨ Q (.bl (if neg then !(!(Builtin.Str.occurrences j i 0 j.length 1).isEmpty) else !(Builtin.Str.occurrences j i 0 j.length 1).isEmpty)) H := by
  obtain ⟨⟨l⟩⟩ := i
  match l, q with
  | [], q => exact .inr q
  | [c], q => exact .inl ⟨c, rfl, q⟩
  | _ :: _ :: _, q => exact .inr q
theorem s_in : Sc K (fun x y H Q => (rInA K false x y H Q ∨ rInS x y H Q) ∨ rInStr x y H Q) dIn := by
  intro x y dx dy z H Q hx hy ho q
  unfold dIn dInB at ho
  split at ho
  · split at ho
    · rename_i c
      cases ho
      rw [Bool.and_eq_true] at c
      exact .inl (.inl ⟨_, _, _, hx, hy, .inl rfl, c.1, c.2, q _ fun b F => .bl _⟩)
    · cases ho
  · split at ho
    · rename_i c
      cases ho
      rw [Bool.and_eq_true] at c
      exact .inl (.inl ⟨_, _, _, hx, hy, .inr rfl, c.1, c.2, q _ fun b F => .bl _⟩)
    · cases ho
  · cases ho
    rename_i i j
    rcases strIn_or (neg := false) (q _ fun b F => .bl _ : Q (.bl (strIn i j)) H) with ⟨c, e, q'⟩ | q'
    · subst e
      exact .inl (.inr ⟨c, j, dp_str hx, dp_str hy, q'⟩)
    · exact .inr ⟨i, j, dp_str hx, dp_str hy, q'⟩
  · cases ho
theorem s_nin : Sc K (fun x y H Q => (rInA K true x y H Q ∨ rNotInS x y H Q) ∨ rNinStr x y H Q) dNin := by
  intro x y dx dy z H Q hx hy ho q
  unfold dNin dInB at ho
  split at ho
  · split at ho
    · rename_i c
      cases ho
      rw [Bool.and_eq_true] at c
      exact .inl (.inl ⟨_, _, _, hx, hy, .inl rfl, c.1, c.2, q _ fun b F => .bl _⟩)
    · cases ho
  · split at ho
    · rename_i c
      cases ho
      rw [Bool.and_eq_true] at c
      exact .inl (.inl ⟨_, _, _, hx, hy, .inr rfl, c.1, c.2, q _ fun b F => .bl _⟩)
    · cases ho
  · cases ho
    rename_i i j
    rcases strIn_or (neg := true) (q _ fun b F => .bl _ : Q (.bl (!strIn i j)) H) with ⟨c, e, q'⟩ | q'
    · subst e
      exact .inl (.inr ⟨c, j, dp_str hx, dp_str hy, q'⟩)
    · exact .inr ⟨i, j, dp_str hx, dp_str hy, q'⟩
  · cases ho
end
end FN
set_option Elab.async false
set_option linter.all false
set_option maxRecDepth 100000
set_option maxHeartbeats 4000000
/-! FN11: an own error over ValueError whose __init__ says super().__init__(text) and self.value = value. -/
namespace FN
open PySem PySem.Spec PyProof.Rows L2
def eA (p1 p2 : Pos) : Arguments := { posonlyargs := [], args := [{ arg := "self", annotation := none, pos := p1 }, { arg := "value", annotation := none, pos := p2 }], vararg := none, kwonlyargs := [], kw_defaults := [], kwarg := none, defaults := [] }
def eB (m : Str) (p0 p1 p2 p3 p4 p5 q1 q2 q3 q4 : Pos) : List Stmt :=
  [.Expr (.Call (.Attribute (.Call (.Name "super" p0) [] [] p1) "__init__" p2) [.Constant (.str m) 0 p3] [] p4) p5, .Assign [.Attribute (.Name "self" q1) "value" q2] (.Name "value" q3) q4]
def eS : Scope := { kind := .function, names := [(PySem.Str.ofString "self", .local), (PySem.Str.ofString "value", .local), (PySem.Str.ofString "__class__", .free), (PySem.Str.ofString "super", .globalImplicit)], isGenerator := false, isCoroutine := false, more := [] }
/-- what the written part says of the base error's own __init__, at fI; D: the class that wrote it -/
structure ErrTxt (P : Program) (K : PySem.W.Frag) (mg : Str → Option Value) (D fI : Addr) : Prop where
  fn : ∃ (qual : Str) (oc : Value) (od : Option Addr) (doc pm : Value) (an : Option Addr) (cda : Addr) (ct : Value) (osl : Array (Option Value)) (cc : Addr) (m : Str) (p1 p2 p3 p4 p5 p6 p7 p8 q1 q2 q3 q4 : Pos),
    K.lookup fI = some ⟨oc, od, .func (PySem.W.ksFn "__init__" qual (eA p1 p2) (eB m p3 p4 p5 p6 p7 p8 q1 q2 q3 q4) eS .none .none doc pm an (.ref cda) ct cc), osl⟩ ∧ PySem.W.codeIn K (.ref cda) qual = true ∧ (p5.endLine == p7.line) = true ∧
    (∃ (ccl : Value) (cdd : Option Addr) (vs : Array Value) (ccs : Array (Option Value)) (file : Str) (tf : Tok), K.lookup cda = some ⟨ccl, cdd, .fields vs, ccs⟩ ∧ vs[2]? = some (.str file tf) ∧ ((P.main.file : Str) == file) = true) ∧
    ∃ (cl : Value) (cld : Option Addr) (csl : Array (Option Value)), K.lookup cc = some ⟨cl, cld, .cell (some (.ref D)), csl⟩
  cD : ∃ cd, PySem.W.clsIn K D = some cd
  top : (P.main.scope.names.lookup ("super" : Str)).isSome = false
  sup : mg "super" = none
  opq : PySem.W.nsIn K PySem.cStatics "thirdparty.any" = some none
/-- .. of a class C that has it -/
structure ErrCls (K : PySem.W.Frag) (D fI C : Addr) : Prop where
  oex : OexC K C
  iC : PySem.W.findIn K (.ref C) "__init__" = some (some (.ref fI))
  tI : PySem.W.typeIn K (.ref fI) = some (.type "function")
  no : PySem.W.findIn K (.ref C) "value" = some none
  sub : PySem.W.mroIn K C (.ref D) = some true
  subV : PySem.W.subIn K (.ref C) (.type "ValueError") = some true
  sup : PySem.W.ks_superIn K C D "__init__" = some (some (.builtin "ValueError.__init__"))
def initSp (C : Addr) : Sp := fun vs H Q _ => ∃ a y, vs = [.ref a, y] ∧ H a = some (exo a C none) ∧ ∀ d, H d = none → d ≠ a → Q .non (upd (upd H d (exd d [(("value" : Str), y)])) a (exo a C (some d)))
def cxK (CX : CXT) (P : Program) (w : World) (K : PySem.W.Frag) (mg : Str → Option Value) (base : Heap) (N : List Str) (qual : Str) (scope : Scope) (f : Addr) (cd : Value) (cc : Addr) (A : Around) (outer : List PySem.Env) (s : Shared) (H : Hp) (E : XK) : Cx where
  prog := P
  w := w
  K := K
  mg := mg
  base := base
  A := A.deeper (PySem.W.ksEnv qual scope s.heap.objs.size f cd cc)
  N := N
  s_0 := s
  H_0 := H
  env := PySem.W.ksEnv qual scope s.heap.objs.size f cd cc
  outer := outer
  stack := PySem.W.ksEnv qual scope s.heap.objs.size f cd cc :: outer
  ex := []
  calm := true
  fn := fun x => !(x == ("__class__" : Str))
  pn := []
  xe := fun e s' => wpAny (model P w) (A.deeper (PySem.W.ksEnv qual scope s.heap.objs.size f cd cc)) (leaving (PySem.W.ksEnv qual scope s.heap.objs.size f cd cc) e) (fun _ s'' => CX outer H s E e s'') (fun e' s'' => CX outer H s E e' s'') s'
theorem one_cell {y : Str} {c cc : Addr} (h : ([(("__class__" : Str), cc)] : List (Str × Addr)).lookup y = some c) : y = "__class__" ∧ c = cc := by
  by_cases e : y = "__class__"
  · subst e
    rw [List.lookup_cons_self] at h
    exact ⟨rfl, (Option.some.inj h).symm⟩
  · have e' : (y == ("__class__" : Str)) = false := by simpa using e
    rw [List.lookup_cons, e'] at h
    cases h
section
variable {P : Program} {w : World} {K : PySem.W.Frag} {mg : Str → Option Value} {base : Heap} {CX : CXT} {D fI C : Addr}
theorem inv_k {qual : Str} {cda cc : Addr} {A : Around} {outer : List PySem.Env} {s : Shared} {h₁ : Heap} {H : Hp} {E : XK} {a : Addr} {y : V} {u : Value} {tk : Nat} {cl : Value} {cld : Option Addr} {csl : Array (Option Value)} (hc : K.lookup cc = some ⟨cl, cld, .cell (some (.ref D)), csl⟩) (hd : A.handled = none) (e0 : Env0 P w K mg base A outer s H) (ry : RelV y u)
    (hns : h₁.Ns s.heap.objs.size (fun x => ((["self", "value"] : List Str).zip [Value.ref a, u]).reverse.lookup x)) (hk : ∀ b o, s.heap.get? b = some o → h₁.get? b = some o) :
    Inv (cxK CX P w K mg base ["self", "value"] qual eS fI (.ref cda) cc A outer s H E) [] [some (.ref a), some y] H { s with heap := h₁, toks := tk } := by
  have noA : ∀ b : Addr, b ∉ (cxK CX P w K mg base ["self", "value"] qual eS fI (.ref cda) cc A outer s H E).ex := fun b z => absurd (show b ∈ ([] : List Addr) from z) (by simp)
  have hb : base.get? cc = some ⟨cl, cld, .cell (some (.ref D)), csl⟩ := e0.mod.kin _ _ hc
  refine ⟨⟨e0.mod, rfl, rfl, rfl, Nat.le_refl _, fun y z c h1 h2 => ?_, fun y hy => ?_, fun y c hf h => ?_, fun _ => hd, Around.frames_deeper e0.frames, .inr ⟨rfl, rfl⟩, fun b z => absurd z (noA b), e0.bs, e0.bsz, fun b _ _ => noA b, fun b z => absurd z (noA b), e0.funs, e0.frf⟩,
    rfl, e0.bare, Un.kept hk, ⟨_, hns, fun i x v h1 h2 h3 => ?_⟩, fun x c h => ?_, e0.hok.fresh (Nat.le_refl _), fun x c h => ?_, fun p hp => absurd (show p ∈ ([] : List (Addr × Obj)) from hp) (by simp), e0.hok.kept hk, rfl⟩
  · exact (one_cell h1).1.trans (one_cell h2).1.symm
  · have hy : eS.names.lookup y = some .cell ∨ eS.names.lookup y = some .free := hy
    by_cases e : y = "__class__"
    · exact ⟨cc, by rw [e]; rfl⟩
    · exfalso
      rcases hy with hy | hy
      · have := PySem.mem_of_lookup hy
        revert this
        unfold eS
        simp
      · have := PySem.mem_of_lookup hy
        revert this
        unfold eS
        simp
        exact e
  · rw [(one_cell h).1] at hf
    exact absurd (show (!(("__class__" : Str) == ("__class__" : Str))) = true from hf) (by decide)
  · match i, h1, h2 with
    | 0, h1, h2 =>
      cases h1
      cases h2
      exact ⟨_, rfl, .inl ⟨rfl, by rfl⟩⟩
    | 1, h1, h2 =>
      cases h1
      cases h2
      exact ⟨_, ry, .inl ⟨rfl, by rfl⟩⟩
  · rw [(one_cell h).2]
    exact ⟨_, _, hk _ _ (e0.bs _ _ hb).1, rfl⟩
  · rw [(one_cell h).2]
    exact (e0.bs _ _ hb).2
/-- super().__init__(..), called -/
theorem call_mw {A : Around} {E : Value → Shared → Prop} {h : Heap} {g : Array GenState} {d : Drawn} {t : Nat} {os : OsState} {u e t0 : Addr} {rest : List Value} {Q : Value → Shared → Prop} {nm q : Str} {N : Addr} {bs bm : List Value} {hdct : Bool} {sn : List Str} {sub : List Value} {ab : Bool} {col : Option Bool} {dd : Option Addr} {k0 k1 k2 k3 k5 : Option Value}
    (hC : h.get? C = some (excClassObj nm q C N bs bm hdct sn sub ab col dd k0 k1 k2 k3 k5 "ValueError.__new__")) (he : h.get? e = some (HandSPX.excO C t0)) (hu : h.get? u = some (PySem.W.kxs_mw "ValueError.__init__" e)) (hrest : rest.length ≤ sizeLine)
    (hq : ∀ h' t1, (∀ b o, b ≠ e → h.get? b = some o → h'.get? b = some o) → h'.get? e = some (HandSPX.excO C t1) → Q .none ⟨h', g, d, t, os⟩) :
    wpAny (model P w) A (call (.ref u) rest) Q E ⟨h, g, d, t, os⟩ := by
  refine wpAny_call (codeAny_of_tree ?_)
  show wpAny _ A.in1 (callAny (.ref u) ⟨rest, []⟩) _ _ _
  simp only [callAny]
  refine wpAny_bind (wpAny_load hu ?_)
  simp only [PySem.W.kxs_mw, show (Value.type "method-wrapper" == Value.type "method" || Value.type "method-wrapper" == Value.type "builtin_function_or_method" || Value.type "method-wrapper" == Value.type "method-wrapper") = true by decide, if_true]
  refine PySem.W.KFB.if_so (by decide) ?_
  refine wpAny_bind (PySem.W.check_bound_init F.excBase_ValueError.toExcCallFacts hC he rfl ?_)
  refine wpAny_bind (wpAny_pure (wpAny_pure ?_))
  refine ⟨Code.quiet_builtin _ (by decide +kernel), codeAny_builtin F.excBase_ValueError.initEntry ?_⟩
  rw [Around.under_plainId F.excBase_ValueError.init.plain _]
  wp_walk
  refine hq _ h.objs.size (fun b o hb ho => ?_) ?_
  · rw [Heap.get?_update_other _ _ (Ne.symm hb)]
    exact Heap.get?_push_of_some _ ho
  · rw [Heap.get?_update_self _ (Heap.get?_push_of_some _ he) rfl]
    rfl
theorem super_call {o : Expr} {m : Str} {p5 p6 p7 : Pos} (ho : ∀ x q, o ≠ .Name x q) (hp : (p5.endLine == p7.line) = true) (env : PySem.Env) : eval (.Call (.Attribute o "__init__" p5) [.Constant (.str m) 0 p6] [] p7) env = (do
    let ov ← attributeBase o "__init__" env (eval o env)
    standAt p5.atName
    let (f, first) ← holding [ov] (getMethod ov "__init__" (do return (← importBound o env).getD true))
    callWith p7 f first (backTo p7 (starEach [.Constant (.str m) 0 p6] env)) []) := by
  show (do
    let ov ← attributeBase o "__init__" env (eval o env)
    standAt p5.atName
    methodCall o "__init__" p5 p7 env ov 1 (backTo p7 (starEach [.Constant (.str m) 0 p6] env)) []) = _
  unfold methodCall methodCallPos
  rw [hp]
  rfl
/-- the first row of __init__, from its place -/
theorem sup_row (T : ErrTxt P K mg D fI) (TC : ErrCls K D fI C) {qual : Str} {cda cc a : Addr} {A : Around} {outer : List PySem.Env} {s s1 : Shared} {H : Hp} {E : XK} {y : V} {cl : Value} {cld : Option Addr} {csl : Array (Option Value)} {oc : Value} {od : Option Addr} {doc pm ct : Value} {an : Option Addr} {osl : Array (Option Value)} {m : Str} {p1 p2 p3 p4 p5 p6 p7 p8 q1 q2 q3 q4 : Pos} {ccl : Value} {cdd : Option Addr} {vs : Array Value} {ccs : Array (Option Value)} {file : Str} {tf : Tok}
    (lk : K.lookup fI = some ⟨oc, od, .func (PySem.W.ksFn "__init__" qual (eA p1 p2) (eB m p3 p4 p5 p6 p7 p8 q1 q2 q3 q4) eS .none .none doc pm an (.ref cda) ct cc), osl⟩)
    (hcd : K.lookup cda = some ⟨ccl, cdd, .fields vs, ccs⟩) (hvs : vs[2]? = some (.str file tf)) (hfile : ((P.main.file : Str) == file) = true) (hcc : K.lookup cc = some ⟨cl, cld, .cell (some (.ref D)), csl⟩) (hpos : (p5.endLine == p7.line) = true)
    (I : Inv (cxK CX P w K mg base ["self", "value"] qual eS fI (.ref cda) cc A outer s H E) [] [some (.ref a), some y] H s1) (ha : H a = some (exo a C none)) {body : List Stmt} {Q : Flow → Shared → Prop}
    (hq : ∀ s', Inv (cxK CX P w K mg base ["self", "value"] qual eS fI (.ref cda) cc A outer s H E) [] [some (.ref a), some y] H s' → Q .next s') :
    PySem.wpAt (model P w) (cxK CX P w K mg base ["self", "value"] qual eS fI (.ref cda) cc A outer s H E).A (.func body (PySem.W.ksEnv qual eS s.heap.objs.size fI (.ref cda) cc)) (exec (.Expr (.Call (.Attribute (.Call (.Name "super" p3) [] [] p4) "__init__" p5) [.Constant (.str m) 0 p6] [] p7) p8) (PySem.W.ksEnv qual eS s.heap.objs.size fI (.ref cda) cc)) Q
      (cxK CX P w K mg base ["self", "value"] qual eS fI (.ref cda) cc A outer s H E).xe s1 := by
  refine ks_wpAt_Expr_any (ks_wpAt_MethodCall ?_ (super_call (fun _ _ z => by cases z) hpos _))
  have X : K.In s1.heap := I.kIn
  obtain ⟨m1, hns, hl⟩ := I.loc
  obtain ⟨u0, r0, l0⟩ := hl 0 "self" (.ref a) rfl rfl (.inl rfl)
  obtain rfl : u0 = .ref a := r0
  have hm : m1 "self" = some (.ref a) := by
    rcases l0 with ⟨_, q⟩ | ⟨q, _⟩
    · exact q
    · rcases q with q | q
      · exact absurd (show (some NameKind.local : Option NameKind) = some .cell from q) (by decide)
      · exact absurd (show (some NameKind.local : Option NameKind) = some .free from q) (by decide)
  obtain ⟨cdD, hD⟩ := T.cD
  obtain ⟨t0, hx⟩ := exo_at I.hok ha
  obtain ⟨oD, hD1, hD2⟩ : ∃ oD, s1.heap.get? D = some oD ∧ oD.data = .cls cdD := by
    unfold PySem.W.clsIn at hD
    split at hD
    · rename_i c d cd' sl ho
      cases hD
      exact ⟨_, X _ _ ho, rfl⟩
    · cases hD
  obtain ⟨mb, hb1, hb2⟩ := I.mod.blt
  have IA : PySem.W.InstAt s1.heap a ({ cls := .ref C, dict := none, data := .fields #[.ref t0, .none, .none, .none, .bool false, .none] } : Obj) C none := ⟨hx, rfl, rfl, trivial⟩
  refine ks_wpAt_super_base (env := PySem.W.ksEnv qual eS s.heap.objs.size fI (.ref cda) cc) (ar := { arg := "self", annotation := none, pos := p1 }) rfl rfl (by decide) rfl (X _ _ lk) rfl rfl rfl (X _ _ hcd) rfl hvs hfile T.top ?_
  refine PySem.W.ks_loadName_global rfl rfl (Calls.loadGlobal_builtin (env := PySem.W.ksEnv qual eS s.heap.objs.size fI (.ref cda) cc) (I.mod.glob.keeps I.bk) T.sup (hb1.keeps I.bk) ((hb2 _ (by decide +kernel)).trans PyProof.Rows.Boot.«super») ⟨rfl, ?_⟩)
  refine wpAny_loadName_free rfl rfl rfl ⟨_, X _ _ hcc, rfl⟩ ?_
  refine wpAny_loadName_local rfl rfl hns hm ?_
  refine ks_wpAny_isType_cls hD1 hD2 ⟨rfl, ?_⟩
  obtain ⟨hh, g, d, t, os⟩ := s1
  refine ks_wpAny_call_super hD1 hD2 hx rfl (fun c e => by cases e) (PySem.W.looks_mroIn X TC.sub) (fun h' e k => ?_)
  have J : Inv (cxK CX P w K mg base ["self", "value"] qual eS fI (.ref cda) cc A outer s H E) [] [some (.ref a), some y] H ⟨h', g, d, t, os⟩ := I.kept (t' := t) k
  obtain ⟨nm, q, N, bs, bm, sn, sub, ab, col, dd, k0, k1, k2, k3, k5, hC, hbm⟩ := TC.oex.cls
  have X1 : K.In h' := J.kIn
  have hcl : PySem.W.clsIn K C = some { name := nm, bases := bs, mro := .ref C :: bm, ns := N, qualname := q, hasDict := true, slotNames := sn, subclasses := sub, abstract := ab, collection := col, hasDel := false } := by unfold PySem.W.clsIn; rw [hC] <;> rfl
  have hsup := TC.sup
  unfold PySem.W.ks_superIn at hsup
  rw [hcl] at hsup
  have IA1 : PySem.W.InstAt h' a ({ cls := .ref C, dict := none, data := .fields #[.ref t0, .none, .none, .none, .bool false, .none] } : Obj) C none := ⟨k _ _ hx, rfl, rfl, trivial⟩
  refine PySem.W.kxs_getMethod PySem.W.kxs_ValueError e (PySem.W.looks_opaque X1 T.opq) (fun A Q E s k q => wpAny_bind ((PySem.W.looks_clsIn X1 hcl) A _ E s k (wpAny_pure q))) rfl X1 hsup (IA1.type.andThen (PySem.W.looks_subIn X1 TC.subV)) (PySem.W.ks_ne X1 IA1 hcl) (by decide) ?_
  have J2 : Inv (cxK CX P w K mg base ["self", "value"] qual eS fI (.ref cda) cc A outer s H E) [] [some (.ref a), some y] H ⟨h'.push (PySem.W.kxs_mw "ValueError.__init__" a), g, d, t + 1, os⟩ := J.kept (t' := t + 1) fun b o q => Heap.get?_push_of_some _ q
  have hmw : (h'.push (PySem.W.kxs_mw "ValueError.__init__" a)).get? h'.objs.size = some (PySem.W.kxs_mw "ValueError.__init__" a) := Heap.get?_push_at rfl rfl
  have J3 : Inv (cxK CX P w K mg base ["self", "value"] qual eS fI (.ref cda) cc A outer s H E) [(h'.objs.size, PySem.W.kxs_mw "ValueError.__init__" a)] [some (.ref a), some y] H ⟨h'.push (PySem.W.kxs_mw "ValueError.__init__" a), g, d, t + 1, os⟩ := J2.pins_of fun p hp => by
    rcases List.mem_singleton.mp hp with rfl
    exact ⟨hmw, J.hok.fresh (Nat.le_refl _), fun z => absurd J.lt (by rw [← z]; exact Nat.lt_irrefl _), J.nofs (Nat.le_refl _), fun v z => by cases z⟩
  refine PySem.W.kxs_callWith (i := "ValueError.__init__") (x := a) rfl (Calls.evalArgs_plain ?_)
  refine thn ((pa_cons (X := cxK CX P w K mg base ["self", "value"] qual eS fI (.ref cda) cc A outer s H E) pe_str pa_nil).run p7 _ _ _ H (fun vs H' => H' = H ∧ vs.length = 1) J3 ⟨rfl, rfl⟩) fun us s2 hh2 => ?_
  obtain ⟨vs2, H2, I2, r2, rfl, hlen⟩ := hh2
  have hm2 := (I2.pin _ (List.mem_append_right _ (List.mem_singleton.mpr rfl))).1
  refine ⟨hm2, ?_⟩
  obtain ⟨t1, hx2⟩ := exo_at I2.hok ha
  obtain ⟨hp2, g2, d2, tk2, os2⟩ := s2
  refine call_mw (I2.kIn _ _ hC) hx2 hm2 ?_ fun h3 t3 k3' hx3 => hq _ ?_
  · show us.length ≤ sizeLine
    rw [← Paired.length r2, hlen, sizeLine_eq]
    decide
  · have J4 := (I2.pins_of (pins' := []) (fun p hp => absurd hp (by simp))).write (t' := tk2) (x := a) (e := a) (o := exo a C none) (by rw [ha]; exact True.intro) (.inl rfl) k3' ⟨_, hx3⟩ (exo_ok hx3)
    have eu : upd H2 a (exo a C none) = H2 := by
      funext b
      by_cases hb : b = a
      · rw [hb, upd_same, ha]
      · rw [upd_ne hb]
    rw [eu] at J4
    exact J4
theorem init_ok (T : ErrTxt P K mg D fI) (TC : ErrCls K D fI C) : ∃ fd, FnOk P w K mg base CX 0 fI fd ["self", "value"] (initSp C) ∧ Binds K fd ["self", "value"] [] := by
  obtain ⟨qual, oc, od, doc, pm, an, cda, ct, osl, cc, m, p1, p2, p3, p4, p5, p6, p7, p8, q1, q2, q3, q4, lk, hcd, hpos, ⟨ccl, cdd, vs', ccs, file, tf, hcda, hvs, hfile⟩, cl, cld, csl, hcc⟩ := T.fn
  refine ⟨PySem.W.ksFn "__init__" qual (eA p1 p2) (eB m p3 p4 p5 p6 p7 p8 q1 q2 q3 q4) eS .none .none doc pm an (.ref cda) ct cc, ⟨fun vs H Q E h => ?_, fun A outer s H args us vs Q E hr e0 hb r hsp => ?_⟩, fun s us X hl => ?_⟩
  · obtain ⟨a, y, rfl, _⟩ := h
    rfl
  · obtain ⟨a, y, rfl, ha, hq⟩ := hsp
    cases r with
    | @cons _ u0 _ ur ra r' =>
      cases r' with
      | @cons _ u _ ur2 ry r'' =>
        cases r''
        obtain rfl : u0 = .ref a := ra
        have KX : K.In s.heap := e0.mod.kin.keeps fun b o e => (e0.bs b o e).1
        have lim : s.heap.NoLimit := e0.mod.nolimit.keeps fun b o e => (e0.bs b o e).1
        refine ks_codeAny_call_defAt (fd := PySem.W.ksFn "__init__" qual (eA p1 p2) (eB m p3 p4 p5 p6 p7 p8 q1 q2 q3 q4) eS .none .none doc pm an (.ref cda) ct cc) hr.depth (KX _ _ lk) rfl lim (PySem.W.codeRec_of KX hcd) rfl hb (show ∀ x ∈ eS.names, x.2 ≠ .cell by decide) (fun z hz => ?_) (fun h₁ hns hk => ?_) rfl rfl rfl
        · rcases List.mem_cons.mp hz with rfl | hz
          · rfl
          · rcases List.mem_cons.mp hz with rfl | hz
            · rfl
            · cases hz
        · have I := inv_k (CX := CX) (fI := fI) (qual := qual) (cda := cda) (E := E) (tk := s.toks + 2) hcc hr.hd e0 ry hns hk
          refine ks_wpAt_execs_cons (sup_row T TC lk hcda hvs hfile hcc hpos I ha fun s' J => wpAt_of_wpAny ?_)
          have hrest := (pss_one (ps_ost (X := cxK CX P w K mg base ["self", "value"] qual eS fI (.ref cda) cc A outer s H E) (f := "value") (p' := q2) (pos := q4) (pe_var (i := 0) (pos := q1) rfl (.inl rfl)) (pe_var (i := 1) (pos := q3) rfl (.inl rfl)))).run [] s' _ H { nx := fun _ H' => Q .non H', rt := fun _ _ => False } J ⟨y, rfl, .ref a, rfl, a, C, rfl, TC.oex, TC.no, .inl ⟨ha, fun d hd hne => hq d hd hne⟩⟩
          refine wpAny_mono hrest (fun fl s2 hs => ?_) fun _ _ z => z
          cases fl with
          | ret u => exact (let ⟨_, _, _, _, _, z⟩ := hs; False.elim z)
          | next =>
            obtain ⟨σ', H', J2, q⟩ := hs
            exact ⟨.non, H', J2.os, J2.bare, J2.base, J2.hok, rfl, q⟩
          | brk => exact (let ⟨_, _, _, z⟩ := hs; False.elim z)
          | cont => exact (let ⟨_, _, _, z⟩ := hs; False.elim z)
  · match us, hl with
    | [_, _], _ => exact .of_eq rfl
end
end FN
set_option Elab.async false
set_option linter.all false
set_option maxRecDepth 100000
set_option maxHeartbeats 4000000
/-! FN12: raise, try. -/
namespace FN
open PySem PySem.Spec PyProof.Rows L2
/-! ### raise C(e) -/
def sRaise (n : Str) (fa : M D) : Env → Option Fl := fun ρ => bnd (fa ρ) Fl.err fun d ρ1 => some (.err n d ρ1)
section
variable {X : Cx} {W : WX} {C : FC} {κ κn : List Kind} {pos pos' p : Pos} {e : Expr} {fa : M D} {b : Bool}
theorem fs_raise {n : Str} {D fI Ca : Addr} (T : ErrTxt X.prog X.K X.mg D fI) (TC : ErrCls X.K D fI Ca) (hm : X.mg n = some (.ref Ca)) (hc : X.calm = true) (hr : Room 1 X.A) (tk : Takes X W) (ha : FV X W κ (.t (.v b)) e fa) (hg : Gl X n := by rfl) (hdb : (n == ("__debug__" : Str)) = false := by decide)
    (he : starEach (e :: []) X.env = (false, eval e X.env) :: starEach [] X.env := by rfl) (hk : EK C κ := by first | exact .inl rfl | exact .inr rfl) : FS X W C κ κn (.Raise (some (.Call (.Name n p) [e] [] pos)) none pos') (sRaise n fa) := by
  obtain ⟨fd, F1, hb⟩ := init_ok (w := X.w) (base := X.base) (CX := CX0) T TC
  refine (ps_raise hc tk (pmk_oex TC.oex TC.iC TC.tI F1 hr hb .nil pass0 hg hm (pa_cons ha pa_nil he) hdb he rfl)).imp fun D' σ H h => ?_
  obtain ⟨ρ, w, rfl, rel, post⟩ := h
  refine seqV (P := PostS (ctx X W) C κn D' w) rel post (fun z => z) (fun n d ρ' z => errS hk z) fun d ρ1 v w1 rel1 e1 t1 post1 => ?_
  refine ⟨show (1 : Nat) ≤ 1000 by decide, fun a na => ⟨a, v, rfl, upd_same, fun dx hd hne => ⟨rfl, dx, [(("value" : Str), v)], upd_same, ?_, ?_, ?_⟩⟩⟩
  · rw [upd_ne hne, upd_same]
  · rw [upd_ne hne] at hd
    exact hd
  · rw [upd_ne hne] at hd
    obtain ⟨w2, eH, eF, rel2, e2⟩ := world_new (o := .xd [(("value" : Str), v)]) rel1 hd
    have eq : upd (del (upd (upd (upd w1.H a (exo a Ca none)) dx (exd dx [(("value" : Str), v)])) a (exo a Ca (some dx))) a) dx (.xd [(("value" : Str), v)]) = w2.H := by
      rw [eH]
      funext z
      by_cases z1 : z = dx
      · rw [z1, upd_same, upd_same]
      · rw [upd_ne z1, upd_ne z1]
        by_cases z2 : z = a
        · rw [z2, del_same, na]
        · rw [del_ne z2, upd_ne z2, upd_ne z1, upd_ne z2]
    rw [eq]
    refine post1 (.ref Ca) dx σ w2 rel2.same (fun κ' z => ?_) (e1.trans e2) ⟨Ca, v, hm, rfl, by rw [eF, upd_same], ((Temp.rd t1).mono e2.same).any⟩
    rcases hk with y | y
    · rw [y] at z
      cases z
    · rw [y] at z
      cases z
      exact rel2
/-! ### try: .. except S as e: .. -/
/-- the value of the caught error in slot i -/
def fXv (i : Nat) : M D := fun ρ => match ρ[i]? with
  | some (some (.dict [(.none, d)])) => some (.ok d ρ)
  | _ => none
theorem fe_xv {a dx : Addr} {cls : Value} {R : Addr → Prop} {oe : Obj} {pn : List (Addr × Obj)} {x : Str} {i : Nat} (hz : Zc cls (some dx) oe) (hf : ∃ vs, oe.data = .fields vs) (hk : κ[i]? = some (.exc a dx cls R) := by rfl) (hN : X.N[i]? = some x := by rfl) (hv : Vis X.env.scope x := by first | exact Or.inl rfl | exact Or.inr (Or.inl rfl) | exact Or.inr (Or.inr rfl))
    (hb : attributeBase (.Name x p) "value" X.env (eval (.Name x p) X.env) = eval (.Name x p) X.env := by rfl) (hd : (x == ("__debug__" : Str)) = false := by decide) (hcd : (x == ("__classdict__" : Str)) = false := by decide) :
    FV (X.suite a ((a, oe) :: pn)) W κ (.t (.v true)) (.Attribute (.Name x p) "value" pos) (fXv i) := by
  refine ⟨fun pins s σ H Q I h => ?_⟩
  obtain ⟨ρ, w, rfl, rel, post⟩ := h
  unfold fXv at post
  split at post
  · rename_i d ed
    obtain ⟨v, f, e1, o, _⟩ := rel.slots.get ed hk
    obtain ⟨rfl, y, d', q1, q2, q3, Ca, rfl, xf, no, _⟩ := o
    cases q1
    refine (pe_xf (X := X) (pos := pos) xf no hz hf (pe_var (X := X.suite a ((a, oe) :: pn)) (pos := p) hN hv hd hcd) hb).run pins s σ _ Q I ⟨.ref a, e1, rfl, rfl, dx, _, y, rfl, rel.same _ _ q2, List.lookup_cons_self, ?_⟩
    exact fin_imm post rel (Ext.refl _) q3
  · exact post.elim
def sTry (sel : Str → Option Bool) (i : Nat) (fb fs : Env → Option Fl) : Env → Option Fl := fun ρ => match fb ρ with
  | some (.err n d ρ') => match sel n with
    | some true => match fs (ρ'.set i (some (.dict [(.none, d)]))) with
      | some (.nx ρ2) => some (.nx (ρ2.set i none))
      | some (.ret d ρ2) => some (.ret d ρ2)
      | _ => none
    | some false => some (.err n d ρ')
    | none => none
  | o => o
theorem slots_clear {K : PySem.W.Frag} {F H : Hp} {κ : List Kind} {ρ : Env} {σ : L2.St} {fp : FpS} (h : Slots K F H κ ρ σ fp) (k : Kind) (o : Option V) : ∀ i : Nat, Slots K F H (κ.set i k) (ρ.set i none) (σ.set i o) fp := by
  induction h with
  | nil => exact fun i => .nil
  | skip t ih =>
    intro i
    cases i with
    | zero => exact .skip t
    | succ i => exact .skip (ih i)
  | cons r t d h1 h2 ih =>
    intro i
    cases i with
    | zero => exact .skip (t.mono h2)
    | succ i => exact .cons r (ih i) d h1 h2
theorem rel_clear {K : PySem.W.Frag} {κ : List Kind} {ρ : Env} {σ : L2.St} {w : Wd} (rel : Rel K κ ρ σ w) {k : Kind} (hk : nofix k) (o : Option V) (i : Nat) : Rel K (κ.set i k) (ρ.set i none) (σ.set i o) w := by
  refine ⟨rel.same, rel.frz, rel.live, fun j u k' z => ?_, slots_clear rel.slots k o i⟩
  by_cases hj : j = i
  · subst hj
    by_cases hl : j < κ.length
    · rw [List.getElem?_set_self hl] at z
      cases z
      exact hk.elim
    · rw [List.getElem?_eq_none (by simpa using hl)] at z
      cases z
  · rw [List.getElem?_set_ne (Ne.symm hj)] at z
    rw [List.getElem?_set_ne (Ne.symm hj)]
    exact rel.fixed j u k' z
/-- which errors of the law's own classes an except clause takes -/
def Sel (K : PySem.W.Frag) (mg : Str → Option Value) (c : Value) (R : Addr → Prop) (sel : Str → Option Bool) : Prop :=
  ∀ n b, sel n = some b → ∀ Ca, mg n = some (.ref Ca) → XfC K Ca ∧ PySem.W.findIn K (.ref Ca) "value" = some none ∧ PySem.W.exmOne K (.ref Ca) c = some b ∧ R Ca
theorem fs_try {cn nm : Str} {c : Value} {i : Nat} {body suite : List Stmt} {b₀ : Stmt} {np : Pos} {sel : Str → Option Bool} {R : Addr → Prop} {k : Kind} {κs : List Kind} {fb fs : Env → Option Fl} (hsel : Sel X.K X.mg c R sel) (hc : Names X cn c) (tk : Takes X W) (hN : X.N.Nodup)
    (hb : ∀ (W' : WX) (pn : List (Addr × Obj)) (xe : Value → Shared → Prop), Takes (X.tr pn xe) W' → PassesOwn (model X.prog X.w) X.A X.env xe → FSs (X.tr pn xe) W' ⟨C.ks, C.vs, C.kr, C.kl, some κ⟩ κ (κs.set i k) body fb)
    (hs : ∀ (a : Addr) (oe : Obj) (cls : Value) (dx : Addr) (pn : List (Addr × Obj)), Zc cls (some dx) oe → (∃ vs, oe.data = .fields vs) → FSs (X.suite a ((a, oe) :: pn)) (fun _ _ _ _ => False) ⟨C.ks, C.vs, C.kr, C.kl, none⟩ (κ.set i (.exc a dx cls R)) (κs.set i (.exc a dx cls R)) (b₀ :: suite) fs)
    (hstk : X.stack = X.env :: X.outer := by rfl) (hfr : X.env.frame = some X.env.locals := by rfl) (hi : X.N[i]? = some nm := by rfl) (hln : X.env.kindOf nm = some .local := by rfl) (hk : EK C κ := by first | exact .inl rfl | exact .inr rfl) (hl : i < κ.length := by decide) (hnf : nofix k := by exact True.intro) :
    FS X W C κ (κs.set i k) (.Try body [.ExceptHandler (some (.Name cn np)) (some nm) (b₀ :: suite) pos'] [] [] pos) (sTry sel i fb fs) := by
  refine (ps_try_as (tb := fun W' => tS (ctx X W') ⟨C.ks, C.vs, C.kr, C.kl, some κ⟩ κ (κs.set i k) fb)
    (ts := fun a cls d => match d with | some dx => tS (ctx X fun _ _ _ _ => False) ⟨C.ks, C.vs, C.kr, C.kl, none⟩ (κ.set i (.exc a dx cls R)) (κs.set i (.exc a dx cls R)) fs | none => fun _ _ _ => False)
    (Wout := W) hstk hfr hN hi hln hc tk (fun W' pn xe t po => hb W' pn xe t po) (fun a oe cls d pn hz hf => ?_)).imp fun D' σ H h => ?_
  · cases d with
    | some dx => exact hs a oe cls dx pn hz hf
    | none => exact ⟨fun _ _ _ _ _ _ z => z.elim⟩
  · obtain ⟨ρ, w, rfl, rel, post⟩ := h
    refine ⟨ρ, w, rfl, rel, ?_⟩
    unfold sTry at post
    cases q : fb ρ with
    | none =>
      rw [q] at post
      exact post
    | some o =>
      rw [q] at post
      cases o with
      | nx ρ1 => exact post
      | ret d ρ1 => exact post
      | bk ρ1 => exact post
      | ct ρ1 => exact post
      | err n d ρ1 =>
        intro cls dx σ' w' sm rel' ex ea
        have rel1 : Rel X.K κ ρ1 σ' w' := rel' κ rfl
        have ea0 := ea
        obtain ⟨Ca, v, hm, rfl, hF, hv⟩ := ea
        dsimp only at post
        cases qs : sel n with
        | none =>
          rw [qs] at post
          exact post.elim
        | some b =>
          rw [qs] at post
          obtain ⟨xf, no, exm, hR⟩ := hsel n b qs Ca hm
          refine ⟨b, exm, fun hb' a na => ?_, fun hb' => ?_⟩
          · subst hb'
            dsimp only at post
            have t : Temp X.K (.exc a dx (.ref Ca) R) w' w' (.dict [(.none, d)]) (.ref a) := ⟨fun _ => False, ⟨rfl, v, d, rfl, hF, hv, Ca, rfl, xf, no, hR⟩, fun _ z => z.elim⟩
            obtain ⟨w2, eH, _, rel2, e2⟩ := rel_set (i := i) rel1 t (by rw [← rel1.slots.lengths.1]; exact hl) (fun u k' z => by cases z)
            refine ⟨_, w2, eH, rel2, ?_⟩
            split at post
            · rename_i ρ2 q2
              rw [q2]
              intro σ3 w3 rel3 e3
              have r4 := rel_clear (k := k) rel3 hnf none i
              rw [List.set_set] at r4
              exact post _ w3 r4 ((ex.trans (e2 (Ext.refl _))).trans e3)
            · rename_i d2 ρ2 q2
              rw [q2]
              exact fun v3 w3 r3 e3 t3 => post v3 w3 r3 ((ex.trans (e2 (Ext.refl _))).trans e3) (t3.since (ex.trans (e2 (Ext.refl _))))
            · exact post.elim
          · subst hb'
            dsimp only at post
            refine post (.ref Ca) dx σ' w' sm (fun κ' z => ?_) ex ea0
            rcases hk with y | y
            · rw [y] at z
              cases z
            · rw [y] at z
              cases z
              exact rel1
end
end FN
set_option Elab.async false
set_option linter.all false
set_option maxRecDepth 100000
set_option maxHeartbeats 4000000
/-! FN13: texts, zip, defs as values, sorted. -/
namespace FN
open PySem PySem.Spec PyProof.Rows L2
/-! ### defs as values -/
def fTok : M D := fun ρ => some (.ok (.dict []) ρ)
def tokK (f : Addr) : Option Kind → Prop
  | some (.tok u) => u = .ref f
  | some (.fix _ (.tok u)) => u = .ref f
  | _ => False
def fCallL (i : Nat) (ms : List Md) (g : M D) (fr : M (List D)) : M D := fun ρ => match ρ[i]? with
  | some (some _) => fCall ms g fr ρ
  | _ => none
section
variable {X : Cx} {W : WX} {κ : List Kind} {pos p : Pos} {e : Expr} {es : List Expr} {fr : M (List D)} {ms : List Md} {ks : List Kind} {kr : Kind} {g : M D}
theorem fe_tok {x : Str} {f : Addr} (hm : X.mg x = some (.ref f)) (hg : Gl X x := by rfl) (hd : (x == ("__debug__" : Str)) = false := by decide) : FV X W κ (.t (.tok (.ref f))) (.Name x pos) fTok :=
  (pe_glob hg hm (v := .ref f) rfl hd).imp fun σ H Q h => by
    obtain ⟨ρ, w, rfl, rel, post⟩ := h
    exact post (.ref f) w rel (Ext.refl _) ⟨fun _ => False, ⟨rfl, rfl⟩, fun _ z => z.elim⟩
theorem tok_at {K : PySem.W.Frag} {F H : Hp} {σ : L2.St} {fp : FpS} {ρ : Env} {i : Nat} {d : D} {f : Addr} (h : Slots K F H κ ρ σ fp) (e : ρ[i]? = some (some d)) (hk : tokK f κ[i]?) : σ[i]? = some (some (.ref f)) := by
  unfold tokK at hk
  split at hk
  · rename_i u q
    obtain ⟨v, g, e1, o, _⟩ := h.get e q
    obtain ⟨rfl, _⟩ := o
    rw [e1, hk]
  · rename_i u0 u q
    obtain ⟨v, g, e1, o, _⟩ := h.get e q
    obtain ⟨rfl, _⟩ := o
    rw [e1, hk]
  · exact hk.elim
/-- a call of the def that slot i holds -/
theorem fe_fnL {k : Nat} {ps : List Str} {x y : Str} {f : Addr} {i : Nat} (G : Kn X.prog X.w X.K X.mg X.base CX0 k x ps (spF X.K X.mg ks kr (noErr g))) (hmf : X.mg x = some (.ref f)) (hki : tokK f κ[i]?) (hr : Room k X.A) (hf : Fits κ ms ks) (ha : FA X W κ ms (e :: es) fr)
    (hN : X.N[i]? = some y := by rfl) (hv : Vis X.env.scope y := by first | exact Or.inl rfl | exact Or.inr (Or.inl rfl) | exact Or.inr (Or.inr rfl)) (hdb : (y == ("__debug__" : Str)) = false := by decide) (hcd : (y == ("__classdict__" : Str)) = false := by decide)
    (he : starEach (e :: es) X.env = (false, eval e X.env) :: starEach es X.env := by rfl) (hpl : (backTo pos (starEach es X.env)).any (·.1) = false := by rfl) : FV X W κ (.t kr) (.Call (.Name y p) (e :: es) [] pos) (fCallL i ms (noErr g) fr) := by
  obtain ⟨f', fd, F, hm, hk, hb, _⟩ := G.ex
  rw [hmf] at hm
  cases hm
  refine (pe_callL (i := i) F hr hN hv hk hb .nil pass0 ha hdb hcd he hpl).imp fun σ H Q h => ?_
  obtain ⟨ρ, w, rfl, rel, post⟩ := h
  unfold fCallL at post
  split at post
  · rename_i d ed
    refine ⟨tok_at rel.slots ed hki, ?_⟩
    simp only [List.append_nil]
    exact ev_call (E := E0) hf (.inl fun _ _ _ _ => noErr_ne) ⟨ρ, w, rfl, rel, post⟩
  · exact post.elim
end
/-! ### str, split, join -/
section
variable {X : Cx} {W : WX} {κ : List Kind} {pos p apos : Pos} {a o : Expr} {fa fo : M D} {m mo : Md} {b k : Bool}
def dStr : D → Option D
  | .int i => if i.natAbs.log2 < 1920 then some (.str (toString i)) else none
  | .str x => some (.str x)
  | _ => none
theorem fe_strI (hg : Gl X "str") (hm : X.mg "str" = none) (ha : FV X W κ m a fa) (hs : starEach (a :: []) X.env = (false, eval a X.env) :: starEach [] X.env := by rfl) : FV X W κ (.t (.v b)) (.Call (.Name "str" p) [a] [] pos) (f1 m dStr fa) :=
  (pe_callTy (call_str_int.or SkE.call_str_str) hg hm PyProof.Rows.boot_str (pa_cons ha pa_nil hs) (by decide) (by decide) hs).imp fun σ H Q h => ev_c1 (fun ρ w w1 x dx vx z rel ext t ex ez post => by
    unfold dStr at ez
    split at ez
    · split at ez
      · rename_i hl
        cases ez
        exact .inl ⟨_, by rw [dp_int (rd_dp rel t ex)], hl, fin_imm post rel ext (.str _)⟩
      · cases ez
    · cases ez
      exact .inr ⟨_, by rw [dp_str (rd_dp rel t ex)], fin_imm post rel ext (.str _)⟩
    · cases ez) h
/-- a method of a text with one argument -/
def fM1 (m : Md) (op : Str → D → Option D) (fo fa : M D) : M D := fun ρ => bdo (fo ρ) fun x ρ1 => match x with
  | .str s => bdo (fa ρ1) fun y ρ2 => match rd m y ρ2 with
    | some y => (op s y).map fun z => .ok z ρ2
    | none => none
  | _ => none
theorem ev_m1 {c : Ct} {kr : Kind} {op : Str → D → Option D} {r : V → List V → Hp → VK → Prop} {σ : L2.St} {H : Hp} {Q : VK} {bo : Bool}
    (hr : ∀ ρ w w2 s y dy vy z, Rel c.K κ ρ σ w2 → Ext w w2 → TempM c.K m σ w w2 dy vy → rd m dy ρ = some y → op s y = some z → PostV c κ σ (.t kr) w Q (some (.ok z ρ)) → r (.str s) [vy] w2.H Q)
    (h : tV c κ (.t kr) (fM1 m op fo fa) σ H Q) : tM1 r (tV c κ (.t (.v bo)) fo) (tV c κ m fa) σ H Q := by
  obtain ⟨ρ, w, rfl, rel, post⟩ := h
  refine seqV (P := PostV c κ σ (.t kr) w Q) rel post (fun z => z) (fun n d ρ' z => z) fun dx ρ1 vx w1 rel1 e1 t1 post1 => ?_
  split at post1
  · rename_i s
    obtain rfl : vx = .str s := dp_str (Temp.rd t1).dp
    refine ⟨⟨s, rfl⟩, ?_⟩
    refine seqV (P := PostV c κ σ (.t kr) w Q) rel1 post1 (fun z => z) (fun n d ρ' z => z.since e1) fun dy ρ2 vy w2 rel2 e2 t2 post2 => ?_
    split at post2
    · rename_i y ey
      cases ez : op s y with
      | none =>
        rw [ez] at post2
        exact post2.elim
      | some z =>
        rw [ez] at post2
        exact hr ρ2 w w2 s y dy vy z rel2 (e1.trans e2) (t2.since e1) ey ez post2
    · exact post2.elim
  · exact post1.elim
theorem rds_strs {K : PySem.W.Frag} {F : Hp} : ∀ ys : List Str, RDs b K F (ys.map V.str) (ys.map PyData.str)
  | [] => .nil
  | y :: r => .cons (.str y) (rds_strs r)
def dSplit (s : Str) : D → Option D
  | .str t => if (t.length == 0) = false ∧ s.length + 2 ≤ sizeLine then some (.list ((Txt.split s t).map .str)) else none
  | _ => none
theorem fe_split {kd : Kind} (hd : newL b kd := by rfl) (ho : FV X W κ (.t (.v k)) o fo) (ha : FV X W κ m a fa) (hs : starEach [a] X.env = [(false, eval a X.env)] := by rfl) (hbase : attributeBase o "split" X.env (eval o X.env) = eval o X.env := by rfl) (hline : (apos.endLine == pos.line) = true := by rfl) :
    FV X W κ (.t kd) (.Call (.Attribute o "split" apos) [a] [] pos) (fM1 m dSplit fo fa) := (pe_split ho ha hs hbase hline).imp fun σ H Q h => ev_m1 (fun ρ w w2 s y dy vy z rel e t ey ez post => by
  unfold dSplit at ez
  split at ez
  · split at ez
    · rename_i hc
      cases ez
      exact ⟨_, _, rfl, by rw [dp_str (rd_dp rel t ey)], hc.1, hc.2, fun p' np => fin_lst (b := b) hd post rel e (rds_strs _) np⟩
    · cases ez
  · cases ez) h
/-- the texts of a list of data -/
def strsOf : List D → Option (List Str)
  | [] => some []
  | .str s :: r => (strsOf r).map fun l => s :: l
  | _ :: _ => none
theorem strsOf_rds {K : PySem.W.Frag} {H : Hp} : ∀ {ds : List D} {xs : List V} {ys : List Str}, DpAll K H xs ds → strsOf ds = some ys → xs = ys.map V.str
  | [], _, _, .nil, h => by
    cases h
    rfl
  | d :: ds, _, _, .cons (v := v) hd t, h => by
    cases d with
    | str s =>
      have h' : (strsOf ds).map (fun l => s :: l) = some _ := h
      cases q : strsOf ds with
      | none =>
        rw [q] at h'
        cases h'
      | some l =>
        rw [q] at h'
        cases h'
        rw [dp_str hd, strsOf_rds t q]
        rfl
    | _ => exact absurd (show (none : Option (List Str)) = some _ from h) (by intro z; cases z)
def dJoin (s : Str) : D → Option D
  | .list ds => match strsOf ds with
    | some ys => if (ys.map (·.length)).sum + ys.length * s.length ≤ 16777216 then some (.str (Txt.join s ys)) else none
    | none => none
  | .tuple ds => match strsOf ds with
    | some ys => if (ys.map (·.length)).sum + ys.length * s.length ≤ 16777216 then some (.str (Txt.join s ys)) else none
    | none => none
  | _ => none
theorem fe_join (ho : FV X W κ (.t (.v k)) o fo) (ha : FV X W κ m a fa) (hs : starEach [a] X.env = [(false, eval a X.env)] := by rfl) (hbase : attributeBase o "join" X.env (eval o X.env) = eval o X.env := by rfl) (hline : (apos.endLine == pos.line) = true := by rfl) :
    FV X W κ (.t (.v b)) (.Call (.Attribute o "join" apos) [a] [] pos) (fM1 m dJoin fo fa) := (pe_join ho ha hs hbase hline).imp fun σ H Q h => ev_m1 (fun ρ w w2 s y dy vy z rel e t ey ez post => by
  have dp := rd_dp rel t ey
  unfold dJoin at ez
  split at ez
  · split at ez
    · rename_i ys q
      split at ez
      · rename_i hc
        cases ez
        cases dp with
        | lst h1 h2 =>
          obtain rfl := strsOf_rds h2 q
          exact ⟨_, _, ys, rfl, rfl, .inl h1, hc, fin_imm post rel e (.str _)⟩
      · cases ez
    · cases ez
  · split at ez
    · rename_i ys q
      split at ez
      · rename_i hc
        cases ez
        cases dp with
        | tup h1 h2 =>
          obtain rfl := strsOf_rds h2 q
          exact ⟨_, _, ys, rfl, rfl, .inr h1, hc, fin_imm post rel e (.str _)⟩
      · cases ez
    · cases ez
  · cases ez) h
/-! ### sorted of ints -/
def intsOf : List D → Option (List Int)
  | [] => some []
  | .int s :: r => (intsOf r).map fun l => s :: l
  | _ :: _ => none
theorem intsOf_rds {K : PySem.W.Frag} {H : Hp} : ∀ {ds : List D} {xs : List V} {ys : List Int}, DpAll K H xs ds → intsOf ds = some ys → xs = ys.map V.int
  | [], _, _, .nil, h => by
    cases h
    rfl
  | d :: ds, _, _, .cons (v := v) hd t, h => by
    cases d with
    | int s =>
      have h' : (intsOf ds).map (fun l => s :: l) = some _ := h
      cases q : intsOf ds with
      | none =>
        rw [q] at h'
        cases h'
      | some l =>
        rw [q] at h'
        cases h'
        rw [dp_int hd, intsOf_rds t q]
        rfl
    | _ => exact absurd (show (none : Option (List Int)) = some _ from h) (by intro z; cases z)
end
/-! ### zip -/
def zipD (ds es : List D) : List D := (ds.zip es).map fun p => .tuple [p.1, p.2]
theorem zipD_get {ds es : List D} {i : Nat} {d : D} (h : (zipD ds es)[i]? = some d) : ∃ x y, ds[i]? = some x ∧ es[i]? = some y ∧ d = .tuple [x, y] := by
  unfold zipD at h
  rw [List.getElem?_map] at h
  cases q : (ds.zip es)[i]? with
  | none =>
    rw [q] at h
    cases h
  | some p =>
    rw [q] at h
    cases h
    obtain ⟨h1, h2⟩ := List.getElem?_zip_eq_some.mp q
    exact ⟨p.1, p.2, h1, h2, rfl⟩
theorem walk_zipL {b : Bool} {K : PySem.W.Frag} {F : Hp} {a c : Addr} {xs ys : List V} {ds es : List D} (hx : SqL K F a xs) (rx : RDs b K F xs ds) (hy : SqL K F c ys) (ry : RDs b K F ys es) : WalkD b K (Itz K a c) (zipD ds es) F := fun i H e => by
  have qx : SqL K H a xs := e.seq hx
  have qy : SqL K H c ys := e.seq hy
  refine ⟨fun l => ⟨xs, ys, qx, qy, ?_⟩, fun d ed => ?_⟩
  · rw [rx.length, ry.length]
    have l' : min ds.length es.length ≤ i := by simpa [zipD] using l
    omega
  · obtain ⟨x, y, ex, ey, rfl⟩ := zipD_get ed
    obtain ⟨vx, evx, rvx⟩ := rx.get ex
    obtain ⟨vy, evy, rvy⟩ := ry.get ey
    refine ⟨⟨xs, ys, vx, vy, qx, qy, evx, evy⟩, fun z H' h => ?_⟩
    obtain ⟨T, x', y', rfl, nT, rfl, h1, h2⟩ := h
    have e1 := h1 xs qx
    have e2 := h2 ys qy
    rw [evx] at e1
    rw [evy] at e2
    cases e1
    cases e2
    exact .inr ⟨T, _, _, nT, rfl, rfl, rfl, .cons rvx (.cons rvy .nil)⟩
theorem walk_zipT {b : Bool} {K : PySem.W.Frag} {F : Hp} {a c : Addr} {xs ys : List V} {ds es : List D} (hx : SqT K F a xs) (rx : RDs b K F xs ds) (hy : SqT K F c ys) (ry : RDs b K F ys es) : WalkD b K (RZ.ItzT K a c) (zipD ds es) F := fun i H e => by
  have qx : SqT K H a xs := sameT e hx
  have qy : SqT K H c ys := sameT e hy
  refine ⟨fun l => ⟨xs, ys, qx, qy, ?_⟩, fun d ed => ?_⟩
  · rw [rx.length, ry.length]
    have l' : min ds.length es.length ≤ i := by simpa [zipD] using l
    omega
  · obtain ⟨x, y, ex, ey, rfl⟩ := zipD_get ed
    obtain ⟨vx, evx, rvx⟩ := rx.get ex
    obtain ⟨vy, evy, rvy⟩ := ry.get ey
    refine ⟨⟨xs, ys, vx, vy, qx, qy, evx, evy⟩, fun z H' h => ?_⟩
    obtain ⟨T, x', y', rfl, nT, rfl, h1, h2⟩ := h
    have e1 := h1 xs qx
    have e2 := h2 ys qy
    rw [evx] at e1
    rw [evy] at e2
    cases e1
    cases e2
    exact .inr ⟨T, _, _, nT, rfl, rfl, rfl, .cons rvx (.cons rvy .nil)⟩
def iZip (fa fb : M D) : M (List D) := fun ρ => bdo (fa ρ) fun x ρ1 => bdo (fb ρ1) fun y ρ2 => match x, y with
  | .list ds, .list es => some (.ok (zipD ds es) ρ2)
  | .tuple ds, .tuple es => some (.ok (zipD ds es) ρ2)
  | _, _ => none
section
variable {X : Cx} {W : WX} {b : Bool} {κ : List Kind} {pos p tp : Pos} {e e2 : Expr} {fa fb : M D}
theorem fi_zip {elts : List Expr} {kk : Nat} (hg : Gl X "zip") (hm : X.mg "zip" = none) (ha : FV X W κ (.t (.v b)) e fa) (hb : FV X W κ (.t (.v b)) e2 fb) (hs1 : starEach (e :: [e2]) X.env = (false, eval e X.env) :: starEach [e2] X.env := by rfl) (hs2 : starEach (e2 :: []) X.env = (false, eval e2 X.env) :: starEach [] X.env := by rfl)
    (hpl : (backTo pos (starEach [e2] X.env)).any (·.1) = false := by rfl) : FI X W b κ (.Tuple elts kk tp) (.Call (.Name "zip" p) [e, e2] [] pos) (iZip fa fb) :=
  (RZ.pi_zipA hg hm (pa_cons ha (pa_cons hb pa_nil hs2) hs1) hs1 hpl).imp fun σ H R h => by
    obtain ⟨ρ, w, rfl, rel, post⟩ := h
    refine seqV (P := PostI (ctx X W) b κ σ w R) rel post (fun z => z) (fun n d ρ' z => z) fun dx ρ1 vx w1 rel1 e1 t1 post1 => ?_
    refine seqV (P := PostI (ctx X W) b κ σ w R) rel1 post1 (fun z => z) (fun n d ρ' z => z.since e1) fun dy ρ2 vy w2 rel2 e2 t2 post2 => ?_
    have rx := Temp.rd (t1.keep e2)
    have ry := Temp.rd t2
    split at post2
    · cases rx with
      | lst h1 r1 =>
        cases ry with
        | lst h2 r2 => exact ⟨_, _, _, _, rfl, .inl ⟨SqL.of (rel2.same _ _ h1), SqL.of (rel2.same _ _ h2), post2 w2 _ rel2 (e1.trans e2) (walk_zipL (SqL.of h1) r1 (SqL.of h2) r2)⟩⟩
    · have tup : ∀ {v : V} {ds : List D}, RD b X.K w2.F v (.tuple ds) → ∃ a xs, v = .ref a ∧ SqT X.K w2.F a xs ∧ RDs b X.K w2.F xs ds := fun r => by
        cases r with
        | tup h r => exact ⟨_, _, rfl, SqT.of h, r⟩
        | con _ h r => exact ⟨_, _, rfl, h, r⟩
      obtain ⟨a, xs, rfl, h1, r1⟩ := tup rx
      obtain ⟨c, ys, rfl, h2, r2⟩ := tup ry
      exact ⟨_, _, _, _, rfl, .inr ⟨sameT rel2.same h1, sameT rel2.same h2, post2 w2 _ rel2 (e1.trans e2) (walk_zipT h1 r1 h2 r2)⟩⟩
    · exact post2.elim
end
end FN
set_option Elab.async false
set_option linter.all false
set_option maxRecDepth 100000
set_option maxHeartbeats 4000000
/-! FN14: comprehensions of two clauses, as a statement; three names at once. -/
namespace FN
open PySem PySem.Spec PyProof.Rows L2
theorem wipeE_idem (us : List Nat) (ρ : Env) : wipeE (wipeE ρ us) us = wipeE ρ us := by
  have key : ∀ (us : List Nat) (v : Nat) (ρ : Env), wipeE (ρ.set v none) us = (wipeE ρ us).set v none := by
    intro us v
    induction us with
    | nil => intro ρ; rfl
    | cons u us ih =>
      intro ρ
      show (wipeE (ρ.set v none) us).set u none = ((wipeE ρ us).set u none).set v none
      rw [ih]
      by_cases huv : u = v
      · rw [huv]
      · rw [List.set_comm _ _ (Ne.symm huv)]
  induction us with
  | nil => rfl
  | cons u us ih =>
    show (wipeE ((wipeE ρ us).set u none) us).set u none = (wipeE ρ us).set u none
    rw [key, ih, List.set_set]
theorem compL_wipe {vs : List Nat} {ft : D → Env → Option Env} {tt : M Bool} {fe : M D} {ds acc : List D} {ρ : Env} : compL vs ft tt fe ds acc (wipeE ρ vs) = compL vs ft tt fe ds acc ρ := by
  cases ds with
  | nil => unfold compL; rw [wipeE_idem]
  | cons d ds => unfold compL; rw [wipeE_idem]
theorem wipe_wipe {σ : L2.St} {us vs : List Nat} (h : ∀ i ∈ us, i ∈ vs) : wipe (wipe σ us) vs = wipe σ vs := List.ext_getElem? fun i => by
  simp only [wipe_get, wipe_length]
  by_cases hm : i ∈ vs
  · simp only [hm, if_true]
  · have hu : i ∉ us := fun z => hm (h i z)
    simp only [hm, hu, if_false]
def compL2 (vs vs1 : List Nat) (ft : D → Env → Option Env) (tt : M Bool) (fi1 : M (List D)) (ft1 : D → Env → Option Env) (tt1 : M Bool) (fe : M D) : List D → List D → Env → Option (Out (List D))
  | [], acc, ρ => some (.ok acc (wipeE ρ vs))
  | d :: ds, acc, ρ => match ft d (wipeE ρ vs) with
    | some ρ1 => (match tt ρ1 with
      | some (.ok true ρ2) => (match fi1 ρ2 with
        | some (.ok ds1 ρ3) => (match compL vs1 ft1 tt1 fe ds1 acc ρ3 with
          | some (.ok acc' ρ4) => compL2 vs vs1 ft tt fi1 ft1 tt1 fe ds acc' (wipeE ρ4 vs)
          | _ => none)
        | _ => none)
      | some (.ok false ρ2) => compL2 vs vs1 ft tt fi1 ft1 tt1 fe ds acc (wipeE ρ2 vs)
      | _ => none)
    | none => none
def fLc2 (vs vs1 : List Nat) (fi : M (List D)) (ft : D → Env → Option Env) (tt : M Bool) (fi1 : M (List D)) (ft1 : D → Env → Option Env) (tt1 : M Bool) (fe : M D) : M D := fun ρ => bdo (fi ρ) fun ds ρ1 => bdo (compL2 vs vs1 ft tt fi1 ft1 tt1 fe ds [] ρ1) fun r ρ2 => some (.ok (.list r) ρ2)
theorem compL2_wipe {vs vs1 : List Nat} {ft : D → Env → Option Env} {tt : M Bool} {fi1 : M (List D)} {ft1 : D → Env → Option Env} {tt1 : M Bool} {fe : M D} {ds acc : List D} {ρ : Env} : compL2 vs vs1 ft tt fi1 ft1 tt1 fe ds acc (wipeE ρ vs) = compL2 vs vs1 ft tt fi1 ft1 tt1 fe ds acc ρ := by
  cases ds with
  | nil => unfold compL2; rw [wipeE_idem]
  | cons d ds => unfold compL2; rw [wipeE_idem]
section
variable {X : Cx} {W : WX} {C : FC} {b : Bool} {κ κ1 κn : List Kind} {pos p : Pos} {tg tg1 : Expr}
theorem ev_lc2 {kd : Kind} {vs vs1 sl sl1 : List Nat} {fi fi1 : M (List D)} {ft ft1 : D → Env → Option Env} {tt tt1 : M Bool} {fe : M D} {σ : L2.St} {H : Hp} {Q : VK} (hd : newL b kd) (hv : nfAt κ vs) (hv1 : nfAt κ vs1) (hs : ∀ i ∈ sl, i ∈ vs) (hs1 : ∀ i ∈ sl1, i ∈ vs1) (h1v : ∀ i ∈ vs1, i ∈ vs)
    (h : tV (ctx X W) κ (.t kd) (fLc2 vs vs1 fi ft tt fi1 ft1 tt1 fe) σ H Q) :
    tLc2 (tI (ctx X W) b κ fi) (tG (ctx X W0) b sl κ κ ft) (tT (ctx X W0) κ tt) (tI (ctx X W0) b κ fi1) (tG (ctx X W0) b sl1 κ κ ft1) (tT (ctx X W0) κ tt1) (tV (ctx X W0) κ (.t (.v b)) fe) vs vs1 σ H Q := by
  obtain ⟨ρ, w, rfl, rel, post⟩ := h
  refine seqI (P := PostV (ctx X W) κ σ (.t kd) w Q) rel post (fun z => z) (fun n d ρ' z => z) fun ds ρ1 w1 J rel1 e1 wk post1 => ?_
  intro L nL
  obtain ⟨w2, eH2, eF2, ef2, rel2, e2⟩ := world_own (o := .lst []) rel1 nL
  have t2 : Temp X.K (.lst (.v b)) w1 w2 (.list []) (.ref L) := ⟨fun x => x = L, ⟨L, [], [], fun _ => False, rfl, rfl, by rw [eH2, upd_same], rfl, fun z => z, fun _ z => z.elim, .nil⟩, fun x hx => by
    have hx' : x = L := hx
    rw [hx', ef2, eF2, eH2, upd_same]
    exact ⟨fun z => rel1.live L z nL, rel1.same.free nL, fun z => (nomatch z), .inr nL⟩⟩
  refine ⟨fun i m H => ∃ ρ wi acc, wi.H = H ∧ Rel X.K κ ρ (wipe σ vs) wi ∧ Ext w1 wi ∧ Temp X.K (.lst (.v b)) w1 wi (.list acc) (.ref L) ∧ m = ds.length - i ∧ PostV (ctx X W) κ σ (.t kd) w Q (bdo (compL2 vs vs1 ft tt fi1 ft1 tt1 fe (ds.drop i) acc ρ) fun r ρ2 => some (.ok (.list r) ρ2)), ⟨ds.length, wipeE ρ1 vs, w2, [], eH2, rel_wipe hv rel2, e2, t2, rfl, ?_⟩, ?_⟩
  · rw [List.drop_zero, compL2_wipe]
    exact post1
  rintro i m _ ⟨ρi, wi, acc, rfl, reli, ei, ti, rfl, posti⟩
  have wki := wk i wi.H (ei.same.trans reli.same)
  by_cases hi : i < ds.length
  · have ed : ds[i]? = some ds[i] := List.getElem?_eq_getElem hi
    rw [List.drop_eq_getElem_cons hi] at posti
    unfold compL2 at posti
    cases q : ft ds[i] (wipeE ρi vs) with
    | none =>
      rw [q] at posti
      exact posti.elim
    | some ρ3 =>
      rw [q] at posti
      dsimp only at posti
      refine .inr ⟨(wki.2 _ ed).1, fun H' => ∃ ρ wj acc, wj.H = H' ∧ Rel X.K κ ρ (wipe σ vs) wj ∧ Ext w1 wj ∧ Temp X.K (.lst (.v b)) w1 wj (.list acc) (.ref L) ∧ PostV (ctx X W) κ σ (.t kd) w Q (bdo (compL2 vs vs1 ft tt fi1 ft1 tt1 fe (ds.drop (i + 1)) acc ρ) fun r ρ2 => some (.ok (.list r) ρ2)), fun H' z => ?_, fun x H' y => ?_⟩
      · obtain ⟨ρ, wj, acc, z1, z2, z3, z4, z5⟩ := z
        exact ⟨ds.length - (i + 1), by omega, ρ, wj, acc, z1, z2, z3, z4, rfl, z5⟩
      · obtain ⟨w4, eH4, rel4, e4, r4⟩ := world_yield wk ei.same reli ed y
        subst eH4
        have relw : Rel X.K κ (wipeE ρi vs) (wipe σ vs) w4 := by
          have z := rel_wipe hv rel4
          rw [wipe_wipe fun _ z => z] at z
          exact z
        refine ⟨wipeE ρi vs, w4, ds[i], rfl, relw, r4, ?_⟩
        rw [q]
        intro σ5 w5 eH5 u5 rel5 e5
        have ew : wipe σ5 vs = wipe σ vs := wipe_upto u5 hs
        refine ⟨ew, ?_⟩
        have e15 := (ei.trans e4).trans e5
        have t5 := (ti.keep e4).keep e5
        refine ⟨ρ3, w5, rfl, rel5, ?_⟩
        cases qt : tt ρ3 with
        | none =>
          rw [qt] at posti
          exact posti.elim
        | some o =>
          rw [qt] at posti
          cases o with
          | err n d ρ' => exact posti.elim
          | ok bb ρ6 =>
            intro w6 rel6 e6
            have back : ∀ {ρ : Env} {w : Wd}, Rel X.K κ ρ σ5 w → Rel X.K κ (wipeE ρ vs) (wipe σ vs) w := fun r => by
              have z := rel_wipe hv r
              rw [ew] at z
              exact z
            cases bb with
            | false =>
              rw [if_neg Bool.false_ne_true]
              exact ⟨wipeE ρ6 vs, w6, acc, rfl, back rel6, e15.trans e6, t5.keep e6, posti⟩
            | true =>
              rw [if_pos rfl]
              dsimp only at posti
              refine ⟨ρ6, w6, rfl, rel6, ?_⟩
              cases qi : fi1 ρ6 with
              | none =>
                rw [qi] at posti
                exact posti.elim
              | some o1 =>
                rw [qi] at posti
                cases o1 with
                | err n d ρ' => exact posti.elim
                | ok ds1 ρ7 =>
                  dsimp only at posti
                  intro w7 J1 rel7 e7 wk1
                  let PN : Option (Out (List D)) → Prop := fun r => PostV (ctx X W) κ σ (.t kd) w Q (bdo (match r with | some (.ok acc' ρ4) => compL2 vs vs1 ft tt fi1 ft1 tt1 fe (ds.drop (i + 1)) acc' (wipeE ρ4 vs) | _ => none) fun r ρ2 => some (.ok (.list r) ρ2))
                  have posti' : PN (compL vs1 ft1 tt1 fe ds1 acc ρ7) := posti
                  refine ⟨fun j k H => ∃ ρ wj acc, wj.H = H ∧ Rel X.K κ ρ (wipe σ5 vs1) wj ∧ Ext w1 wj ∧ Same w7.F wj.F ∧ Temp X.K (.lst (.v b)) w1 wj (.list acc) (.ref L) ∧ k = ds1.length - j ∧ PN (compL vs1 ft1 tt1 fe (ds1.drop j) acc ρ), ⟨ds1.length, wipeE ρ7 vs1, w7, acc, rfl, rel_wipe hv1 rel7, (e15.trans e6).trans e7, Same.refl _, (t5.keep e6).keep e7, rfl, ?_⟩, ?_⟩
                  · rw [List.drop_zero, compL_wipe]
                    exact posti'
                  rintro j k _ ⟨ρj, wj, acc2, rfl, relj, ej, e7j, tj, rfl, postj⟩
                  have wkj := wk1 j wj.H (e7j.trans relj.same)
                  by_cases hj : j < ds1.length
                  · have edj : ds1[j]? = some ds1[j] := List.getElem?_eq_getElem hj
                    rw [List.drop_eq_getElem_cons hj] at postj
                    unfold compL at postj
                    cases qj : ft1 ds1[j] (wipeE ρj vs1) with
                    | none =>
                      rw [qj] at postj
                      exact (show False from postj).elim
                    | some ρ8 =>
                      rw [qj] at postj
                      dsimp only at postj
                      refine .inr ⟨(wkj.2 _ edj).1, fun H' => ∃ ρ wk acc, wk.H = H' ∧ Rel X.K κ ρ (wipe σ5 vs1) wk ∧ Ext w1 wk ∧ Same w7.F wk.F ∧ Temp X.K (.lst (.v b)) w1 wk (.list acc) (.ref L) ∧ PN (compL vs1 ft1 tt1 fe (ds1.drop (j + 1)) acc ρ), fun H' z => ?_, fun x1 H1 y1 => ?_⟩
                      · obtain ⟨ρ, wk, acc, z1, z2, z3, z3', z4, z5⟩ := z
                        exact ⟨ds1.length - (j + 1), by omega, ρ, wk, acc, z1, z2, z3, z3', z4, rfl, z5⟩
                      · obtain ⟨w9, eH9, rel9, e9, r9⟩ := world_yield wk1 e7j relj edj y1
                        subst eH9
                        have relw1 : Rel X.K κ (wipeE ρj vs1) (wipe σ5 vs1) w9 := by
                          have z := rel_wipe hv1 rel9
                          rw [wipe_wipe fun _ z => z] at z
                          exact z
                        refine ⟨wipeE ρj vs1, w9, ds1[j], rfl, relw1, r9, ?_⟩
                        rw [qj]
                        intro σa wa eHa ua rela ea
                        have ewa : wipe σa vs1 = wipe σ5 vs1 := wipe_upto ua hs1
                        refine ⟨ewa, ?_⟩
                        have e1a := (ej.trans e9).trans ea
                        have e7a := (e7j.trans e9.same).trans ea.same
                        have ta := (tj.keep e9).keep ea
                        refine ⟨ρ8, wa, rfl, rela, ?_⟩
                        have back1 : ∀ {ρ : Env} {w : Wd}, Rel X.K κ ρ σa w → Rel X.K κ (wipeE ρ vs1) (wipe σ5 vs1) w := fun r => by
                          have z := rel_wipe hv1 r
                          rw [ewa] at z
                          exact z
                        cases qt1 : tt1 ρ8 with
                        | none =>
                          rw [qt1] at postj
                          exact (show False from postj).elim
                        | some o2 =>
                          rw [qt1] at postj
                          cases o2 with
                          | err n d ρ' => exact (show False from postj).elim
                          | ok b2 ρb =>
                            intro wb relb eb
                            cases b2 with
                            | false =>
                              rw [if_neg Bool.false_ne_true]
                              exact ⟨wipeE ρb vs1, wb, acc2, rfl, back1 relb, e1a.trans eb, e7a.trans eb.same, ta.keep eb, postj⟩
                            | true =>
                              rw [if_pos rfl]
                              dsimp only at postj
                              refine ⟨ρb, wb, rfl, relb, ?_⟩
                              cases qe : fe ρb with
                              | none =>
                                rw [qe] at postj
                                exact (show False from postj).elim
                              | some o3 =>
                                rw [qe] at postj
                                cases o3 with
                                | err n d ρ' => exact (show False from postj).elim
                                | ok yd ρc =>
                                  dsimp only at postj
                                  intro yv wc relc ec tc
                                  split at postj
                                  · rename_i hl
                                    have tcL := (ta.keep eb).keep ec
                                    obtain ⟨g, ⟨a, vs', ds', g', ea', ed', eHa', _, _, _, od⟩, _⟩ := id tcL
                                    cases ea'
                                    cases ed'
                                    refine ⟨vs', eHa', by rw [(odl_rds od).length]; exact hl, ?_⟩
                                    obtain ⟨wd, eHd, eFd, reld, ed8, td⟩ := temp_app (back1 relc) ((e1a.trans eb).trans ec) nL tcL eHa' (Temp.rd tc)
                                    exact ⟨wipeE ρc vs1, wd, _, eHd, reld, ed8, by rw [eFd]; exact (e7a.trans eb.same).trans ec.same, td, postj⟩
                                  · exact (show False from postj).elim
                  · rw [List.drop_eq_nil_of_le (by omega)] at postj
                    unfold compL at postj
                    refine .inl ⟨wkj.1 (by omega), wipeE (wipeE ρj vs1) vs, wj, acc2, rfl, ?_, ej, tj, postj⟩
                    have z := rel_wipe hv (rel_wipe hv1 relj)
                    rw [wipe_wipe fun _ z => z, wipe_wipe h1v, ew] at z
                    exact z
  · rw [List.drop_eq_nil_of_le (by omega)] at posti
    exact .inl ⟨wki.1 (by omega), fin_temp hd posti (rel_unwipe rel1.fixed reli) (e1.trans ei) (ti.since e1)⟩
theorem fe_lc2 {kd : Kind} {elt iter iter1 : Expr} {ifs ifs1 : List Expr} {scope : Scope} {own : List (Str × Nat)} {vs1 sl sl1 : List Nat} {fi fi1 : M (List D)} {ft ft1 : D → Env → Option Env} {tt tt1 : M Bool} {fe : M D} (hd : newL b kd) (hc : X.calm = true) (hN : X.N.Nodup) (hi : FI X W b κ tg iter fi) (ok : BlkOk X.N X.env.scope scope own) (hv : nfAt κ (own.map (·.2))) (hv1 : nfAt κ vs1) (hs : ∀ i ∈ sl, i ∈ own.map (·.2)) (hs1 : ∀ i ∈ sl1, i ∈ vs1) (h1v : ∀ i ∈ vs1, i ∈ own.map (·.2))
    (hg : ∀ (s : Shared) (H : Hp) (A : Addr) (cl : List (Str × Addr)) (fp : List Addr), FG (X.blk s H scope (compEnvC scope cl A X.env) fp) W0 b sl κ κ tg ft) (ht : ∀ (s : Shared) (H : Hp) (A : Addr) (cl : List (Str × Addr)) (fp : List Addr), FTs (X.blk s H scope (compEnvC scope cl A X.env) fp) κ ifs tt)
    (hi1 : ∀ (s : Shared) (H : Hp) (A : Addr) (cl : List (Str × Addr)) (fp : List Addr), FI (X.blk s H scope (compEnvC scope cl A X.env) fp) W0 b κ tg1 iter1 fi1)
    (hg1 : ∀ (s : Shared) (H : Hp) (A : Addr) (cl : List (Str × Addr)) (fp : List Addr), FG (X.blk s H scope (compEnvC scope cl A X.env) fp) W0 b sl1 κ κ tg1 ft1) (ht1 : ∀ (s : Shared) (H : Hp) (A : Addr) (cl : List (Str × Addr)) (fp : List Addr), FTs (X.blk s H scope (compEnvC scope cl A X.env) fp) κ ifs1 tt1)
    (he : ∀ (s : Shared) (H : Hp) (A : Addr) (cl : List (Str × Addr)) (fp : List Addr), FV (X.blk s H scope (compEnvC scope cl A X.env) fp) W0 κ (.t (.v b)) elt fe) (hf : ∀ x, foldedSetIterable iter X.env x = pure x := by intro _; rfl) (hf1 : ∀ env x, foldedSetIterable iter1 env x = pure x := by intro _ _; rfl) :
    FV X W κ (.t kd) (.ListComp elt [⟨tg, iter, ifs, 0⟩, ⟨tg1, iter1, ifs1, 0⟩] scope pos) (fLc2 (own.map (·.2)) vs1 fi ft tt fi1 ft1 tt1 fe) :=
  (pe_lc2 (own := own) (vs1 := vs1) (g := tG (ctx X W0) b sl κ κ ft) (tt := tT (ctx X W0) κ tt) (wi1 := tI (ctx X W0) b κ fi1) (g1 := tG (ctx X W0) b sl1 κ κ ft1) (tt1 := tT (ctx X W0) κ tt1) (te := tV (ctx X W0) κ (.t (.v b)) fe) hc hN hi ok h1v hg (fun s H A cl fp => (ht s H A cl fp).h) hi1 hg1 (fun s H A cl fp => (ht1 s H A cl fp).h) he hf hf1).imp fun σ H Q h => ev_lc2 hd hv hv1 hs hs1 h1v h
/-! ### x = [.. for ..] -/
/-- what stands behind a store of slot i -/
theorem ev_setV {kd : Kind} {i : Nat} {fa : M D} {te : TE} {D' : Ends} {σ : L2.St} {H : Hp} (hi : ∀ σ H Q, tV (ctx X W) κ (.t kd) fa σ H Q → te σ H Q) (hl : i < κ.length) (hk : nofix kd) (he : EK C κ) (h : tS (ctx X W) C κ (κ.set i kd) (sSet i fa) D' σ H) : tAsg te (gName i) D' σ H := by
  obtain ⟨ρ, w, rfl, rel, post⟩ := h
  refine hi _ _ _ (seqV (P := PostS (ctx X W) C (κ.set i kd) D' w) rel post (fun z => z) (fun n d ρ' z => errS he z) fun d ρ1 v w1 rel1 e1 t1 post1 => ?_)
  obtain ⟨w2, eH, _, rel2, ex⟩ := rel_set rel1 t1 (by rw [← rel1.slots.lengths.1]; exact hl) (nofix_ne hk)
  show D'.nx (σ.set i (some v)) w1.H
  rw [← eH]
  exact post1 _ w2 rel2 (ex e1)
theorem fs_setLc {kd : Kind} {i : Nat} {y : Str} {py spos : Pos} {elt iter : Expr} {ifs : List Expr} {scope : Scope} {own : List (Str × Nat)} {sl : List Nat} {fi : M (List D)} {ft : D → Env → Option Env} {tt : M Bool} {fe : M D} (hd : newL b kd) (hc : X.calm = true) (hN : X.N.Nodup) (hyl : X.env.scope.names.lookup y = some .local) (hsw : swapsWith (.ListComp elt [⟨tg, iter, ifs, 0⟩] scope pos) (some (.Name y py)) spos.line X.env = pure true) (hi : FI X W b κ tg iter fi) (ok : BlkOk X.N X.env.scope scope own) (hv : nfAt κ (own.map (·.2))) (hs : ∀ i ∈ sl, i ∈ own.map (·.2))
    (hg : ∀ (s : Shared) (H : Hp) (A : Addr) (cl : List (Str × Addr)) (fp : List Addr), FG (X.blk s H scope (compEnvC scope cl A X.env) fp) W0 b sl κ κ tg ft) (ht : ∀ (s : Shared) (H : Hp) (A : Addr) (cl : List (Str × Addr)) (fp : List Addr), FTs (X.blk s H scope (compEnvC scope cl A X.env) fp) κ ifs tt)
    (he : ∀ (s : Shared) (H : Hp) (A : Addr) (cl : List (Str × Addr)) (fp : List Addr), FV (X.blk s H scope (compEnvC scope cl A X.env) fp) W0 κ (.t (.v b)) elt fe) (hy : X.N[i]? = some y := by rfl) (hk : κ[i]? = some kd := by rfl) (hn : nofix kd := by exact True.intro) (hE : EK C κ := by first | exact .inl rfl | exact .inr rfl) (hf : ∀ x, foldedSetIterable iter X.env x = pure x := by intro _; rfl) :
    FS X W C κ κ (.Assign [.Name y py] (.ListComp elt [⟨tg, iter, ifs, 0⟩] scope pos) spos) (sSet i (fLc (own.map (·.2)) fi ft tt fe)) := by
  have z := (ps_setLc (i := i) (own := own) (g := tG (ctx X W0) b sl κ κ ft) (tt := tT (ctx X W0) κ tt) (te := tV (ctx X W0) κ (.t (.v b)) fe) hc hN hy hyl hsw hi ok hg (fun s H A cl fp => (ht s H A cl fp).h) he hf).imp fun D' σ H h => ev_setV (κ := κ) (C := C) (kd := kd) (fun _ _ _ h => ev_lc hd hv hs h) (List.getElem?_eq_some_iff.mp hk).1 hn hE h
  rw [set_same hk] at z
  exact z
theorem fs_setLc2 {kd : Kind} {i : Nat} {y : Str} {py spos : Pos} {elt iter iter1 : Expr} {ifs ifs1 : List Expr} {scope : Scope} {own : List (Str × Nat)} {vs1 sl sl1 : List Nat} {fi fi1 : M (List D)} {ft ft1 : D → Env → Option Env} {tt tt1 : M Bool} {fe : M D} (hd : newL b kd) (hc : X.calm = true) (hN : X.N.Nodup) (hyl : X.env.scope.names.lookup y = some .local) (hsw : swapsWith (.ListComp elt [⟨tg, iter, ifs, 0⟩, ⟨tg1, iter1, ifs1, 0⟩] scope pos) (some (.Name y py)) spos.line X.env = pure true) (hi : FI X W b κ tg iter fi) (ok : BlkOk X.N X.env.scope scope own) (hv : nfAt κ (own.map (·.2))) (hv1 : nfAt κ vs1) (hs : ∀ i ∈ sl, i ∈ own.map (·.2)) (hs1 : ∀ i ∈ sl1, i ∈ vs1) (h1v : ∀ i ∈ vs1, i ∈ own.map (·.2))
    (hg : ∀ (s : Shared) (H : Hp) (A : Addr) (cl : List (Str × Addr)) (fp : List Addr), FG (X.blk s H scope (compEnvC scope cl A X.env) fp) W0 b sl κ κ tg ft) (ht : ∀ (s : Shared) (H : Hp) (A : Addr) (cl : List (Str × Addr)) (fp : List Addr), FTs (X.blk s H scope (compEnvC scope cl A X.env) fp) κ ifs tt)
    (hi1 : ∀ (s : Shared) (H : Hp) (A : Addr) (cl : List (Str × Addr)) (fp : List Addr), FI (X.blk s H scope (compEnvC scope cl A X.env) fp) W0 b κ tg1 iter1 fi1)
    (hg1 : ∀ (s : Shared) (H : Hp) (A : Addr) (cl : List (Str × Addr)) (fp : List Addr), FG (X.blk s H scope (compEnvC scope cl A X.env) fp) W0 b sl1 κ κ tg1 ft1) (ht1 : ∀ (s : Shared) (H : Hp) (A : Addr) (cl : List (Str × Addr)) (fp : List Addr), FTs (X.blk s H scope (compEnvC scope cl A X.env) fp) κ ifs1 tt1)
    (he : ∀ (s : Shared) (H : Hp) (A : Addr) (cl : List (Str × Addr)) (fp : List Addr), FV (X.blk s H scope (compEnvC scope cl A X.env) fp) W0 κ (.t (.v b)) elt fe) (hy : X.N[i]? = some y := by rfl) (hk : κ[i]? = some kd := by rfl) (hn : nofix kd := by exact True.intro) (hE : EK C κ := by first | exact .inl rfl | exact .inr rfl) (hf : ∀ x, foldedSetIterable iter X.env x = pure x := by intro _; rfl) (hf1 : ∀ env x, foldedSetIterable iter1 env x = pure x := by intro _ _; rfl) :
    FS X W C κ κ (.Assign [.Name y py] (.ListComp elt [⟨tg, iter, ifs, 0⟩, ⟨tg1, iter1, ifs1, 0⟩] scope pos) spos) (sSet i (fLc2 (own.map (·.2)) vs1 fi ft tt fi1 ft1 tt1 fe)) := by
  have z := (ps_setLc2 (i := i) (own := own) (vs1 := vs1) (g := tG (ctx X W0) b sl κ κ ft) (tt := tT (ctx X W0) κ tt) (wi1 := tI (ctx X W0) b κ fi1) (g1 := tG (ctx X W0) b sl1 κ κ ft1) (tt1 := tT (ctx X W0) κ tt1) (te := tV (ctx X W0) κ (.t (.v b)) fe) hc hN hy hyl hsw hi ok h1v hg (fun s H A cl fp => (ht s H A cl fp).h) hi1 hg1 (fun s H A cl fp => (ht1 s H A cl fp).h) he hf hf1).imp fun D' σ H h => ev_setV (κ := κ) (C := C) (kd := kd) (fun _ _ _ h => ev_lc2 hd hv hv1 hs hs1 h1v h) (List.getElem?_eq_some_iff.mp hk).1 hn hE h
  rw [set_same hk] at z
  exact z
end
/-! ### a, b, c = x, y, z -/
def sPar3 (i j l : Nat) (fr : M (List D)) : Env → Option Fl := fun ρ => bnd (fr ρ) Fl.err fun ds ρ1 => match ds with
  | [x, y, z] => some (.nx (((ρ1.set i (some x)).set j (some y)).set l (some z)))
  | _ => none
section
variable {X : Cx} {W : WX} {C : FC} {κ : List Kind} {pos : Pos}
theorem rel_put {K : PySem.W.Frag} {κ : List Kind} {ρ : Env} {σ : L2.St} {w : Wd} {F H : Hp} {g : FpS} (sl : Slots K F H κ ρ σ g) {i : Nat} {k : Kind} {d : D} {v : V} {f : FpS} (hi : i < κ.length) (o : OD K F H k v d f) (dj : ∀ a, f a → ¬ g a) : Slots K F H (κ.set i k) (ρ.set i (some d)) (σ.set i (some v)) (fun a => f a ∨ g a) := by
  have p := (sl.drop i).put (i := i) (by rw [← sl.lengths.1]; exact hi) o dj
  rw [List.set_set] at p
  exact p
theorem fs_parK3 {i j l : Nat} {k1 k2 k3 : Kind} {x y z : Str} {ea eb ec : Expr} {fr : M (List D)} {px py pz pt : Pos} {kt k2' pt2} (hc : X.calm = true) (hN : X.N.Nodup) (ha : FA X W κ [.t k1, .t k2, .t k3] [ea, eb, ec] fr) (h1 : κ[i]? = some k1 := by rfl) (h2 : κ[j]? = some k2 := by rfl) (h3 : κ[l]? = some k3 := by rfl) (hij : i ≠ j := by decide) (hil : i ≠ l := by decide) (hjl : j ≠ l := by decide) (hi : X.N[i]? = some x := by rfl) (hj : X.N[j]? = some y := by rfl) (hl : X.N[l]? = some z := by rfl)
    (hx : X.env.scope.names.lookup x = some .local := by rfl) (hy : X.env.scope.names.lookup y = some .local := by rfl) (hz : X.env.scope.names.lookup z = some .local := by rfl) (hn1 : nofix k1 := by exact True.intro) (hn2 : nofix k2 := by exact True.intro) (hn3 : nofix k3 := by exact True.intro) (he : EK C κ := by first | exact .inl rfl | exact .inr rfl)
    (hw : swappedStores [.Tuple [.Name x px, .Name y py, .Name z pz] kt pt] (.Tuple [ea, eb, ec] k2' pt2) X.env = pure (some [x, y, z]) := by rfl)
    (hs : swapsWithSole [.Tuple [.Name x px, .Name y py, .Name z pz] kt pt] (.Tuple [ea, eb, ec] k2' pt2) pos.line X.env = pure false := by rfl) : FS X W C κ κ (.Assign [.Tuple [.Name x px, .Name y py, .Name z pz] kt pt] (.Tuple [ea, eb, ec] k2' pt2) pos) (sPar3 i j l fr) := (ps_par3 hc hN hi hj hl hij hil hjl hx hy hz ha hw hs).imp fun D' σ H h => by
  obtain ⟨ρ, w, rfl, rel, post⟩ := h
  refine seqA (P := PostS (ctx X W) C κ D' w) rel post (fun z => z) (fun n d ρ' z => errS (κn := κ) he z) fun ds ρ1 vs w1 rel1 e1 a1 post1 => ?_
  obtain ⟨g, ar, cg⟩ := a1
  cases ar with
  | @t _ d1 v1 _ _ _ f1 g1 _ o1 ar dj1 a1 a2 =>
    cases ar with
    | @t _ d2 v2 _ _ _ f2 g2 _ o2 ar dj2 a3 a4 =>
      cases ar with
      | @t _ d3 v3 _ _ _ f3 g3 _ o3 ar dj3 a5 a6 =>
        cases ar
        refine ⟨v1, v2, v3, rfl, ?_⟩
        have p1 := rel_put (w := w1) rel1.slots (i := i) (List.getElem?_eq_some_iff.mp h1).1 o1 (fun a z => (cg a (a1 a z)).1)
        have p2 := rel_put (w := w1) p1 (i := j) (by rw [List.length_set]; exact (List.getElem?_eq_some_iff.mp h2).1) o2 (fun a z y => y.elim (fun y => dj1 a y (a3 a z)) (cg a (a2 a (a3 a z))).1)
        have p3 := rel_put (w := w1) p2 (i := l) (by rw [List.length_set, List.length_set]; exact (List.getElem?_eq_some_iff.mp h3).1) o3 (fun a z y => y.elim (fun y => dj2 a y (a5 a z)) fun y => y.elim (fun y => dj1 a y (a4 a (a5 a z))) (cg a (a2 a (a4 a (a5 a z)))).1)
        have ek : ((κ.set i k1).set j k2).set l k3 = κ := by
          rw [set_same h1, set_same h2, set_same h3]
        rw [ek] at p3
        have all : ∀ a, (f3 a ∨ f2 a ∨ f1 a ∨ w1.fp a) → w1.fp a ∨ g a := fun a z => by
          rcases z with z | z | z | z
          · exact .inr (a2 a (a4 a (a5 a z)))
          · exact .inr (a2 a (a3 a z))
          · exact .inr (a1 a z)
          · exact .inl z
        refine post1 _ ⟨w1.F, w1.H, fun a => f3 a ∨ f2 a ∨ f1 a ∨ w1.fp a⟩ ⟨rel1.same, fun a z => (all a z).elim (rel1.frz a) fun y => (cg a y).2.1, fun a z => (all a z).elim (rel1.live a) fun y => (cg a y).2.2.1, fun q u k z => ?_, p3⟩ ⟨e1.same, e1.new, e1.keep, fun a z => (all a z).elim (e1.fp a) fun y => (cg a y).2.2.2⟩
        have ne : ∀ {r : Nat} {kk : Kind}, κ[r]? = some kk → nofix kk → q ≠ r := fun hr hn e => by
          subst e
          rw [z] at hr
          cases hr
          exact hn.elim
        rw [List.getElem?_set_ne (Ne.symm (ne h3 hn3)), List.getElem?_set_ne (Ne.symm (ne h2 hn2)), List.getElem?_set_ne (Ne.symm (ne h1 hn1))]
        exact rel1.fixed q u k z
end
end FN
set_option Elab.async false
set_option linter.all false
set_option maxRecDepth 100000
set_option maxHeartbeats 4000000
/-! FN15: calls with keywords, defs that call themselves, text * n. -/
namespace FN
open PySem PySem.Spec PyProof.Rows L2
/-! ### a def whose mirror gives nothing -/
section
variable {P : Program} {w : World} {K : PySem.W.Frag} {mg : Str → Option Value} {base : Heap}
theorem kn_none {CX : CXT} {x : Str} {st : Stmt} {ps : List Str} {k : Nat} {ks : List Kind} {kr : Kind} {g : M D} (a : At K mg x st ps) (h : ∀ ρ, g ρ = none) : Kn P w K mg base CX k x ps (spF K mg ks kr g) := by
  obtain ⟨f, fd, F, hm, bd⟩ := a.ex
  have no : ∀ vs H Q E, ¬ spF K mg ks kr g vs H Q E := fun vs H Q E z => by
    obtain ⟨ρ, w, _, _, q⟩ := z
    rw [h ρ] at q
    exact q
  exact ⟨f, fd, ⟨fun vs H Q E z => (no _ _ _ _ z).elim, fun A outer s H args us vs Q E _ _ _ _ z => (no _ _ _ _ z).elim⟩, hm, F.kp, bd, fun_lk F⟩
/-! ### f(a = e, ..) -/
def permE (π : List Nat) (ρ : Env) : Env := π.map fun j => (ρ[j]?).join
def permL {α : Type} (d : α) (π : List Nat) (l : List α) : List α := π.map fun j => l.getD j d
/-- the mirror, its data in another order -/
def kwM (π : List Nat) (g : M D) : M D := fun ρ => match g (permE π ρ) with
  | some (.ok d _) => some (.ok d (ρ.map fun _ => none))
  | some (.err n d _) => some (.err n d (ρ.map fun _ => none))
  | none => none
/-- how a def binds keywords in the order ks -/
structure KwAt (K : PySem.W.Frag) (mg : Str → Option Value) (x : Str) (ps ks : List Str) (π : List Nat) : Prop where
  ex : ∃ (f : Addr) (fd : FuncData) (oc : Value) (od : Option Addr) (osl : Array (Option Value)), mg x = some (.ref f) ∧ K.lookup f = some ⟨oc, od, .func fd, osl⟩ ∧
    ∀ (s : Shared) (ws : List Value), ws.length = ks.length → BindsTo s fd ⟨[], ks.zip ws⟩ (ps.zip (permL .none π ws))
theorem kwAt_mk {x : Str} {st : Stmt} {ps ks : List Str} {π : List Nat} (a : At K mg x st ps)
    (h : ∀ (kV doc pm : Value) (an : Option Addr) (cdv ct : Value) (ws : List Value), ws.length = ks.length → bindArgs (PySem.W.fnOf x x (defArgs st) (defBody st) (defScope st) .none kV doc pm an cdv ct) ⟨[], ks.zip ws⟩ = pure (ps.zip (permL .none π ws))) : KwAt K mg x ps ks π := by
  obtain ⟨f, fd, F, hm, bd⟩ := a.ex
  obtain ⟨oc, od, kV, doc, pm, an, cdv, ct, osl, rfl, lk, hcd⟩ := F.ex
  exact ⟨f, _, oc, od, osl, hm, lk, fun s ws hw => .of_eq (h kV doc pm an cdv ct ws hw)⟩
end
def imms (b : Bool) (n : Nat) : List Kind := List.replicate n (.v b)
section
variable {K : PySem.W.Frag} {mg : Str → Option Value}
theorem slots_imm {b : Bool} {F H : Hp} : ∀ {n : Nat} {ρ : Env} {vs : List V} {fp : FpS}, Slots K F H (imms b n) ρ (vs.map some) fp → ρ.length = n ∧ vs.length = n ∧ ∀ (i : Nat) d, ρ[i]? = some (some d) → ∃ v, vs[i]? = some v ∧ RD b K F v d := fun {n ρ vs fp} h => by
  have l := h.lengths
  have hn : (imms b n).length = n := List.length_replicate ..
  rw [hn, List.length_map] at l
  refine ⟨by rw [l.2, ← l.1], l.1.symm, fun i d e => ?_⟩
  have hi : i < n := by
    have := (List.getElem?_eq_some_iff.mp e).1
    rw [l.2, ← l.1] at this
    exact this
  have hk : (imms b n)[i]? = some (.v b) := by
    unfold imms
    rw [List.getElem?_replicate, if_pos hi]
  obtain ⟨v, f, e1, o, _⟩ := h.get e hk
  rw [List.getElem?_map] at e1
  cases q : vs[i]? with
  | none =>
    rw [q] at e1
    cases e1
  | some v' =>
    rw [q] at e1
    cases e1
    exact ⟨v, rfl, o⟩
theorem imm_slots {b : Bool} {F H : Hp} {fp : FpS} : ∀ {n : Nat} {ρ : Env} {vs : List V}, ρ.length = n → vs.length = n → (∀ (i : Nat) d, ρ[i]? = some (some d) → ∃ v, vs[i]? = some v ∧ RD b K F v d) → Slots K F H (imms b n) ρ (vs.map some) fp
  | 0, [], [], _, _, _ => .nil
  | n + 1, o :: ρ, v :: vs, h1, h2, h => by
    have r : Slots K F H (imms b n) ρ (vs.map some) fp := imm_slots (by simpa using h1) (by simpa using h2) fun i d e => h (i + 1) d (by simpa using e)
    cases o with
    | none => exact .skip r
    | some d =>
      obtain ⟨v', e, rd⟩ := h 0 d rfl
      cases e
      exact .cons (f := fun _ => False) rd r (fun _ z => z.elim) (fun _ z => z.elim) fun _ z => z
  | 0, _ :: _, _, h, _, _ => by simp at h
  | 0, [], _ :: _, _, h, _ => by simp at h
  | n + 1, [], _, h, _, _ => by simp at h
  | n + 1, _ :: _, [], _, h, _ => by simp at h
theorem permL_get {α : Type} {d : α} {π : List Nat} {l : List α} {i : Nat} : (permL d π l)[i]? = (π[i]?).map fun j => l.getD j d := by
  unfold permL
  rw [List.getElem?_map]
/-- the promise in the keywords' order gives the promise in the parameters' -/
theorem kw_sp {b : Bool} {kr : Kind} {g : M D} {n : Nat} {π : List Nat} {zs : List V} {H : Hp} {Q : VK} {E : XK} (hπ : π.length = n) (h : spF K mg (imms b n) kr (kwM π g) zs H Q E) : spF K mg (imms b n) kr g (permL .non π zs) H Q E := by
  obtain ⟨ρ, w, rfl, rel, post⟩ := h
  obtain ⟨l1, l2, rd⟩ := slots_imm rel.slots
  have nofx : ∀ (i : Nat) (u : V) (k : Kind), (imms b n)[i]? ≠ some (.fix u k) := fun i u k z => by
    unfold imms at z
    rw [List.getElem?_replicate] at z
    split at z
    · cases z
    · cases z
  have sl : ∀ {F H : Hp} {fp : FpS}, (∀ (i : Nat) d, ρ[i]? = some (some d) → ∃ v, zs[i]? = some v ∧ RD b K F v d) → Slots K F H (imms b n) (permE π ρ) ((permL V.non π zs).map some) fp := fun {F H fp} rd => by
    refine imm_slots (by unfold permE; rw [List.length_map, hπ]) (by unfold permL; rw [List.length_map, hπ]) fun i d e => ?_
    unfold permE at e
    rw [List.getElem?_map] at e
    rw [permL_get]
    cases q : π[i]? with
    | none =>
      rw [q] at e
      cases e
    | some j =>
      rw [q] at e
      have e' : (ρ[j]?).join = some d := by simpa using e
      obtain ⟨v, ev, r⟩ := rd j d (join_some e')
      refine ⟨v, ?_, r⟩
      show some (zs.getD j V.non) = some v
      rw [List.getD_eq_getElem?_getD, ev]
      rfl
  have back : ∀ {w' : Wd} {ρ' : Env}, Rel K (imms b n) ρ' ((permL V.non π zs).map some) w' → Rel K (imms b n) (ρ.map fun _ => none) (zs.map some) w' := fun {w' ρ'} r => by
    refine ⟨r.same, r.frz, r.live, fun i u k z => absurd z (nofx i u k), imm_slots (by rw [List.length_map, l1]) l2 fun i d e => ?_⟩
    rw [List.getElem?_map] at e
    cases q : ρ[i]? with
    | none =>
      rw [q] at e
      cases e
    | some o =>
      rw [q] at e
      cases e
  refine ⟨permE π ρ, w, rfl, ⟨rel.same, rel.frz, rel.live, fun i u k z => absurd z (nofx i u k), sl rd⟩, ?_⟩
  unfold kwM at post
  cases q : g (permE π ρ) with
  | none =>
    rw [q] at post
    exact post
  | some o =>
    rw [q] at post
    cases o with
    | ok d ρ' => exact fun v w' r e t => post v w' (back r) e t
    | err nm d ρ' => exact fun cls dx w' s e ea => post cls dx w' s e ea
end
section
variable {X : Cx} {W : WX} {κ : List Kind} {pos p kpos : Pos} {e : Expr} {kws : List Keyword} {fr : M (List D)} {ms : List Md} {m : Md} {fa : M D} {kr : Kind} {g : M D}
def FKw (X : Cx) (W : WX) (κ : List Kind) (ms : List Md) (kws : List Keyword) (fr : M (List D)) : Prop := PK X kws (tA (ctx X W) κ ms fr)
theorem _root_.L2.PK.imp {X : Cx} {e : List Keyword} {t t' : TA} (h : PK X e t) (i : ∀ σ H Q, t' σ H Q → t σ H Q) : PK X e t' := ⟨fun pos pins s σ H Q I q => h.run pos pins s σ H Q I (i σ H Q q)⟩
theorem fk_nil : FKw X W κ [] [] aNil := pk_nil.imp fun σ H Q h => by
  obtain ⟨ρ, w, rfl, rel, post⟩ := h
  exact post [] w rel (Ext.refl _) ⟨fun _ => False, .nil, fun _ z => z.elim⟩
theorem fk_cons {nm : Option Str} (ha : FV X W κ m e fa) (hr : FKw X W κ ms kws fr) : FKw X W κ (m :: ms) (⟨nm, e, kpos⟩ :: kws) (aCons fa fr) := (pk_cons ha hr).imp fun σ H Q h => by
  obtain ⟨ρ, w, rfl, rel, post⟩ := h
  refine seqV (P := PostA (ctx X W) κ σ (m :: ms) w Q) rel post (fun z => z) (fun n d ρ' z => z) fun d ρ1 v w1 rel1 e1 t1 post1 => ?_
  refine seqA (P := PostA (ctx X W) κ σ (m :: ms) w Q) rel1 post1 (fun z => z) (fun n d ρ' z => ErrOk.since z e1) fun ds ρ2 vs w2 rel2 e2 a2 post2 => ?_
  exact post2 (v :: vs) w2 rel2 (e1.trans e2) (args_cons e1 e2 t1 a2)
theorem noErr_kwM {π : List Nat} {g : M D} : ∀ ρ n d ρ', kwM π (noErr g) ρ ≠ some (.err n d ρ') := fun ρ n d ρ' z => by
  unfold kwM at z
  split at z
  · cases z
  · rename_i q
    exact noErr_ne q
  · cases z
theorem permL_vals {zs : List V} {ws : List Value} (r : Vals zs ws) : ∀ π : List Nat, Vals (permL V.non π zs) (permL Value.none π ws)
  | [] => .nil
  | j :: π => by
    have h : RelV (zs.getD j V.non) (ws.getD j Value.none) := by
      rw [List.getD_eq_getElem?_getD, List.getD_eq_getElem?_getD]
      cases q : zs[j]? with
      | none =>
        have hl : ws[j]? = none := by
          rw [List.getElem?_eq_none_iff] at q ⊢
          rw [← Paired.length r]
          exact q
        rw [hl]
        rfl
      | some v =>
        obtain ⟨u, e, rv⟩ := r.get q
        rw [e]
        exact rv
    exact .cons h (permL_vals r π)
theorem kw_call {b : Bool} {CX : CXT} {k n : Nat} {x : Str} {ps ks : List Str} {π : List Nat} {E : L2.St → XK} (G : Kn X.prog X.w X.K X.mg X.base CX k x ps (spF X.K X.mg (imms b n) kr g)) (KW : KwAt X.K X.mg x ps ks π) (hx : ∀ σ, PassesAt CX X σ (E σ)) (hr : Room k X.A) (hf : Fits κ ms (imms b n)) (hn : π.length = n) (hks : ks.length = n) (ha : FKw X W κ ms kws fr)
    (hE : (∀ ρ n d ρ', kwM π g ρ ≠ some (.err n d ρ')) ∨ ∀ σ cls dx H, W cls dx σ H → E σ cls dx H) (hg : Gl X x) (hdb : (x == ("__debug__" : Str)) = false)
    (hall : (backToKw pos (keywordEach kws X.env)).all (·.1.isSome) = true) (hk : (backToKw pos (keywordEach kws X.env)).filterMap (·.1) = ks) (hpl : ((backTo pos (starEach [] X.env)).any (·.1) || (backToKw pos (keywordEach kws X.env)).any (·.1.isNone)) = false) :
    FV X W κ (.t kr) (.Call (.Name x p) [] kws pos) (fCall ms (kwM π g) fr) := by
  obtain ⟨f, fd, F, hm, hkp, _, oc, od, osl, lk⟩ := G.ex
  obtain ⟨f', fd', oc', od', osl', hm', lk', hb⟩ := KW.ex
  rw [hm] at hm'
  cases hm'
  rw [lk] at lk'
  cases lk'
  refine ⟨fun pins s σ H Q I h => ?_⟩
  have q : tA (ctx X W) κ ms fr σ H (fun zs H1 => spF X.K X.mg (imms b n) kr (kwM π g) zs H1 Q (E σ)) := ev_call hf (hE.imp id fun z => z σ) h
  refine wpAny_Call_Name_kw (ld_glob I hg hm ?_ hdb)
  refine PySem.W.callWith_KW0 (h₀ := X.base) I.ok.mod.kin hkp hall (thn (ha.run pos pins s σ H _ I q) fun ws s2 hh => ?_) hpl
  obtain ⟨zs, H2, I2, rz, q2⟩ := hh
  refine ⟨I2.kIn, ?_⟩
  rw [hk]
  have hs := kw_sp hn q2
  have lz : zs.length = n := by
    obtain ⟨ρ, w, _, rel, _⟩ := q2
    exact (slots_imm rel.slots).2.1
  have lw : ws.length = ks.length := by rw [← Paired.length rz, lz, hks]
  have rg : Vals (permL V.non π zs) (permL Value.none π ws) := permL_vals rz π
  refine wpAny_call (codeAny_mono (F.run X.A X.stack s2 H2 ⟨[], ks.zip ws⟩ (permL .none π ws) (permL .non π zs) Q (E σ) hr I2.env0 (hb s2 ws lw) rg hs) fun r s' hq => ?_)
  cases r with
  | error er => exact hx σ pins H2 s2 er s' I2 hq
  | ok fl =>
    cases fl with
    | ret u => exact I2.after hq
    | next => exact False.elim hq
    | brk => exact False.elim hq
    | cont => exact False.elim hq
theorem fe_fnK {b : Bool} {k n : Nat} {x : Str} {ps ks : List Str} {π : List Nat} (G : Kn X.prog X.w X.K X.mg X.base CX0 k x ps (spF X.K X.mg (imms b n) kr (noErr g))) (KW : KwAt X.K X.mg x ps ks π) (hr : Room k X.A) (hf : Fits κ ms (imms b n)) (ha : FKw X W κ ms kws fr) (hn : π.length = n := by rfl) (hks : ks.length = n := by rfl) (hg : Gl X x := by rfl) (hdb : (x == ("__debug__" : Str)) = false := by decide)
    (hall : (backToKw pos (keywordEach kws X.env)).all (·.1.isSome) = true := by rfl) (hk : (backToKw pos (keywordEach kws X.env)).filterMap (·.1) = ks := by rfl) (hpl : ((backTo pos (starEach [] X.env)).any (·.1) || (backToKw pos (keywordEach kws X.env)).any (·.1.isNone)) = false := by rfl) :
    FV X W κ (.t kr) (.Call (.Name x p) [] kws pos) (fCall ms (kwM π (noErr g)) fr) := kw_call (E := fun _ => E0) G KW (fun _ _ _ _ _ _ _ z => z.elim) hr hf hn hks ha (.inl noErr_kwM) hg hdb hall hk hpl
theorem fe_fnKX {b : Bool} {k n : Nat} {x : Str} {ps ks : List Str} {π : List Nat} (G : Kn X.prog X.w X.K X.mg X.base (L2.CX X.prog X.w) k x ps (spF X.K X.mg (imms b n) kr g)) (KW : KwAt X.K X.mg x ps ks π) (tk : Takes X W) (hr : Room k X.A) (hf : Fits κ ms (imms b n)) (ha : FKw X W κ ms kws fr) (hn : π.length = n := by rfl) (hks : ks.length = n := by rfl) (hg : Gl X x := by rfl) (hdb : (x == ("__debug__" : Str)) = false := by decide)
    (hall : (backToKw pos (keywordEach kws X.env)).all (·.1.isSome) = true := by rfl) (hk : (backToKw pos (keywordEach kws X.env)).filterMap (·.1) = ks := by rfl) (hpl : ((backTo pos (starEach [] X.env)).any (·.1) || (backToKw pos (keywordEach kws X.env)).any (·.1.isNone)) = false := by rfl) :
    FV X W κ (.t kr) (.Call (.Name x p) [] kws pos) (fCall ms (kwM π g) fr) := kw_call (E := fun σ => WE W σ) G KW (fun σ => passAt tk σ) hr hf hn hks ha (.inr fun _ _ _ _ z => z) hg hdb hall hk hpl
end
/-! ### text * n -/
section
variable {X : Cx} {W : WX} {κ : List Kind} {pos : Pos} {a b : Expr} {fa fb : M D} {ma mb : Md} {k : Bool}
def rMulS : R2 := fun x y H Q => ∃ s n, x = .str s ∧ y = .int n ∧ MulOk s n ∧ Q (.str (Txt.mul s n)) H
theorem op_mulS : OpR X (binaryOp .Mult) rMulS := by
  intro pins s σ H x y v u Q I rx ry h
  obtain ⟨i, j, rfl, rfl, hz, q⟩ := h
  obtain ⟨t, rfl⟩ := rx
  obtain ⟨t', rfl⟩ := ry
  exact SB.mul hz fun t2 tk => ⟨.str _, H, I.tok _, ⟨_, rfl⟩, q⟩
def dMulS : D → D → Option D
  | .str s, .int n => if 1 ≤ n ∧ n ≤ 1000 ∧ s.length ≤ 1000 then some (.str (Txt.mul s n)) else none
  | _, _ => none
theorem mulOk_small {s : Str} {n : Int} (h1 : 1 ≤ n) (h2 : n ≤ 1000) (h3 : s.length ≤ 1000) : MulOk s n := by
  refine ⟨?_, fun _ _ => ?_, fun _ _ => ?_⟩
  · rw [Bool.or_eq_false_iff]
    exact ⟨decide_eq_false (by omega), decide_eq_false (by omega)⟩
  · have h4 : (1000 : Int) ≤ (2 ^ 63 - 1) / n := by
      rw [Int.le_ediv_iff_mul_le (by omega)]
      omega
    omega
  · show decide (s.length * n.toNat > sizeLine) = false
    refine decide_eq_false ?_
    have h4 : s.length * n.toNat ≤ 1000 * 1000 := Nat.mul_le_mul h3 (by omega)
    rw [sizeLine_eq]
    omega
theorem s_mulS {K : PySem.W.Frag} : Sc K rMulS dMulS := by
  intro x y dx dy z H Q hx hy ho q
  unfold dMulS at ho
  split at ho
  · split at ho
    · rename_i c
      cases ho
      exact ⟨_, _, dp_str hx, dp_int hy, mulOk_small c.1 c.2.1 c.2.2, q _ fun b F => .str _⟩
    · cases ho
  · cases ho
end
end FN
set_option Elab.async false
set_option linter.all false
set_option maxRecDepth 100000
set_option maxHeartbeats 4000000
/-! FN16: isinstance of a caught error that has its dict. -/
namespace PySem.W
open PySem PySem.Spec PySem.Calls PyProof.Rows
section
variable {prog : Program} {w : World} {A : Around} {E : Value → Shared → Prop} {s : Shared} {K : Frag} {x D : Addr} {ox : Obj} {od : Option Obj}
theorem fn_dataD {C : Addr} {name : Str} {a g : Value} (hc : (clsIn K C).isSome = true) (ha : findIn K (.ref C) name = some (some a)) (hg : specialIn K a "__get__" = some (some g)) (ht : takesIn K a = some true) : findObj K C od name = some (.bind g a) := by
  obtain ⟨cd, q⟩ := Option.isSome_iff_exists.mp hc
  unfold findObj; rw [q, Option.bind_some, ha, Option.bind_some]
  simp [hg, ht]
theorem fn_class {Q : Option Value → Shared → Prop} (C : L2.ExcC K D) (X : K.In s.heap) (I : InstAt s.heap x ox D od) (h : Q (some (.ref D)) { s with toks := s.toks + 1 }) : wpAny (model prog w) A (getAttr? (.ref x) "__class__") Q E s := by
  have hf : findObj K D od "__class__" = some (.bind (.builtin "getset_descriptor.__get__") (.builtin "object.__class__")) := fn_dataD (by obtain ⟨cd, hc, _⟩ := any_some C.hd; rw [hc]; rfl) C.ha C.hn C.ht
  obtain ⟨hp, g, d, t, os⟩ := s
  have T0 := I.type (M := model prog w); have T1 := looks_findIn (M := model prog w) X C.hg
  have T2 := looks_findIn (M := model prog w) X C.hk; have T3 := looks_find (M := model prog w) X I hf
  have below : Looks (model prog w) hp (isInstance (.ref x) (.type "BaseException")) true := T0.andThen (looks_subIn X C.hs)
  have n2 : (Value.builtin "BaseException.__getattribute__" == Value.builtin "object.__getattribute__") = false := by decide +kernel
  have n1 : (onTheHeap (Value.ref D) && Value.builtin "BaseException.__getattribute__" == Value.builtin "object.__getattribute__") = false := by rw [n2]; rfl
  have n0 : (false && onTheHeap (Value.builtin "BaseException.__getattribute__")) = false := rfl
  unfold getAttr? getAttrBy? getAttrBy; refine wpAny_bind (wpAny_mkText (wpAny_bind (wpAny_attempt (wpAny_holding (wpAny_bind (T0.at (wpAny_bind (T1.at ?_))))))))
  show wpAny _ _ (if (onTheHeap (Value.ref D) && Value.builtin "BaseException.__getattribute__" == Value.builtin "object.__getattribute__") = true then _ else _) _ _ _
  rw [n1, if_neg Bool.false_ne_true]; unfold getAttrByItsOwn hookBefore; refine wpAny_bind ?_
  rw [if_pos (show onTheHeap (Value.ref D) = true from rfl)]; refine T2.at ?_
  refine wpAny_bind (wpAny_attempt (wpAny_holding ?_)); unfold callGetattribute; rw [n0, if_neg Bool.false_ne_true]; unfold boundAndCalled
  rw [PySem.F.excAttr_ValueError.ga.bind (.ref x)]; refine wpAny_bind (wpAny_pure ?_)
  show wpAny _ _ (call (.builtin "BaseException.__getattribute__") [.ref x, .str "__class__" t]) _ _ _
  refine wpAny_call (codeAny_call_builtin PySem.F.excAttr_ValueError.ga.plain PySem.F.entry_bexc_ga ?_); refine @check_slot (model prog w) _ _ ⟨hp, g, d, t + 1, os⟩ "BaseException.__getattribute__" "BaseException" "__getattribute__" (.ref x) [.str "__class__" t] [] _ (by decide +kernel) (by decide +kernel) below (PySem.F.args_bexc_ga (.ref x) (.str "__class__" t)) ?_
  unfold Builtin.«object.__getattribute__»; refine wpAny_bind (wpAny_of_eq (a := ((Value.ref x : Value), [Value.str "__class__" t])) (by first | rfl | (simp only [slotArgs]; rfl)) ?_)
  refine wpAny_bind (wpAny_pure (wpAny_bind (T0.at (wpAny_bind (T3.at ?_)))))
  show wpAny _ _ (holding [Value.builtin "object.__class__"] (call (.builtin "getset_descriptor.__get__") [.builtin "object.__class__", .ref x, .ref D]) >>= ret) _ _ _
  refine wpAny_bind (wpAny_holding (wpAny_call (class_get (s := ⟨hp, g, d, t + 1, os⟩) (ox := ox) (od := od) X I C.hm ?_)))
  refine wpAny_pure ?_; show wpAny _ _ (handedOut (.ref D)) _ _ _; rw [handedOut_of (v := .ref D) rfl]
  first | exact wpAny_pure (wpAny_pure h) | exact wpAny_pure h | exact wpAny_pure (wpAny_bind (wpAny_pure (wpAny_pure h)))
theorem fn_kitx (C : L2.ExcC K D) : KitX K (.ref x) (.ref D) (fun h => InstAt h x ox D od) where
  ty := fun _ _ _ I => I.type
  it := fun _ _ X _ => by
    obtain ⟨cdD, q, _⟩ := any_some C.hd
    unfold clsIn at q; split at q
    · rename_i c' d' cd' sl' ho
      intro A' Q' E' s' k q2; unfold isType loadHead; exact wpAny_bind (wpAny_loadPart (k _ _ (X _ _ ho)) (wpAny_pure q2))
    · cases q
  ne := fun h tp dd its n sl X htp => by
    obtain ⟨cdD, q, _⟩ := any_some C.hd
    refine Bool.eq_false_iff.mpr fun q3 => ?_
    have e : D = tp := Value.ref.inj (beq_iff_eq.mp q3)
    subst e; unfold clsIn at q; split at q
    · rename_i c' d' cd' sl' ho
      have z := (X _ _ ho).symm.trans htp
      cases z
    · cases q
  ca := fun X I k => fn_class C X I k
end
end PySem.W
namespace FN
open PySem PySem.Spec PyProof.Rows L2
/-- isinstance(e, S), e the error that the suite holds -/
theorem call_isD {X : Cx} {a : Addr} {oe : Obj} {dx : Addr} {cls : Value} {pn : List (Addr × Obj)} (hz : Zc cls (some dx) oe) (hf : ∃ vs, oe.data = .fields vs) : CallR (X.suite a ((a, oe) :: pn)) (.builtin "isinstance") (fun xs H Q => ∃ (Ca : Addr) (fs : List (Str × V)) (c : V) (cv : Value) (b : Bool), xs = [.ref a, c] ∧ cls = .ref Ca ∧ ExcC X.K Ca ∧ H dx = some (.xd fs) ∧ (∀ u, RelV c u → u = cv) ∧ PySem.W.kitOne X.K (.ref Ca) cv = some b ∧ Q (.bl b) H) := by
  intro pins s σ H xs us Q I r h
  obtain ⟨Ca, fs, c, cv, b, rfl, rfl, C, hx, hcv, e, q⟩ := h
  cases r with
  | cons rx rr =>
    cases rr with
    | cons rt rr =>
      cases rr
      cases rx
      have ec := hcv _ rt
      subst ec
      obtain ⟨hget, _⟩ := I.pin (a, oe) (List.mem_append.mpr (.inl List.mem_cons_self))
      obtain ⟨vs, hv⟩ := hf
      have hx' : ObjOk X.prog X.w H s.heap dx (.xd fs) := I.hok dx _ hx
      obtain ⟨mA, hns, hr⟩ := hx'
      obtain ⟨od, ho, _⟩ := lookIn_ns hns
      have J : PySem.W.InstAt s.heap a oe Ca (some od) := ⟨hget, hz.1, by unfold PySem.W.notCls; rw [hv] <;> rfl, by rw [hz.2]; exact ho⟩
      exact PySem.W.kia_one (PySem.W.fn_kitx C) I.kIn J e (fun z => nomatch z) fun tk => ⟨.bl b, H, I.kept (t' := tk) fun _ _ z => z, rfl, q⟩
/-- the classes whose errors isinstance finds below S -/
def RE (K : PySem.W.Frag) (Cs : Addr) : Addr → Prop := fun C => ExcC K C ∧ PySem.W.kitOne K (.ref C) (.ref Cs) = some true
def fIsX (i : Nat) : M D := fun ρ => match ρ[i]? with
  | some (some (.dict [(.none, _)])) => some (.ok (.bool true) ρ)
  | _ => none
theorem fe_isX {X : Cx} {W : WX} {κ : List Kind} {b : Bool} {a dx Cs : Addr} {cls : Value} {oe : Obj} {pn : List (Addr × Obj)} {x S : Str} {i : Nat} {p p1 p2 pos : Pos} (hz : Zc cls (some dx) oe) (hf : ∃ vs, oe.data = .fields vs) (hg : Gl X "isinstance") (hm : X.mg "isinstance" = none) (hgS : Gl X S) (hmS : X.mg S = some (.ref Cs)) (hk : κ[i]? = some (.exc a dx cls (RE X.K Cs)) := by rfl) (hN : X.N[i]? = some x := by rfl) (hv : Vis X.env.scope x := by first | exact Or.inl rfl | exact Or.inr (Or.inl rfl) | exact Or.inr (Or.inr rfl))
    (hd : (x == ("__debug__" : Str)) = false := by decide) (hcd : (x == ("__classdict__" : Str)) = false := by decide) (hd2 : (S == ("__debug__" : Str)) = false := by decide) (hs1 : starEach (.Name x p1 :: [.Name S p2]) X.env = (false, eval (.Name x p1) X.env) :: starEach [.Name S p2] X.env := by rfl) (hs2 : starEach (.Name S p2 :: []) X.env = (false, eval (.Name S p2) X.env) :: starEach [] X.env := by rfl) (hpl : (backTo pos (starEach [.Name S p2] X.env)).any (·.1) = false := by rfl) :
    FV (X.suite a ((a, oe) :: pn)) W κ (.t (.v b)) (.Call (.Name "isinstance" p) [.Name x p1, .Name S p2] [] pos) (fIsX i) :=
  (pe_callB (X := X.suite a ((a, oe) :: pn)) (call_isD hz hf) hg hm boot_isinstance (pa_cons (pe_var (X := X.suite a ((a, oe) :: pn)) hN hv hd hcd) (pa_cons (pe_glob (X := X.suite a ((a, oe) :: pn)) (v := .ref Cs) hgS hmS rfl hd2) pa_nil hs2) hs1) (by decide) (by decide) hs1 hpl).imp fun σ H Q h => by
    obtain ⟨ρ, w, rfl, rel, post⟩ := h
    unfold fIsX at post
    split at post
    · rename_i d ed
      obtain ⟨v, f, e1, o, _⟩ := rel.slots.get ed hk
      obtain ⟨rfl, y, d', q1, q2, q3, Ca, rfl, xf, no, hR⟩ := o
      exact ⟨.ref a, e1, Ca, _, .ref Cs, .ref Cs, true, rfl, rfl, hR.1, rel.same _ _ q2, fun u z => z, hR.2, fin_imm post rel (Ext.refl _) (.bl true)⟩
    · exact post.elim
end FN
namespace FN
open PySem PySem.Spec PyProof.Rows L2
/-! ### the mirror leans on no address -/
def shape (ms : List Md) : List (Option Nat) := ms.map fun m => match m with
  | .t _ => none
  | .r i => some i
theorem fill_shape : ∀ {ms ms' : List Md} (h : shape ms = shape ms') (ds : List D) (ρ : Env), fill ms ds ρ = fill ms' ds ρ
  | [], [], _, _, _ => rfl
  | .t _ :: ms, .t _ :: ms', h, [], ρ => rfl
  | .t _ :: ms, .t _ :: ms', h, d :: ds, ρ => by
    have h' : shape ms = shape ms' := (List.cons.inj h).2
    show (fill ms ds ρ).map _ = (fill ms' ds ρ).map _
    rw [fill_shape h']
  | .r i :: ms, .r j :: ms', h, [], ρ => rfl
  | .r i :: ms, .r j :: ms', h, d :: ds, ρ => by
    have h' : shape ms = shape ms' := (List.cons.inj h).2
    have e : i = j := Option.some.inj (List.cons.inj h).1
    subst e
    unfold fill
    split
    · rw [fill_shape h']
    · rfl
  | [], _ :: _, h, _, _ => by cases h
  | _ :: _, [], h, _, _ => by cases h
  | .t _ :: _, .r _ :: _, h, _, _ => by cases (List.cons.inj h).1
  | .r _ :: _, .t _ :: _, h, _, _ => by cases (List.cons.inj h).1
theorem back_shape : ∀ {ms ms' : List Md} (h : shape ms = shape ms') (os ρ : Env), back ms os ρ = back ms' os ρ
  | [], [], _, _, _ => rfl
  | .t _ :: ms, .t _ :: ms', h, [], ρ => rfl
  | .t _ :: ms, .t _ :: ms', h, o :: os, ρ => by
    have h' : shape ms = shape ms' := (List.cons.inj h).2
    show back ms os ρ = back ms' os ρ
    rw [back_shape h']
  | .r i :: ms, .r j :: ms', h, [], ρ => rfl
  | .r i :: ms, .r j :: ms', h, o :: os, ρ => by
    have h' : shape ms = shape ms' := (List.cons.inj h).2
    have e : i = j := Option.some.inj (List.cons.inj h).1
    subst e
    show back ms os _ = back ms' os _
    rw [back_shape h']
  | [], _ :: _, h, _, _ => by cases h
  | _ :: _, [], h, _, _ => by cases h
  | .t _ :: _, .r _ :: _, h, _, _ => by cases (List.cons.inj h).1
  | .r _ :: _, .t _ :: _, h, _, _ => by cases (List.cons.inj h).1
theorem fCall_shape {ms ms' : List Md} (h : shape ms = shape ms') (g : M D) (fr : M (List D)) : fCall ms g fr = fCall ms' g fr := by
  funext ρ
  unfold fCall
  simp only [fill_shape h, back_shape h]
theorem fe_sh {X : Cx} {W : WX} {κ : List Kind} {m : Md} {e : Expr} {ms ms' : List Md} {g : M D} {fr : M (List D)} (q : FV X W κ m e (fCall ms g fr)) (h : shape ms = shape ms' := by rfl) : FV X W κ m e (fCall ms' g fr) := by
  rw [← fCall_shape h]
  exact q
theorem outs_keep : ∀ {ks ks' : List Kind} (h : ks.map keepK = ks'.map keepK) (ρ : Env), outs ks ρ = outs ks' ρ
  | [], [], _, _ => rfl
  | k :: ks, k' :: ks', h, [] => rfl
  | k :: ks, k' :: ks', h, o :: ρ => by
    have h' : ks.map keepK = ks'.map keepK := (List.cons.inj h).2
    have e : keepK k = keepK k' := (List.cons.inj h).1
    show (match keepK k with | true => o | false => none) :: outs ks ρ = (match keepK k' with | true => o | false => none) :: outs ks' ρ
    rw [e, outs_keep h']
  | [], _ :: _, h, _ => by cases h
  | _ :: _, [], h, _ => by cases h
theorem runF_keep {ks ks' : List Kind} (h : ks.map keepK = ks'.map keepK) (kr : Kind) (n : Nat) (fb : Env → Option Fl) : runF ks kr n fb = runF ks' kr n fb := by
  funext ρ
  unfold runF
  simp only [outs_keep h]
theorem takesF {X : Cx} : Takes X (fun _ _ _ _ => False) := fun _ _ ⟨_, _, _, _, _, _, _, _, _, _, _, _, _, _, _, _, w⟩ => w.elim
/-- a module's constant -/
theorem fe_cst {X : Cx} {W : WX} {κ : List Kind} {pos : Pos} {b : Bool} {x : Str} {v : V} {d : D} (h : ∃ u, X.mg x = some u ∧ RelV v u) (q : ∀ F, RD b X.K F v d) (hg : Gl X x := by rfl) (hd : (x == ("__debug__" : Str)) = false := by decide) : FV X W κ (.t (.v b)) (.Name x pos) (fC d) := by
  obtain ⟨u, hm, r⟩ := h
  exact fe_glob hg hm r q hd
end FN
set_option Elab.async false
set_option linter.all false
set_option maxRecDepth 100000
set_option maxHeartbeats 4000000
/-! FN17: from the written part to the facts; the law's end. -/
namespace FN
open PySem PySem.Spec PyProof.Rows L2
section
variable {K : PySem.W.Frag} {h : Heap} {mg : Str → Option Value}
theorem at_mk {x : Str} {st : Stmt} {ps : List Str} (X : K.In h) (G : h.Ns mainGlobals mg) {f : Addr} {oc kV dc pm cd ct : Value} {od an : Option Addr} {sl : Array (Option Value)} (a : PySem.W.nsIn K mainGlobals x = some (some (.ref f)))
    (l : K.lookup f = some ⟨oc, od, .func (PySem.W.fnOf x x (defArgs st) (defBody st) (defScope st) .none kV dc pm an cd ct), sl⟩) (c : PySem.W.codeIn K cd x = true) (k : PySem.W.keepIn K (.ref f) = true)
    (b : ∀ (kV doc pm : Value) (an : Option Addr) (cdv ct : Value) (us : List Value), us.length = ps.length → bindArgs (PySem.W.fnOf x x (defArgs st) (defBody st) (defScope st) .none kV doc pm an cdv ct) ⟨us, []⟩ = pure (ps.zip us)) : At K mg x st ps := by
  have F := fun_mk (st := st) l c k
  exact ⟨f, _, F, PySem.W.mg_of X G a, F.binds b⟩
theorem use {p q : Prop} (h : p) (f : p → q) : q := f h
theorem cst_mk {x : Str} {v : V} {u : Value} (X : K.In h) (G : h.Ns mainGlobals mg) (a : PySem.W.nsIn K mainGlobals x = some (some u)) (r : RelV v u) : ∃ u, mg x = some u ∧ RelV v u := ⟨u, PySem.W.mg_of X G a, r⟩
theorem At.at {x : Str} {st : Stmt} {ps : List Str} (a : At K mg x st ps) : ∃ f, mg x = some (.ref f) := by
  obtain ⟨f, fd, F, hm, bd⟩ := a.ex
  exact ⟨f, hm⟩
theorem err_txt {P : Program} (X : K.In h) (G : h.Ns mainGlobals mg) {D fI : Addr} {qual : Str} {oc : Value} {od : Option Addr} {doc pm : Value} {an : Option Addr} {cda : Addr} {ct : Value} {osl : Array (Option Value)} {cc : Addr} {m : Str} {p1 p2 p3 p4 p5 p6 p7 p8 q1 q2 q3 q4 : Pos} {ccl : Value} {cdd : Option Addr} {vs : Array Value} {ccs : Array (Option Value)} {file : Str} {tf : Tok} {cl : Value} {cld : Option Addr} {csl : Array (Option Value)}
    (lk : K.lookup fI = some ⟨oc, od, .func (PySem.W.ksFn "__init__" qual (eA p1 p2) (eB m p3 p4 p5 p6 p7 p8 q1 q2 q3 q4) eS .none .none doc pm an (.ref cda) ct cc), osl⟩) (hcd : PySem.W.codeIn K (.ref cda) qual = true) (hp : (p5.endLine == p7.line) = true)
    (hc : K.lookup cda = some ⟨ccl, cdd, .fields vs, ccs⟩) (hv : vs[2]? = some (.str file tf)) (hf : ((P.main.file : Str) == file) = true) (hcc : K.lookup cc = some ⟨cl, cld, .cell (some (.ref D)), csl⟩)
    (hD : PySem.W.isClsIn K D = true) (ht : (P.main.scope.names.lookup ("super" : Str)).isSome = false) (hs : PySem.W.nsIn K mainGlobals "super" = some none) (ho : PySem.W.nsIn K PySem.cStatics "thirdparty.any" = some none) : ErrTxt P K mg D fI :=
  ⟨⟨qual, oc, od, doc, pm, an, cda, ct, osl, cc, m, p1, p2, p3, p4, p5, p6, p7, p8, q1, q2, q3, q4, lk, hcd, hp, ⟨ccl, cdd, vs, ccs, file, tf, hc, hv, hf⟩, cl, cld, csl, hcc⟩, Option.isSome_iff_exists.mp hD, ht, PySem.W.mg_none_of X G hs, ho⟩
theorem oex_mk {C : Addr} {nm q : Str} {N : Addr} {bs bm : List Value} {sn : List Str} {sub : List Value} {ab : Bool} {col : Option Bool} {dd : Option Addr} {k0 k1 k2 k3 k5 : Option Value} (x : K.lookup C = some (excClassObj nm q C N bs bm true sn sub ab col dd k0 k1 k2 k3 k5 "ValueError.__new__")) (r : PySem.HandSPX.refsVE bm = true)
    (sa : PySem.W.findIn K (.ref C) "__setattr__" = some (some (.builtin "object.__setattr__"))) (ex : PySem.W.subIn K (.ref C) (.type "BaseException") = some true) (ty : PySem.W.typeIn K (.ref C) = some (.type "type")) (kp : PySem.W.keepIn K (.ref C) = true) : OexC K C :=
  ⟨⟨nm, q, N, bs, bm, sn, sub, ab, col, dd, k0, k1, k2, k3, k5, x, r⟩, sa, ex, ty, kp⟩
end
/-- what the law promises -/
def spLaw (n : Nat) (K : PySem.W.Frag) : Sp := fun vs H Q _ => ∃ (a : Addr) (ns : List Int), vs = [.ref a] ∧ SqL K H a (ns.map V.int) ∧ ns.length ≤ n ∧ ∀ H', Q (.bl true) H'
theorem law_sp {n : Nat} {K : PySem.W.Frag} {mg : Str → Option Value} {g : M D} (hg : ∀ ns : List Int, ns.length ≤ n → ∃ ρ', g [some (.list (ns.map .int))] = some (.ok (.bool true) ρ')) (vs : List V) (H : Hp) (Q : VK) (E : XK) (h : spLaw n K vs H Q E) : spF K mg [.scr] (.v true) g vs H Q E := by
  obtain ⟨a, ns, rfl, hS, hl, q⟩ := h
  obtain ⟨ρ', e⟩ := hg ns hl
  refine ⟨[some (.list (ns.map .int))], ⟨H, H, fun _ => False⟩, rfl, ⟨Same.refl _, fun _ z => z.elim, fun _ z => z.elim, fun i u k z => ?_, ?_⟩, ?_⟩
  · match i, z with
    | 0, z => cases z
    | i + 1, z => simp at z
  · exact .cons (f := fun _ => False) (g := fun _ => False) ⟨a, ns, rfl, rfl, hS⟩ .nil (fun _ z => z.elim) (fun _ z => z) fun _ z => z
  · rw [e]
    intro v w' rel ex t
    rw [rd_bool t]
    exact q _
theorem law_end {P : Program} {w : World} {K : PySem.W.Frag} {mg : Str → Option Value} {CX : CXT} {k n : Nat} {fa : Addr} {st : Stmt} {g : M D} (hg : ∀ ns : List Int, ns.length ≤ n → ∃ ρ', g [some (.list (ns.map .int))] = some (.ok (.bool true) ρ')) (a : At K mg "law" st ["script"]) (hfa : mg "law" = some (.ref fa)) (b : ∀ (kV doc pm : Value) (an : Option Addr) (cdv ct : Value) (us : List Value), us.length = 1 → bindArgs (PySem.W.fnOf "law" "law" (defArgs st) (defBody st) (defScope st) .none kV doc pm an cdv ct) ⟨us, []⟩ = pure ((["script"] : List Str).zip us)) (G : ∀ base : Heap, Kn P w K mg base CX k "law" ["script"] (spF K mg [.scr] (.v true) g)) :
    ∃ fd : FuncData, (∀ (s : Shared) (u : Value), BindsTo s fd ⟨[u], []⟩ [("script", u)]) ∧ ∀ base : Heap, K.In base → base.Ns mainGlobals mg → FnOk P w K mg base CX k fa fd ["script"] (spLaw n K) := by
  obtain ⟨oc, od, osl, fd, lk, hb⟩ : ∃ (oc : Value) (od : Option Addr) (osl : Array (Option Value)) (fd : FuncData), K.lookup fa = some ⟨oc, od, .func fd, osl⟩ ∧ ∀ (s : Shared) (u : Value), BindsTo s fd ⟨[u], []⟩ [("script", u)] := by
    obtain ⟨f, fd, F, hm, bd⟩ := a.ex
    rw [hfa] at hm
    cases hm
    obtain ⟨oc, od, kV, doc, pm, an, cdv, ct, osl, rfl, lk, hcd⟩ := F.ex
    exact ⟨oc, od, osl, _, lk, fun s u => .of_eq (b kV doc pm an cdv ct [u] rfl)⟩
  refine ⟨fd, hb, fun base _ _ => ?_⟩
  · obtain ⟨f, fd', F, hm, hk, bd, oc', od', osl', lk'⟩ := (G base).ex
    rw [hfa] at hm
    cases hm
    rw [lk] at lk'
    cases lk'
    exact F.imp (law_sp hg)
end FN
set_option Elab.async false
set_option linter.all false
set_option maxRecDepth 100000
set_option maxHeartbeats 4000000
/-! FN18: reading mirrors (plain Lean; no program). -/
namespace FN
open PySem PySem.Spec PyProof.Rows L2
section
variable {α β : Type} {a : α} {ρ : Env} {c : Str} {d : D} {fa fb fc : M D} {ta tb : M Bool} {ma mb mc : Md} {i j k : Nat} {fr : M (List D)} {f g : Env → Option Fl} {b : Bool}
@[simp] theorem u_ok {e : Str → D → Env → β} {g : α → Env → Option β} : bnd (some (Out.ok a ρ)) e g = g a ρ := (rfl)
@[simp] theorem u_err {e : Str → D → Env → β} {g : α → Env → Option β} : bnd (some (Out.err c d ρ)) e g = some (e c d ρ) := (rfl)
@[simp] theorem u_none {e : Str → D → Env → β} {g : α → Env → Option β} : bnd none e g = none := (rfl)
@[simp] theorem u_fVar : fVar i ρ = match ρ[i]? with | some (some d) => some (.ok d ρ) | _ => none := (rfl)
@[simp] theorem u_fRef : fRef i ρ = match ρ[i]? with | some (some _) => some (.ok .none ρ) | _ => none := (rfl)
@[simp] theorem u_fC : fC d ρ = some (.ok d ρ) := (rfl)
@[simp] theorem u_fTok : fTok ρ = some (.ok (.dict []) ρ) := (rfl)
@[simp] theorem u_f1 {op : D → Option D} : f1 ma op fa ρ = bnd (fa ρ) Out.err fun x ρ1 => match rd ma x ρ1 with | some x => (op x).map fun z => .ok z ρ1 | none => none := (rfl)
@[simp] theorem u_f1b {q : D → Bool} : f1b ma q fa ρ = bnd (fa ρ) Out.err fun x ρ1 => match rd ma x ρ1 with | some x => some (.ok (.bool (q x)) ρ1) | none => none := (rfl)
@[simp] theorem u_f2 {op : D → D → Option D} : f2 ma mb op fa fb ρ = bnd (fa ρ) Out.err fun x ρ1 => bnd (fb ρ1) Out.err fun y ρ2 => match rd ma x ρ2, rd mb y ρ2 with | some x, some y => (op x y).map fun z => .ok z ρ2 | _, _ => none := (rfl)
@[simp] theorem u_f3 {fl fh : M (Option Int)} : f3 ma fa fl fh ρ = bnd (fa ρ) Out.err fun x ρ1 => bnd (fl ρ1) Out.err fun lo ρ2 => bnd (fh ρ2) Out.err fun hi ρ3 => match rd ma x ρ3 with | some x => (dCut x lo hi).map fun z => .ok z ρ3 | none => none := (rfl)
@[simp] theorem u_rdv : rd (.t (.v b)) d ρ = some d := (rfl)
@[simp] theorem u_rdl : rd (.t (.lst (.v b))) d ρ = some d := (rfl)
@[simp] theorem u_rdr : rd (.r i) d ρ = match ρ[i]? with | some (some (.dict _)) => none | some (some d) => some d | _ => none := (rfl)
@[simp] theorem u_fTru : fTru ma fa ρ = bnd (fa ρ) Out.err fun x ρ1 => match rd ma x ρ1 with | some x => (truD x).map fun b => .ok b ρ1 | none => none := (rfl)
@[simp] theorem u_fTst : fTst fa ρ = bnd (fa ρ) Out.err fun d ρ1 => match d with | .bool b => some (.ok b ρ1) | _ => none := (rfl)
@[simp] theorem u_tAnd : tAndF ta tb ρ = bnd (ta ρ) Out.err fun c ρ1 => if c = true then tb ρ1 else some (.ok false ρ1) := (rfl)
@[simp] theorem u_tOr : tOrF ta tb ρ = bnd (ta ρ) Out.err fun c ρ1 => if c = true then some (.ok true ρ1) else tb ρ1 := (rfl)
@[simp] theorem u_tNot : tNotF ta ρ = bnd (ta ρ) Out.err fun c ρ1 => some (.ok (!c) ρ1) := (rfl)
@[simp] theorem u_fAnd : fAnd fa fb ρ = bnd (fa ρ) Out.err fun x ρ1 => match x with | .bool true => fb ρ1 | .bool false => some (.ok (.bool false) ρ1) | _ => none := (rfl)
@[simp] theorem u_fOr : fOr fa fb ρ = bnd (fa ρ) Out.err fun x ρ1 => match x with | .bool true => some (.ok (.bool true) ρ1) | .bool false => fb ρ1 | _ => none := (rfl)
@[simp] theorem u_fNot : fNot fa ρ = bnd (fa ρ) Out.err fun x ρ1 => match x with | .bool b => some (.ok (.bool !b) ρ1) | _ => none := (rfl)
@[simp] theorem u_fIf : fIf ta fa fb ρ = bnd (ta ρ) Out.err fun c ρ1 => if c = true then fa ρ1 else fb ρ1 := (rfl)
@[simp] theorem u_fTup : fTup fr ρ = bnd (fr ρ) Out.err fun ds ρ1 => if ds.length ≤ sizeLine then some (.ok (.tuple ds) ρ1) else none := (rfl)
@[simp] theorem u_fLst : fLst fr ρ = bnd (fr ρ) Out.err fun ds ρ1 => if ds.length ≤ sizeLine then some (.ok (.list ds) ρ1) else none := (rfl)
@[simp] theorem u_aNil : aNil ρ = some (.ok [] ρ) := (rfl)
@[simp] theorem u_aCons : aCons fa fr ρ = bnd (fa ρ) Out.err fun d ρ1 => bnd (fr ρ1) Out.err fun ds ρ2 => some (.ok (d :: ds) ρ2) := (rfl)
@[simp] theorem u_fill0 : FN.fill [] [] ρ = some ([], ρ) := (rfl)
@[simp] theorem u_fillT {kd : Kind} {ms : List Md} {ds : List D} : FN.fill (.t kd :: ms) (d :: ds) ρ = (FN.fill ms ds ρ).map fun p => (some d :: p.1, p.2) := (rfl)
@[simp] theorem u_fillR {ms : List Md} {ds : List D} : FN.fill (.r i :: ms) (d :: ds) ρ = match ρ[i]? with | some (some d) => (FN.fill ms ds (ρ.set i none)).map fun p => (some d :: p.1, p.2) | _ => none := (rfl)
@[simp] theorem u_back0 {os : Env} : back [] os ρ = ρ := by cases os <;> rfl
@[simp] theorem u_backT {kd : Kind} {ms : List Md} {o : Option D} {os : Env} : back (.t kd :: ms) (o :: os) ρ = back ms os ρ := (rfl)
@[simp] theorem u_backR {ms : List Md} {o : Option D} {os : Env} : back (.r i :: ms) (o :: os) ρ = back ms os (ρ.set i o) := (rfl)
theorem u_fCall {ms : List Md} {g : M D} : fCall ms g fr ρ = bnd (fr ρ) Out.err fun ds ρ1 => match FN.fill ms ds ρ1 with
  | some (ρc, ρr) => match g ρc with
    | some (.ok d ρo) => some (.ok d (back ms ρo ρr))
    | some (.err n d _) => some (.err n d ρr)
    | none => none
  | none => none := (rfl)
@[simp] theorem u_fCallL {ms : List Md} {g : M D} : fCallL i ms g fr ρ = match ρ[i]? with | some (some _) => fCall ms g fr ρ | _ => none := (rfl)
@[simp] theorem u_outs0 : outs [] ρ = [] := by cases ρ <;> rfl
@[simp] theorem u_outsV {ks : List Kind} {o : Option D} : outs (.v b :: ks) (o :: ρ) = none :: outs ks ρ := (rfl)
@[simp] theorem u_outsL {kd : Kind} {ks : List Kind} {o : Option D} : outs (.lst kd :: ks) (o :: ρ) = o :: outs ks ρ := (rfl)
@[simp] theorem u_outsS {ks : List Kind} {o : Option D} : outs (.scr :: ks) (o :: ρ) = o :: outs ks ρ := (rfl)
@[simp] theorem u_outsT {u : V} {ks : List Kind} {o : Option D} : outs (.tok u :: ks) (o :: ρ) = o :: outs ks ρ := (rfl)
theorem u_runF {ks : List Kind} {kr : Kind} {n : Nat} {fb : Env → Option Fl} : runF ks kr n fb ρ = match fb (ρ ++ List.replicate n none) with
  | some (.ret d ρ') => some (.ok d (outs ks ρ'))
  | some (.nx ρ') => match kr with
    | .v _ => some (.ok .none (outs ks ρ'))
    | _ => none
  | some (.err c d ρ') => some (.err c d (outs ks ρ'))
  | _ => none := (rfl)
theorem u_noErr {g : M D} : noErr g ρ = match g ρ with | some (.ok d ρ') => some (.ok d ρ') | _ => none := (rfl)
@[simp] theorem u_sSeq : sSeq f g ρ = match f ρ with | some (.nx ρ') => g ρ' | o => o := (rfl)
@[simp] theorem u_sNx : sNx ρ = some (.nx ρ) := (rfl)
@[simp] theorem u_sDrop : sDrop fa ρ = bnd (fa ρ) Fl.err fun _ ρ1 => some (.nx ρ1) := (rfl)
@[simp] theorem u_sSet : sSet i fa ρ = bnd (fa ρ) Fl.err fun d ρ1 => some (.nx (ρ1.set i (some d))) := (rfl)
@[simp] theorem u_sRet : sRet fa ρ = bnd (fa ρ) Fl.err fun d ρ1 => some (.ret d ρ1) := (rfl)
@[simp] theorem u_sRetN : sRetN ρ = some (.ret .none ρ) := (rfl)
@[simp] theorem u_sRetR : sRetR i ρ = match ρ[i]? with | some (some d) => some (.ret d (ρ.set i none)) | _ => none := (rfl)
@[simp] theorem u_sIf : sIf ta f g ρ = bnd (ta ρ) Fl.err fun b ρ1 => if b = true then f ρ1 else g ρ1 := (rfl)
@[simp] theorem u_sPar : sPar i j fr ρ = bnd (fr ρ) Fl.err fun ds ρ1 => match ds with | [x, y] => some (.nx ((ρ1.set i (some x)).set j (some y))) | _ => none := (rfl)
@[simp] theorem u_sPar3 : sPar3 i j k fr ρ = bnd (fr ρ) Fl.err fun ds ρ1 => match ds with | [x, y, z] => some (.nx (((ρ1.set i (some x)).set j (some y)).set k (some z))) | _ => none := (rfl)
@[simp] theorem u_gNm : gNm i d ρ = some (ρ.set i (some d)) := (rfl)
@[simp] theorem u_gTp {t : List D → Env → Option Env} {ds : List D} : gTp t (.tuple ds) ρ = t ds ρ := (rfl)
@[simp] theorem u_gsN : gsNil [] ρ = some ρ := (rfl)
@[simp] theorem u_sAsg {t : D → Env → Option Env} : sAsg t fa ρ = bnd (fa ρ) Fl.err fun d ρ1 => (t d ρ1).map Fl.nx := (rfl)
@[simp] theorem u_iSeq : iSeq fa ρ = bnd (fa ρ) Out.err fun x ρ1 => match x with | .list ds => some (.ok ds ρ1) | .tuple ds => some (.ok ds ρ1) | .str z => some (.ok (chD z) ρ1) | _ => none := (rfl)
@[simp] theorem u_iScr : iScr i ρ = match ρ[i]? with | some (some (.list ds)) => some (.ok ds ρ) | _ => none := (rfl)
@[simp] theorem u_iZip : iZip fa fb ρ = bnd (fa ρ) Out.err fun x ρ1 => bnd (fb ρ1) Out.err fun y ρ2 => match x, y with | .list ds, .list es => some (.ok (zipD ds es) ρ2) | .tuple ds, .tuple es => some (.ok (zipD ds es) ρ2) | _, _ => none := (rfl)
theorem u_sFor {fi : M (List D)} {ft : D → Env → Option Env} : sFor fi ft f ρ = bnd (fi ρ) Fl.err fun ds ρ1 => forL ft f ds ρ1 := (rfl)
theorem u_fLc {vs : List Nat} {fi : M (List D)} {ft : D → Env → Option Env} {tt : M Bool} {fe : M D} : fLc vs fi ft tt fe ρ = bnd (fi ρ) Out.err fun ds ρ1 => bnd (compL vs ft tt fe ds [] ρ1) Out.err fun r ρ2 => some (.ok (.list r) ρ2) := (rfl)
@[simp] theorem u_tYes : tYesF ρ = some (.ok true ρ) := (rfl)
@[simp] theorem u_fM1 {op : Str → D → Option D} : fM1 ma op fb fa ρ = bnd (fb ρ) Out.err fun x ρ1 => match x with
  | .str s => bnd (fa ρ1) Out.err fun y ρ2 => match rd ma y ρ2 with | some y => (op s y).map fun z => .ok z ρ2 | none => none
  | _ => none := (rfl)
/-- a comprehension without test over a plain name whose elements leave the rest as it is -/
theorem compL_pure {i : Nat} {fe : M D} {ρ : Env} {F : D → D} : ∀ (ds acc : List D), acc.length + ds.length ≤ sizeLine → (∀ d ∈ ds, fe ((ρ.set i none).set i (some d)) = some (.ok (F d) ((ρ.set i none).set i (some d)))) → compL [i] (gNm i) tYesF fe ds acc ρ = some (.ok (acc ++ ds.map F) (ρ.set i none))
  | [], acc, _, _ => by
    simp [compL, wipeE]
  | d :: ds, acc, hl, h => by
    have h1 := h d List.mem_cons_self
    have l1 : acc.length < sizeLine := by
      rw [List.length_cons] at hl
      omega
    unfold compL
    simp only [wipeE, u_gNm, u_tYes]
    rw [h1]
    simp only [l1, if_true]
    have e : (List.set (List.set (List.set ρ i none) i (some d)) i none) = ρ.set i none := by
      rw [List.set_set, List.set_set]
    rw [e]
    have r := compL_pure (i := i) (fe := fe) (ρ := ρ.set i none) (F := F) ds (acc ++ [F d]) (by simp at hl ⊢; omega) (fun d' hd => by
      rw [List.set_set, List.set_set]
      have := h d' (List.mem_cons_of_mem _ hd)
      rw [List.set_set] at this
      exact this)
    rw [r, List.set_set]
    simp
end
end FN
set_option Elab.async false
set_option linter.all false
set_option maxRecDepth 100000
set_option maxHeartbeats 4000000
/-! FT1: texts: split, join, whole numbers as texts (plain Lean). -/
namespace FN
open PySem PySem.Spec PyProof.Rows L2
open Builtin.Str
abbrev cs (x : Str) : List Nat := x.cps.toList
theorem str_ext {a b : Str} (h : cs a = cs b) : a = b := Str.ext' (Array.toList_inj.mp h)
theorem cs_len (x : Str) : (cs x).length = x.length := by simp [cs, Str.length]
theorem cs_app (a b : Str) : cs (a ++ b) = cs a ++ cs b := by
  show (a ++ b).cps.toList = _
  rw [Str.cps_append, Array.toList_append]
/-! ### split, over lists of signs -/
def spl (s : List Nat) : Nat → List Nat → List (List Nat)
  | 0, l => [l]
  | n + 1, l => if s.isPrefixOf l then [] :: spl s n (l.drop s.length) else match l with
    | [] => [[]]
    | c :: r => match spl s n r with
      | [] => [[c]]
      | p :: q => (c :: p) :: q
theorem spl_ne (s : List Nat) : ∀ (n : Nat) (l : List Nat), ∃ p q, spl s n l = p :: q
  | 0, l => ⟨_, _, rfl⟩
  | n + 1, l => by
    unfold spl
    split
    · exact ⟨_, _, rfl⟩
    · split
      · exact ⟨_, _, rfl⟩
      · split
        · exact ⟨_, _, rfl⟩
        · exact ⟨_, _, rfl⟩
/-- y lies in x at i -/
theorem at_iff {x y : Str} {i : Nat} (hi : i ≤ x.length) : StrLaws.At x y x.length i ↔ (cs y).isPrefixOf ((cs x).drop i) = true := by
  have hn : (cs x).length = x.length := cs_len x
  have hy : (cs y).length = y.length := cs_len y
  rw [List.isPrefixOf_iff_prefix]
  constructor
  · intro h
    have h2 := h.2
    rw [StrLaws.subAt_eq] at h2
    have e : ((cs x).drop i).take y.length = cs y := eq_of_beq h2
    rw [← e]
    exact List.take_prefix _ _
  · intro h
    obtain ⟨t, e⟩ := h
    refine ⟨?_, ?_⟩
    · have l := congrArg List.length e
      rw [List.length_append, List.length_drop, hn, hy] at l
      omega
    · rw [StrLaws.subAt_eq]
      show ((cs x).drop i).take y.length == cs y
      rw [← e, ← hy, List.take_left']
      · simp
      · rfl
theorem sub_at {x : Str} {a b : Nat} : cs (strSub x a b) = ((cs x).drop a).take (b - a) := StrLaws.strSub_toList x a b
theorem parts_spl {x y : Str} (hw : 1 ≤ y.length) : ∀ (n a : Nat) (cuts : List Nat) (f : Nat), a ≤ x.length → StrLaws.ChainG x y x.length a cuts f → (∀ k, f ≤ k → ¬ StrLaws.At x y x.length k) → x.length - a < n →
    (StrLaws.partsFrom x y.length a cuts).map cs = spl (cs y) n ((cs x).drop a)
  | 0, a, cuts, f, _, _, _, hn => by omega
  | n + 1, a, cuts, f, ha, hc, hf, hn => by
    have lx : (cs x).length = x.length := cs_len x
    have ly : (cs y).length = y.length := cs_len y
    unfold spl
    by_cases hA : StrLaws.At x y x.length a
    · rw [if_pos ((at_iff ha).mp hA)]
      cases cuts with
      | nil =>
        have e : f = a := hc
        exact absurd hA (hf a (by omega))
      | cons c r =>
        obtain ⟨h1, h2, h3, h4⟩ := hc
        have e : c = a := by
          rcases Nat.lt_or_ge a c with q | q
          · exact absurd hA (h3 a (Nat.le_refl _) q)
          · omega
        subst e
        have hb := hA.1
        show cs (strSub x c c) :: (StrLaws.partsFrom x y.length (c + y.length) r).map cs = _
        rw [parts_spl hw n (c + y.length) r f hb h4 hf (by omega), sub_at, Nat.sub_self, List.take_zero, List.drop_drop, ly]
    · rw [if_neg (fun z => hA ((at_iff ha).mpr z))]
      by_cases hl : a = x.length
      · subst hl
        have e0 : (cs x).drop x.length = [] := List.drop_of_length_le (by omega)
        rw [e0]
        cases cuts with
        | nil =>
          show [cs (strSub x x.length x.length)] = [[]]
          rw [sub_at, e0, List.take_nil]
        | cons c r =>
          obtain ⟨h1, h2, _⟩ := hc
          have := h2.1
          omega
      · have hlt : a < (cs x).length := by omega
        rw [List.drop_eq_getElem_cons hlt]
        have IH : ∀ f', StrLaws.ChainG x y x.length (a + 1) cuts f' → (∀ k, f' ≤ k → ¬ StrLaws.At x y x.length k) → (StrLaws.partsFrom x y.length (a + 1) cuts).map cs = spl (cs y) n ((cs x).drop (a + 1)) := fun f' h1 h2 => parts_spl hw n (a + 1) cuts f' (by omega) h1 h2 (by omega)
        cases cuts with
        | nil =>
          have e : f = a := hc
          have r := IH (a + 1) rfl (fun k hk => hf k (by omega))
          show [cs (strSub x a x.length)] = _
          have r' : [cs (strSub x (a + 1) x.length)] = spl (cs y) n ((cs x).drop (a + 1)) := r
          dsimp only
          rw [← r']
          dsimp only
          rw [sub_at, sub_at, List.drop_eq_getElem_cons hlt]
          have e1 : x.length - a = (x.length - (a + 1)) + 1 := by omega
          rw [e1, List.take_succ_cons]
        | cons c r =>
          obtain ⟨h1, h2, h3, h4⟩ := hc
          have hca : a + 1 ≤ c := by
            rcases Nat.lt_or_ge a c with q | q
            · exact q
            · have e : c = a := by omega
              rw [e] at h2
              exact absurd h2 hA
          have r' := IH f ⟨hca, h2, fun k k1 k2 => h3 k (by omega) k2, h4⟩ hf
          have r2 : cs (strSub x (a + 1) c) :: (StrLaws.partsFrom x y.length (c + y.length) r).map cs = spl (cs y) n ((cs x).drop (a + 1)) := r'
          show cs (strSub x a c) :: (StrLaws.partsFrom x y.length (c + y.length) r).map cs = _
          dsimp only
          rw [← r2]
          dsimp only
          rw [sub_at, sub_at, List.drop_eq_getElem_cons hlt]
          have e1 : c - a = (c - (a + 1)) + 1 := by omega
          rw [e1, List.take_succ_cons]
theorem kind_pos (x : Str) : 1 ≤ Builtin.Str.strKind x := by
  unfold Builtin.Str.strKind
  split
  · exact Nat.le_refl _
  · split <;> decide
def sp (s l : List Nat) : List (List Nat) := spl s (l.length + 1) l
theorem split_sp {x y : Str} (hk : Builtin.Str.strKind y = 1) (hw : 1 ≤ y.length) : (Txt.split x y).map cs = sp (cs y) (cs x) := by
  have lx : (cs x).length = x.length := cs_len x
  have none : (∀ k, ¬ StrLaws.At x y x.length k) → ([x] : List Str).map cs = sp (cs y) (cs x) := fun h => by
    have := parts_spl hw (x.length + 1) 0 [] 0 (Nat.zero_le _) rfl (fun k _ => h k) (by omega)
    unfold sp
    rw [lx]
    rw [List.drop_zero] at this
    rw [← this]
    show [cs x] = [cs (strSub x 0 x.length)]
    rw [StrLaws.sub_whole]
  unfold Txt.split
  split
  · rename_i h
    rw [Bool.or_eq_true, decide_eq_true_eq, decide_eq_true_eq] at h
    rcases h with h | h
    · exact none fun k z => by
        have := z.1
        omega
    · have := kind_pos x
      omega
  · obtain ⟨f, hc, hf⟩ := StrLaws.occ_tight x y hw
    split
    · rename_i h
      rw [List.isEmpty_iff] at h
      rw [h] at hc
      have e : f = 0 := hc
      exact none fun k => hf k (by omega)
    · rw [StrLaws.partsBetween_eq]
      have := parts_spl hw (x.length + 1) 0 _ f (Nat.zero_le _) hc hf (by omega)
      unfold sp
      rw [lx, this, List.drop_zero]
/-! ### joined pieces are split again -/
theorem spl_fuel (s : List Nat) (hs : s ≠ []) : ∀ (n m : Nat) (l : List Nat), l.length < n → l.length < m → spl s n l = spl s m l
  | 0, _, _, h, _ => by omega
  | _ + 1, 0, _, _, h => by omega
  | n + 1, m + 1, l, h1, h2 => by
    have hl : 0 < s.length := List.length_pos_iff.mpr hs
    unfold spl
    by_cases q : s.isPrefixOf l = true
    · rw [if_pos q, if_pos q]
      have : (l.drop s.length).length < l.length := by
        have p := (List.isPrefixOf_iff_prefix.mp q).length_le
        rw [List.length_drop]
        omega
      rw [spl_fuel s hs n m _ (by omega) (by omega)]
    · rw [if_neg q, if_neg q]
      cases l with
      | nil => rfl
      | cons c r =>
        dsimp only
        rw [spl_fuel s hs n m r (by simp at h1; omega) (by simp at h2; omega)]
theorem sp_pre {s b : List Nat} (hs : s ≠ []) : sp s (s ++ b) = [] :: sp s b := by
  have h : s.isPrefixOf (s ++ b) = true := List.isPrefixOf_iff_prefix.mpr (List.prefix_append _ _)
  show spl s ((s ++ b).length + 1) (s ++ b) = _
  unfold spl
  rw [if_pos h, List.drop_left]
  unfold sp
  rw [spl_fuel s hs _ (b.length + 1) b (by rw [List.length_append]; have := List.length_pos_iff.mpr hs; omega) (by omega)]
theorem sp_cons {s r : List Nat} {c : Nat} (hs : s ≠ []) (h : ¬ s.isPrefixOf (c :: r) = true) : sp s (c :: r) = match sp s r with
    | [] => [[c]]
    | p :: q => (c :: p) :: q := by
  show spl s ((c :: r).length + 1) (c :: r) = _
  unfold spl
  rw [if_neg h]
  rfl
/-- a separator with a sign c at place o that stands not ahead of it -/
structure Mark (s : List Nat) (c o : Nat) : Prop where
  here : s[o]? = some c
  first : c ∉ s.take o
theorem Mark.ne {s : List Nat} {c o : Nat} (m : Mark s c o) : s ≠ [] := fun z => by
  have := m.here
  rw [z] at this
  simp at this
/-- not at the head of a piece free of c -/
theorem Mark.no {s : List Nat} {c o : Nat} (m : Mark s c o) {a b : List Nat} (ha : a ≠ []) (hc : c ∉ a) : ¬ s.isPrefixOf (a ++ (s ++ b)) = true := fun z => by
  obtain ⟨t, e⟩ := List.isPrefixOf_iff_prefix.mp z
  have h1 : (s ++ t)[o]? = some c := by
    rw [List.getElem?_append_left (List.getElem?_eq_some_iff.mp m.here).1]
    exact m.here
  rw [e] at h1
  have la : 0 < a.length := List.length_pos_iff.mpr ha
  by_cases q : o < a.length
  · rw [List.getElem?_append_left q] at h1
    exact hc (List.mem_of_getElem? h1)
  · rw [List.getElem?_append_right (by omega)] at h1
    have lo := (List.getElem?_eq_some_iff.mp m.here).1
    rw [List.getElem?_append_left (by omega)] at h1
    refine m.first (List.mem_of_getElem? (i := o - a.length) ?_)
    rw [List.getElem?_take_of_lt (by omega)]
    exact h1
theorem Mark.free {s : List Nat} {c o : Nat} (m : Mark s c o) {a : List Nat} (hc : c ∉ a) : ¬ s.isPrefixOf a = true := fun z => by
  obtain ⟨t, e⟩ := List.isPrefixOf_iff_prefix.mp z
  refine hc (List.mem_of_getElem? (i := o) ?_)
  rw [← e, List.getElem?_append_left (List.getElem?_eq_some_iff.mp m.here).1]
  exact m.here
theorem sp_free {s : List Nat} {c o : Nat} (m : Mark s c o) : ∀ a : List Nat, c ∉ a → sp s a = [a]
  | [], h => by
    show spl s 1 [] = _
    unfold spl
    rw [if_neg (m.free h)]
  | d :: a, h => by
    rw [sp_cons m.ne (m.free h), sp_free m a (fun z => h (List.mem_cons_of_mem _ z))]
theorem sp_cut {s : List Nat} {c o : Nat} (m : Mark s c o) (b : List Nat) : ∀ a : List Nat, c ∉ a → sp s (a ++ (s ++ b)) = a :: sp s b
  | [], _ => sp_pre m.ne
  | d :: a, h => by
    have q := sp_cons (r := a ++ (s ++ b)) (c := d) m.ne (m.no (a := d :: a) (by simp) h)
    show sp s (d :: (a ++ (s ++ b))) = _
    rw [q, sp_cut m b a (fun z => h (List.mem_cons_of_mem _ z))]
def jn (s : List Nat) : List (List Nat) → List Nat
  | [] => []
  | [x] => x
  | x :: y :: r => x ++ (s ++ jn s (y :: r))
theorem sp_jn {s : List Nat} {c o : Nat} (m : Mark s c o) : ∀ ps : List (List Nat), ps ≠ [] → (∀ p ∈ ps, c ∉ p) → sp s (jn s ps) = ps
  | [], h, _ => absurd rfl h
  | [x], _, h => sp_free m x (h x List.mem_cons_self)
  | x :: y :: r, _, h => by
    show sp s (x ++ (s ++ jn s (y :: r))) = _
    rw [sp_cut m _ x (h x List.mem_cons_self), sp_jn m (y :: r) (by simp) fun p hp => h p (List.mem_cons_of_mem _ hp)]
theorem cs_join (y : Str) : ∀ ps : List Str, cs (Txt.join y ps) = jn (cs y) (ps.map cs) := fun ps => by
  show cs (glued y ps) = _
  rw [StrLaws.glued_eq_join]
  have key : ∀ ps : List Str, cs (Str.join y ps) = jn (cs y) (ps.map cs) := fun ps => by
    induction ps with
    | nil => rfl
    | cons x r ih =>
      cases r with
      | nil => rfl
      | cons z r =>
        show cs (x ++ y ++ Str.join y (z :: r)) = cs x ++ (cs y ++ jn (cs y) ((z :: r).map cs))
        rw [cs_app, cs_app, ih, List.append_assoc]
  exact key ps
theorem map_cs_inj : ∀ {a b : List Str}, a.map cs = b.map cs → a = b
  | [], [], _ => rfl
  | x :: a, y :: b, h => by
    have h' := List.cons.inj h
    rw [str_ext h'.1, map_cs_inj h'.2]
  | [], _ :: _, h => by cases h
  | _ :: _, [], h => by cases h
/-- joined pieces that hold not the mark are split again -/
theorem split_join {y : Str} {c o : Nat} (m : Mark (cs y) c o) (hk : Builtin.Str.strKind y = 1) {ps : List Str} (hp : ps ≠ []) (hc : ∀ p ∈ ps, c ∉ cs p) : Txt.split (Txt.join y ps) y = ps := by
  have hw : 1 ≤ y.length := by
    rw [← cs_len]
    exact List.length_pos_iff.mpr m.ne
  refine map_cs_inj ?_
  rw [split_sp hk hw, cs_join, sp_jn m _ (by simpa using hp)]
  intro p h
  obtain ⟨q, hq, rfl⟩ := List.mem_map.mp h
  exact hc q hq
theorem join_split (x y : Str) : Txt.join y (Txt.split x y) = x := by
  show glued y _ = x
  rw [StrLaws.glued_eq_join]
  exact StrLaws.join_split x y
theorem split_ne (x y : Str) (hk : Builtin.Str.strKind y = 1) (hw : 1 ≤ y.length) : Txt.split x y ≠ [] := fun z => by
  have := split_sp (x := x) hk hw
  rw [z] at this
  obtain ⟨p, q, e⟩ := spl_ne (cs y) ((cs x).length + 1) (cs x)
  unfold sp at this
  rw [e] at this
  cases this
/-! ### whole numbers as texts -/
def dstr (n : Int) : Str := Str.ofString (toString n)
/-- the number of a word without zeros ahead, of at most 30 digits -/
def intL (l : List Nat) : Option Int :=
  let ds := if l.head? = some 45 then l.tail else l
  if ds.length = 0 ∨ 30 < ds.length ∨ ¬ (∀ c ∈ ds, 48 ≤ c ∧ c ≤ 57) then none
  else if ds.head? = some 48 ∧ l ≠ [48] then none
  else some (if l.head? = some 45 then -((NumText.digitsVal ds : Nat) : Int) else ((NumText.digitsVal ds : Nat) : Int))
theorem cs_nat (m : Nat) : cs (dstr (m : Int)) = (Nat.toDigits 10 m).map Char.toNat := PySem.W.KIN.signs_num m
theorem cs_neg (m : Nat) (h : 0 < m) : cs (dstr (-(m : Int))) = 45 :: (Nat.toDigits 10 m).map Char.toNat := by
  obtain ⟨k, rfl⟩ : ∃ k, m = k + 1 := ⟨m - 1, by omega⟩
  unfold dstr cs
  rw [PyProof.Rows.signs_ofString]
  show (("-" ++ Nat.repr (k + 1)).toList).map Char.toNat = _
  rw [String.toList_append, Nat.toList_repr]
  rfl
/-- the figures of m -/
def figs (m : Nat) : List Nat := (Nat.toDigits 10 m).map Char.toNat
theorem figs_small {m : Nat} (h : m < 10) : figs m = [48 + m] := by
  unfold figs
  rw [Nat.toDigits_of_lt_base h]
  have : ∀ d : Nat, d < 10 → [d.digitChar].map Char.toNat = [48 + d] := by decide
  exact this m h
theorem figs_big {m : Nat} (h : 10 ≤ m) : figs m = figs (m / 10) ++ [48 + m % 10] := by
  have t : Nat.toDigits 10 (m / 10) ++ Nat.toDigits 10 (m % 10) = Nat.toDigits 10 (10 * (m / 10) + m % 10) := Nat.toDigits_append_toDigits (by decide) (by omega) (Nat.mod_lt _ (by decide))
  rw [Nat.div_add_mod] at t
  have e : figs m = figs (m / 10) ++ figs (m % 10) := by
    unfold figs
    rw [← t, List.map_append]
  rw [e, figs_small (m := m % 10) (Nat.mod_lt _ (by decide))]
theorem figs_all : ∀ (n m : Nat), m < n → ∀ c ∈ figs m, 48 ≤ c ∧ c ≤ 57
  | 0, _, h => by omega
  | n + 1, m, h => by
    by_cases q : m < 10
    · rw [figs_small q]
      intro c hc
      rw [List.mem_singleton] at hc
      omega
    · rw [figs_big (by omega)]
      intro c hc
      rcases List.mem_append.mp hc with hc | hc
      · exact figs_all n (m / 10) (by omega) c hc
      · rw [List.mem_singleton] at hc
        have := Nat.mod_lt m (show 0 < 10 by decide)
        omega
theorem figs_len : ∀ (k m : Nat), m < 10 ^ (k + 1) → (figs m).length ≤ k + 1
  | 0, m, h => by
    rw [figs_small (by simpa using h)]
    simp
  | k + 1, m, h => by
    by_cases q : m < 10
    · rw [figs_small q]
      simp
    · rw [figs_big (by omega), List.length_append]
      have := figs_len k (m / 10) (by rw [Nat.div_lt_iff_lt_mul (by decide)]; rw [Nat.pow_succ] at h; omega)
      simp only [List.length_singleton]
      omega
theorem figs_ne (m : Nat) : figs m ≠ [] := by
  by_cases q : m < 10
  · rw [figs_small q]
    simp
  · rw [figs_big (by omega)]
    simp
theorem figs_head : ∀ (n m : Nat), m < n → 0 < m → (figs m).head? ≠ some 48
  | 0, _, h, _ => by omega
  | n + 1, m, h, h0 => by
    by_cases q : m < 10
    · rw [figs_small q]
      simp
      omega
    · rw [figs_big (by omega), List.head?_append]
      have := figs_head n (m / 10) (by omega) (by omega)
      cases e : (figs (m / 10)).head? with
      | none => exact absurd (List.head?_eq_none_iff.mp e) (figs_ne _)
      | some c =>
        rw [e] at this
        simpa using this
theorem figs_val (m : Nat) : NumText.digitsVal (figs m) = m := PySem.W.KIN.val_back m
theorem figs_45 (m : Nat) : (figs m).head? ≠ some 45 := fun z => by
  have h : 45 ∈ figs m := List.mem_of_mem_head? z
  have := figs_all (m + 1) m (by omega) 45 h
  omega
theorem map_back : ∀ {l : List Nat}, (∀ c ∈ l, 48 ≤ c ∧ c ≤ 57) → (l.map Char.ofNat).map Char.toNat = l
  | [], _ => rfl
  | c :: l, h => by
    have hc := h c List.mem_cons_self
    have e : (Char.ofNat c).toNat = c := by
      have : ∀ d : Nat, d < 58 → (Char.ofNat d).toNat = d := by decide
      exact this c (by omega)
    rw [List.map_cons, List.map_cons, e, map_back fun d hd => h d (List.mem_cons_of_mem _ hd)]
theorem figs_of {ds : List Nat} (h0 : ds ≠ []) (h : ∀ c ∈ ds, 48 ≤ c ∧ c ≤ 57) (hz : ds.head? ≠ some 48 ∨ ds = [48]) : figs (NumText.digitsVal ds) = ds := by
  unfold figs
  have hl : ds.length = (ds.length - 1) + 1 := by
    have := List.length_pos_iff.mpr h0
    omega
  rw [NumText.toDigits_digitsVal (ds.length - 1) ds hl h ?_, map_back h]
  rcases hz with hz | hz
  · right
    cases ds with
    | nil => exact absurd rfl h0
    | cons c r =>
      have hc := h c List.mem_cons_self
      have : c ≠ 48 := fun e => hz (by rw [e]; rfl)
      exact ⟨c, r, rfl, by omega⟩
  · left
    rw [hz]
    rfl
theorem intL_dstr {n : Int} (h : n.natAbs < 10 ^ 30) : intL (cs (dstr n)) = some n := by
  rcases (show n < 0 ∨ 0 ≤ n by omega) with hn | hn
  · obtain ⟨m, rfl⟩ : ∃ m : Nat, n = -(m : Int) := ⟨n.natAbs, by omega⟩
    have hm : 0 < m := by omega
    have hb : m < 10 ^ 30 := by
      rw [Int.natAbs_neg, Int.natAbs_natCast] at h
      exact h
    rw [cs_neg m hm]
    show intL (45 :: figs m) = _
    unfold intL
    have h1 : (figs m).length ≠ 0 := fun z => figs_ne m (List.length_eq_zero_iff.mp z)
    have h2 := figs_len 29 m hb
    have h3 : ∀ c ∈ figs m, 48 ≤ c ∧ c ≤ 57 := figs_all (m + 1) m (by omega)
    have h4 := figs_head (m + 1) m (by omega) hm
    simp only [List.head?_cons, List.tail_cons, if_true]
    rw [if_neg (by intro z; rcases z with z | z | z; exact h1 z; omega; exact z h3), if_neg (fun z => h4 z.1), figs_val]
  · obtain ⟨m, rfl⟩ := Int.eq_ofNat_of_zero_le hn
    have hb : m < 10 ^ 30 := by simpa using h
    rw [cs_nat m]
    show intL (figs m) = _
    unfold intL
    have h1 : (figs m).length ≠ 0 := fun z => figs_ne m (List.length_eq_zero_iff.mp z)
    have h2 := figs_len 29 m hb
    have h3 : ∀ c ∈ figs m, 48 ≤ c ∧ c ≤ 57 := figs_all (m + 1) m (by omega)
    simp only [figs_45, if_false]
    rw [if_neg (by intro z; rcases z with z | z | z; exact h1 z; omega; exact z h3), figs_val]
    by_cases h0 : m = 0
    · subst h0
      rw [if_neg (fun z => z.2 (figs_small (by decide)))]
    · rw [if_neg (fun z => figs_head (m + 1) m (by omega) (by omega) z.1)]
theorem dstr_intL {l : List Nat} {n : Int} (h : intL l = some n) : cs (dstr n) = l := by
  unfold intL at h
  by_cases h45 : l.head? = some 45
  · simp only [h45, if_true] at h
    split at h
    · cases h
    · rename_i q
      split at h
      · cases h
      · rename_i q2
        cases h
        have h0 : l.tail ≠ [] := fun z => q (.inl (by rw [z]; rfl))
        have h3 : ∀ c ∈ l.tail, 48 ≤ c ∧ c ≤ 57 := Classical.byContradiction fun z => q (.inr (.inr z))
        have hh : l.tail.head? ≠ some 48 := fun z => q2 ⟨z, fun e => by rw [e] at h45; cases h45⟩
        have e := figs_of h0 h3 (.inl hh)
        have hp : 0 < NumText.digitsVal l.tail := by
          cases hl : l.tail with
          | nil => exact absurd hl h0
          | cons c r =>
            have hc := h3 c (by rw [hl]; exact List.mem_cons_self)
            refine NumText.digitsVal_pos ?_
            have : c ≠ 48 := fun e => hh (by rw [hl, e]; rfl)
            omega
        rw [cs_neg _ hp]
        show 45 :: figs _ = l
        rw [e]
        cases l with
        | nil => cases h45
        | cons c r =>
          cases h45
          rfl
  · simp only [h45, if_false] at h
    split at h
    · cases h
    · rename_i q
      split at h
      · cases h
      · rename_i q2
        cases h
        have h0 : l ≠ [] := fun z => q (.inl (by rw [z]; rfl))
        have h3 : ∀ c ∈ l, 48 ≤ c ∧ c ≤ 57 := Classical.byContradiction fun z => q (.inr (.inr z))
        rw [cs_nat]
        refine figs_of h0 h3 ?_
        by_cases e : l = [48]
        · exact .inr e
        · exact .inl fun z => q2 ⟨z, e⟩
/-- .. bounds -/
theorem intL_bound {l : List Nat} {n : Int} (h : intL l = some n) : l.length ≤ 31 ∧ ∀ c ∈ l, c = 45 ∨ (48 ≤ c ∧ c ≤ 57) := by
  unfold intL at h
  by_cases h45 : l.head? = some 45
  · simp only [h45, if_true] at h
    split at h
    · cases h
    · rename_i q
      cases l with
      | nil => cases h45
      | cons c r =>
        cases h45
        refine ⟨?_, fun d hd => ?_⟩
        · have : ¬ 30 < r.length := fun z => q (.inr (.inl z))
          rw [List.length_cons]
          omega
        · rcases List.mem_cons.mp hd with rfl | hd
          · exact .inl rfl
          · exact .inr ((Classical.byContradiction fun z => q (.inr (.inr z)) : ∀ c ∈ r, 48 ≤ c ∧ c ≤ 57) d hd)
  · simp only [h45, if_false] at h
    split at h
    · cases h
    · rename_i q
      refine ⟨?_, fun d hd => .inr ((Classical.byContradiction fun z => q (.inr (.inr z)) : ∀ c ∈ l, 48 ≤ c ∧ c ≤ 57) d hd)⟩
      have : ¬ 30 < l.length := fun z => q (.inr (.inl z))
      omega
end FN
set_option Elab.async false
set_option linter.all false
set_option maxRecDepth 100000
set_option maxHeartbeats 4000000
/-! FN19: plain data in mirrors (no program). -/
namespace FN
open PySem PySem.Spec PyProof.Rows L2
open PySem.PyData (eqv eqvAll strOk)
@[simp] theorem eqv_nn : eqv .none .none = true := by unfold eqv; rfl
@[simp] theorem eqv_ii (i j : Int) : eqv (.int i) (.int j) = decide (i = j) := by unfold eqv; rfl
@[simp] theorem eqv_bb (i j : Bool) : eqv (.bool i) (.bool j) = (i == j) := by unfold eqv; rfl
@[simp] theorem eqv_ss (i j : Str) : eqv (.str i) (.str j) = decide (i = j) := by unfold eqv; by_cases h : i = j <;> simp [h]
@[simp] theorem eqv_ll (i j : List D) : eqv (.list i) (.list j) = eqvAll i j := by rw [eqv]
@[simp] theorem eqv_tt (i j : List D) : eqv (.tuple i) (.tuple j) = eqvAll i j := by rw [eqv]
@[simp] theorem eqv_in (i : Int) : eqv (.int i) .none = false := by unfold eqv; rfl
@[simp] theorem eqv_tn (i : List D) : eqv (.tuple i) .none = false := by unfold eqv; rfl
@[simp] theorem eqv_ln (i : List D) : eqv (.list i) .none = false := by unfold eqv; rfl
@[simp] theorem eqv_sn (i : Str) : eqv (.str i) .none = false := by unfold eqv; rfl
@[simp] theorem eqv_bn (i : Bool) : eqv (.bool i) .none = false := by unfold eqv; rfl
@[simp] theorem eqv_xn (d : D) : eqv d .none = isNone d := by cases d <;> simp [isNone] <;> (unfold eqv; rfl)
@[simp] theorem eqvA_nn : eqvAll [] [] = true := by rw [eqvAll]
@[simp] theorem eqvA_cc (x y : D) (xs ys : List D) : eqvAll (x :: xs) (y :: ys) = (eqv x y && eqvAll xs ys) := by rw [eqvAll]
@[simp] theorem eqvA_nc (y : D) (ys : List D) : eqvAll [] (y :: ys) = false := by rw [eqvAll]
@[simp] theorem eqvA_cn (x : D) (xs : List D) : eqvAll (x :: xs) [] = false := by rw [eqvAll]
/-- data of the depth n at most, its texts in order -/
def okD : Nat → D → Bool
  | _, .none => true
  | _, .bool _ => true
  | _, .int _ => true
  | _, .str x => strOk x
  | n + 1, .list ds => ds.all (okD n)
  | n + 1, .tuple ds => ds.all (okD n)
  | _, _ => false
theorem okD_all {n : Nat} (h : ∀ d, okD n d = true → d.canLay0 = true ∧ d.depth ≤ n) : ∀ ds : List D, ds.all (okD n) = true → PyData.canLayAll0 ds = true ∧ PyData.depthAll ds ≤ n
  | [], _ => ⟨by rw [PyData.canLayAll0], by rw [PyData.depthAll]; omega⟩
  | d :: ds, z => by
    rw [List.all_cons, Bool.and_eq_true] at z
    have a := h d z.1
    have b := okD_all h ds z.2
    exact ⟨by rw [PyData.canLayAll0, a.1, b.1]; rfl, by rw [PyData.depthAll]; omega⟩
theorem okD_lay : ∀ (n : Nat) (d : D), okD n d = true → d.canLay0 = true ∧ d.depth ≤ n
  | n, .none, _ => ⟨by rw [PyData.canLay0], by rw [PyData.depth]; omega⟩
  | n, .bool _, _ => ⟨by rw [PyData.canLay0], by rw [PyData.depth]; omega⟩
  | n, .int _, _ => ⟨by rw [PyData.canLay0], by rw [PyData.depth]; omega⟩
  | n, .str x, h => ⟨by rw [PyData.canLay0]; unfold okD at h; exact h, by rw [PyData.depth]; omega⟩
  | n + 1, .list ds, h => by
    unfold okD at h
    have := okD_all (okD_lay n) ds h
    exact ⟨by rw [PyData.canLay0]; exact this.1, by rw [PyData.depth]; omega⟩
  | n + 1, .tuple ds, h => by
    unfold okD at h
    have := okD_all (okD_lay n) ds h
    exact ⟨by rw [PyData.canLay0]; exact this.1, by rw [PyData.depth]; omega⟩
  | 0, .list ds, h => by unfold okD at h; cases h
  | 0, .tuple ds, h => by unfold okD at h; cases h
  | n, .dict _, h => by unfold okD at h; cases h
theorem shaped_ok {n : Nat} {d : D} (h : okD n d = true) (hn : n ≤ 64 := by omega) : SeqAt.shaped d = true := by
  have := okD_lay n d h
  unfold SeqAt.shaped
  rw [this.1, Bool.true_and]
  exact decide_eq_true (by omega)
@[simp] theorem shaped_i (i : Int) : SeqAt.shaped (.int i) = true := shaped_ok (n := 0) (by unfold okD; rfl)
@[simp] theorem shaped_b (i : Bool) : SeqAt.shaped (.bool i) = true := shaped_ok (n := 0) (by unfold okD; rfl)
@[simp] theorem shaped_n : SeqAt.shaped .none = true := shaped_ok (n := 0) (by unfold okD; rfl)
theorem shaped_s {x : Str} (h : strOk x = true) : SeqAt.shaped (.str x) = true := shaped_ok (n := 0) (by unfold okD; exact h)
@[simp] theorem dEq_ii (i j : Int) : dEq (.int i) (.int j) = some (.bool (decide (i = j))) := by simp [dEq]
@[simp] theorem dNe_ii (i j : Int) : dNe (.int i) (.int j) = some (.bool (!decide (i = j))) := by simp [dNe]
@[simp] theorem dNe_bb (i j : Bool) : dNe (.bool i) (.bool j) = some (.bool (!(i == j))) := by simp [dNe]
@[simp] theorem dEq_bb (i j : Bool) : dEq (.bool i) (.bool j) = some (.bool (i == j)) := by simp [dEq]
theorem dEq_ss {x y : Str} (hx : strOk x = true) (hy : strOk y = true) : dEq (.str x) (.str y) = some (.bool (decide (x = y))) := by simp [dEq, shaped_s hx, shaped_s hy]
theorem dNe_ss {x y : Str} (hx : strOk x = true) (hy : strOk y = true) : dNe (.str x) (.str y) = some (.bool (!decide (x = y))) := by simp [dNe, shaped_s hx, shaped_s hy]
@[simp] theorem bools_map {α : Type} (q : α → Bool) : ∀ l : List α, bools? (l.map fun x => .bool (q x)) = some (l.map q)
  | [] => rfl
  | x :: l => by
    rw [List.map_cons]
    unfold bools?
    rw [bools_map q l]
    rfl
@[simp] theorem dAll_map {α : Type} (q : α → Bool) (l : List α) : dAll (.list (l.map fun x => .bool (q x))) = some (.bool (l.all q)) := by
  simp [dAll]
@[simp] theorem strs_map {α : Type} (q : α → Str) : ∀ l : List α, strsOf (l.map fun x => .str (q x)) = some (l.map q)
  | [] => rfl
  | x :: l => by
    rw [List.map_cons]
    unfold strsOf
    rw [strs_map q l]
    rfl
@[simp] theorem strs_str (l : List Str) : strsOf (l.map .str) = some l := by
  have := strs_map (fun x => x) l
  simpa using this
@[simp] theorem ints_int : ∀ l : List Int, intsOf (l.map .int) = some l
  | [] => rfl
  | x :: l => by
    rw [List.map_cons]
    unfold intsOf
    rw [ints_int l]
    rfl
theorem dJoin_list {α : Type} {s : Str} {q : α → Str} {l : List α} (h : ((l.map q).map (·.length)).sum + (l.map q).length * s.length ≤ 16777216) : dJoin s (.list (l.map fun x => .str (q x))) = some (.str (Txt.join s (l.map q))) := by
  unfold dJoin
  simp only [strs_map]
  exact if_pos h
theorem atI_nat {α : Type} (xs : List α) (n : Nat) : atI xs (n : Int) = xs[n]? := by
  unfold atI ixN
  rw [if_pos (by omega)]
  by_cases h : n < xs.length
  · rw [if_pos (by omega)]
    simp
  · rw [if_neg (by omega)]
    rw [List.getElem?_eq_none (by omega)]
    rfl
@[simp] theorem atI_0 {α : Type} (xs : List α) : atI xs 0 = xs.head? := by
  have := atI_nat xs 0
  rw [show ((0 : Nat) : Int) = 0 from rfl] at this
  rw [this]
  cases xs <;> rfl
@[simp] theorem atI_1 {α : Type} (xs : List α) : atI xs 1 = xs[1]? := atI_nat xs 1
@[simp] theorem atI_2 {α : Type} (xs : List α) : atI xs 2 = xs[2]? := atI_nat xs 2
/-- a comprehension over one plain name -/
theorem lc_pure {i : Nat} {fi : M (List D)} {fe : M D} {ρ ρ1 : Env} {ds : List D} {F : D → D} (hi : fi ρ = some (.ok ds ρ1)) (hl : ds.length ≤ sizeLine) (h : ∀ d ∈ ds, fe ((ρ1.set i none).set i (some d)) = some (.ok (F d) ((ρ1.set i none).set i (some d)))) : fLc [i] fi (gNm i) tYesF fe ρ = some (.ok (.list (ds.map F)) (ρ1.set i none)) := by
  rw [u_fLc, hi]
  simp only [u_ok]
  rw [compL_pure (F := F) ds [] (by simpa using hl) h]
  simp
theorem lc_same {i : Nat} {fi : M (List D)} {fe : M D} {ρ : Env} {ds : List D} (F : D → D) (hl : ds.length ≤ sizeLine) (hi : fi ρ = some (.ok ds ρ)) (h : ∀ d ∈ ds, fe ((ρ.set i none).set i (some d)) = some (.ok (F d) ((ρ.set i none).set i (some d)))) : fLc [i] fi (gNm i) tYesF fe ρ = some (.ok (.list (ds.map F)) (ρ.set i none)) := lc_pure hi hl h
theorem compL_map {α : Type} {i : Nat} {fe : M D} {g : α → D} (F : α → D) : ∀ (xs : List α) (acc : List D) (ρ : Env), acc.length + xs.length ≤ sizeLine → (∀ d ∈ xs, fe ((ρ.set i none).set i (some (g d))) = some (.ok (F d) ((ρ.set i none).set i (some (g d))))) → compL [i] (gNm i) tYesF fe (xs.map g) acc ρ = some (.ok (acc ++ xs.map F) (ρ.set i none)) := by
  intro xs
  induction xs with
  | nil =>
    intro acc ρ _ _
    simp [compL, wipeE]
  | cons x xs ih =>
    intro acc ρ hl h
    have h1 := h x List.mem_cons_self
    have l1 : acc.length < sizeLine := by
      rw [List.length_cons] at hl
      omega
    rw [List.map_cons]
    unfold compL
    simp only [wipeE, u_gNm, u_tYes]
    rw [h1]
    simp only [l1, if_true]
    rw [List.set_set, List.set_set]
    rw [ih (acc ++ [F x]) (ρ.set i none) (by simp at hl ⊢; omega) (fun d' hd => by
      rw [List.set_set, List.set_set]
      have := h d' (List.mem_cons_of_mem _ hd)
      rw [List.set_set] at this
      exact this), List.set_set]
    simp
/-- the same, the elements the images of xs -/
theorem lc_map {α : Type} {i : Nat} {fi : M (List D)} {fe : M D} {ρ : Env} {xs : List α} {g : α → D} (F : α → D) (hl : xs.length ≤ sizeLine) (hi : fi ρ = some (.ok (xs.map g) ρ)) (h : ∀ d ∈ xs, fe ((ρ.set i none).set i (some (g d))) = some (.ok (F d) ((ρ.set i none).set i (some (g d))))) : fLc [i] fi (gNm i) tYesF fe ρ = some (.ok (.list (xs.map F)) (ρ.set i none)) := by
  rw [u_fLc, hi]
  simp only [u_ok]
  rw [compL_map F xs [] ρ (by simpa using hl) h]
  simp
theorem wipe2 {i j : Nat} (hij : i ≠ j) (ρ : Env) : wipeE ρ [i, j] = (ρ.set i none).set j none := by
  simp only [wipeE]
  exact List.set_comm _ _ (by omega)
theorem compL2_map {α β : Type} {i j : Nat} {fi1 : M (List D)} {fe : M D} {g : α → D} {g1 : β → D} {ys : α → List β} (F : α → β → D) (hij : i ≠ j) : ∀ (xs : List α) (acc : List D) (ρ : Env), acc.length + (xs.flatMap ys).length ≤ sizeLine → (∀ d ∈ xs, fi1 (((ρ.set i none).set j none).set i (some (g d))) = some (.ok ((ys d).map g1) (((ρ.set i none).set j none).set i (some (g d)))) ∧ ∀ e ∈ ys d, fe ((((ρ.set i none).set j none).set i (some (g d))).set j (some (g1 e))) = some (.ok (F d e) ((((ρ.set i none).set j none).set i (some (g d))).set j (some (g1 e))))) → compL2 [i, j] [j] (gNm i) tYesF fi1 (gNm j) tYesF fe (xs.map g) acc ρ = some (.ok (acc ++ xs.flatMap fun x => (ys x).map (F x)) ((ρ.set i none).set j none)) := by
  intro xs
  induction xs with
  | nil =>
    intro acc ρ _ _
    simp [compL2, wipe2 hij]
  | cons x xs ih =>
    intro acc ρ hl h
    obtain ⟨h1, h2⟩ := h x List.mem_cons_self
    rw [List.flatMap_cons, List.length_append] at hl
    rw [List.map_cons]
    unfold compL2
    simp only [wipe2 hij, u_gNm, u_tYes]
    rw [h1]
    have ex : ∀ v : Option D, ((((ρ.set i none).set j none).set i v).set j none) = ((ρ.set i none).set j none).set i v := fun v => by
      rw [List.set_comm _ _ (by omega : i ≠ j), List.set_set]
    simp only
    rw [compL_map (F x) (ys x) acc _ (by omega) (fun e he => by rw [ex]; exact h2 e he)]
    simp only
    have ey : ∀ v : Option D, ((((((ρ.set i none).set j none).set i v).set j none).set i none).set j none) = (ρ.set i none).set j none := fun v => by
      rw [ex, List.set_set, List.set_comm _ _ (by omega : j ≠ i), List.set_set, List.set_set]
    rw [ey]
    have ez : ((((ρ.set i none).set j none).set i none).set j none) = (ρ.set i none).set j none := by
      rw [List.set_comm _ _ (by omega : j ≠ i), List.set_set, List.set_set]
    rw [ih (acc ++ (ys x).map (F x)) ((ρ.set i none).set j none) (by rw [List.length_append, List.length_map]; omega) (fun d hd => by
      rw [ez]
      exact h d (List.mem_cons_of_mem _ hd)), ez, List.flatMap_cons, List.append_assoc]
theorem lc2_map {α β : Type} {i j : Nat} {fi fi1 : M (List D)} {fe : M D} {g : α → D} {g1 : β → D} {ys : α → List β} {xs : List α} {ρ : Env} (F : α → β → D) (hij : i ≠ j) (hl : (xs.flatMap ys).length ≤ sizeLine) (hi : fi ρ = some (.ok (xs.map g) ρ)) (h : ∀ d ∈ xs, fi1 (((ρ.set i none).set j none).set i (some (g d))) = some (.ok ((ys d).map g1) (((ρ.set i none).set j none).set i (some (g d)))) ∧ ∀ e ∈ ys d, fe ((((ρ.set i none).set j none).set i (some (g d))).set j (some (g1 e))) = some (.ok (F d e) ((((ρ.set i none).set j none).set i (some (g d))).set j (some (g1 e))))) : fLc2 [i, j] [j] fi (gNm i) tYesF fi1 (gNm j) tYesF fe ρ = some (.ok (.list (xs.flatMap fun x => (ys x).map (F x))) ((ρ.set i none).set j none)) := by
  show bnd (fi ρ) Out.err (fun ds ρ1 => bnd (compL2 [i, j] [j] (gNm i) tYesF fi1 (gNm j) tYesF fe ds [] ρ1) Out.err fun r ρ2 => some (Out.ok (PyData.list r) ρ2)) = _
  rw [hi]
  simp only [u_ok]
  rw [compL2_map F hij xs [] ρ (by simpa using hl) h]
  simp
/-! ### slices of texts -/
theorem cs_mk (l : List Nat) : cs ⟨l.toArray⟩ = l := by simp [cs]
theorem cs_cut (z : Str) (lo hi : Option Int) : cs (cutS z lo hi) = ((cs z).drop (HT.sIx z.length 0 lo)).take (HT.sIx z.length z.length hi - HT.sIx z.length 0 lo) := by
  unfold cutS
  rw [cs_mk]
theorem cs_to (z : Str) (n : Nat) : cs (cutS z none (some (n : Int))) = (cs z).take n := by
  rw [cs_cut, HT.sIx_none, HT.sIx_nat, ← cs_len]
  simp
theorem cs_from (z : Str) (n : Nat) : cs (cutS z (some (n : Int)) none) = (cs z).drop n := by
  rw [cs_cut, HT.sIx_none, HT.sIx_nat, ← cs_len]
  by_cases h : n ≤ (cs z).length
  · rw [Nat.min_eq_left h]
    exact List.take_of_length_le (by simp)
  · rw [Nat.min_eq_right (by omega), List.drop_eq_nil_of_le (Nat.le_refl _), List.drop_eq_nil_of_le (by omega), List.take_nil]
end FN
set_option Elab.async false
set_option linter.all false
set_option maxRecDepth 100000
set_option maxHeartbeats 4000000
/-! FT2: all or none; rows and tables of numbers as texts (no program). -/
namespace FN
open PySem PySem.Spec PyProof.Rows L2
open PySem.PyData (strOk)
section
variable {α β γ : Type}
def mapO (f : α → Option β) : List α → Option (List β)
  | [] => some []
  | a :: r => match f a with
    | none => none
    | some b => (mapO f r).map fun l => b :: l
theorem mapO_some {f : α → Option β} : ∀ {l : List α} {l' : List β}, mapO f l = some l' ↔ l.map f = l'.map some
  | [], l' => by
    cases l' <;> simp [mapO]
  | a :: r, l' => by
    unfold mapO
    cases h : f a with
    | none => cases l' <;> simp [h]
    | some b =>
      cases l' with
      | nil => simp [h]
      | cons c l' =>
        simp [h, Option.map_eq_some_iff]
        constructor
        · rintro ⟨z, e⟩
          exact ⟨e, mapO_some.mp z⟩
        · rintro ⟨e, z⟩
          exact ⟨mapO_some.mpr z, e⟩
theorem mapO_none {f : α → Option β} : ∀ {l : List α}, mapO f l = none ↔ l.any (fun a => (f a).isNone) = true
  | [] => by simp [mapO]
  | a :: r => by
    unfold mapO
    cases h : f a with
    | none => simp [h]
    | some b => simp only [List.any_cons, h, Option.isNone_some, Bool.false_or, Option.map_eq_none_iff]; exact mapO_none
theorem mapO_length {f : α → Option β} {l : List α} {l' : List β} (h : mapO f l = some l') : l'.length = l.length := by
  have := congrArg List.length (mapO_some.mp h)
  simpa using this.symm
theorem mapO_back {f : α → Option β} {g : β → α} (h : ∀ a b, f a = some b → g b = a) : ∀ {l : List α} {l' : List β}, mapO f l = some l' → l'.map g = l
  | [], l', z => by
    rw [mapO_some] at z
    cases l' with
    | nil => rfl
    | cons => simp at z
  | a :: r, l', z => by
    rw [mapO_some] at z
    cases l' with
    | nil => simp at z
    | cons b l' =>
      simp at z
      rw [List.map_cons, h a b z.1, mapO_back h (mapO_some.mpr (by simpa using z.2))]
theorem mapO_fore {f : α → Option β} {g : β → α} {l : List β} (h : ∀ b ∈ l, f (g b) = some b) : mapO f (l.map g) = some l := by
  rw [mapO_some, List.map_map]
  exact List.map_congr_left h
theorem mapO_mem {f : α → Option β} : ∀ {l : List α} {l' : List β}, mapO f l = some l' → ∀ b ∈ l', ∃ a ∈ l, f a = some b
  | [], l', z, b, hb => by
    rw [mapO_some] at z
    cases l' with
    | nil => cases hb
    | cons => simp at z
  | a :: r, l', z, b, hb => by
    rw [mapO_some] at z
    cases l' with
    | nil => cases hb
    | cons c l' =>
      simp at z
      rcases List.mem_cons.mp hb with rfl | hb
      · exact ⟨a, List.mem_cons_self, z.1⟩
      · obtain ⟨x, hx, e⟩ := mapO_mem (mapO_some.mpr (by simpa using z.2)) b hb
        exact ⟨x, List.mem_cons_of_mem _ hx, e⟩
end
/-! ### numbers as texts, once more -/
theorem val_lt0 : ∀ (ds : List Nat) (acc : Nat), (∀ c ∈ ds, 48 ≤ c ∧ c ≤ 57) → ds.foldl (fun acc c => acc * 10 + (c - 48)) acc < (acc + 1) * 10 ^ ds.length
  | [], acc, _ => by simp
  | c :: ds, acc, h => by
    have h1 := val_lt0 ds (acc * 10 + (c - 48)) fun d hd => h d (List.mem_cons_of_mem _ hd)
    have h2 := h c List.mem_cons_self
    rw [List.foldl_cons, List.length_cons, Nat.pow_succ]
    refine Nat.lt_of_lt_of_le h1 ?_
    rw [Nat.mul_comm (10 ^ ds.length) 10, ← Nat.mul_assoc]
    exact Nat.mul_le_mul_right _ (by omega)
theorem val_lt (ds : List Nat) (h : ∀ c ∈ ds, 48 ≤ c ∧ c ≤ 57) : NumText.digitsVal ds < 10 ^ ds.length := by
  have := val_lt0 ds 0 h
  rw [Nat.zero_add, Nat.one_mul] at this
  exact this
theorem intL_small {l : List Nat} {n : Int} (h : intL l = some n) : n.natAbs < 10 ^ 30 := by
  have key : ∀ ds : List Nat, ¬ (ds.length = 0 ∨ 30 < ds.length ∨ ¬ (∀ c ∈ ds, 48 ≤ c ∧ c ≤ 57)) → NumText.digitsVal ds < 10 ^ 30 := fun ds q => by
    have q2 : ¬ 30 < ds.length := fun z => q (.inr (.inl z))
    have q4 := val_lt _ (Classical.byContradiction fun z => q (.inr (.inr z)) : ∀ c ∈ ds, 48 ≤ c ∧ c ≤ 57)
    exact Nat.lt_of_lt_of_le q4 (Nat.pow_le_pow_right (by decide) (by omega))
  unfold intL at h
  by_cases h45 : l.head? = some 45
  · simp only [h45, if_true] at h
    by_cases q : l.tail.length = 0 ∨ 30 < l.tail.length ∨ ¬ (∀ c ∈ l.tail, 48 ≤ c ∧ c ≤ 57)
    · rw [if_pos q] at h
      cases h
    · rw [if_neg q] at h
      have k := key _ q
      by_cases q2 : l.tail.head? = some 48 ∧ l ≠ [48]
      · rw [if_pos q2] at h
        cases h
      · rw [if_neg q2] at h
        have e := Option.some.inj h
        omega
  · simp only [h45, if_false] at h
    by_cases q : l.length = 0 ∨ 30 < l.length ∨ ¬ (∀ c ∈ l, 48 ≤ c ∧ c ≤ 57)
    · rw [if_pos q] at h
      cases h
    · rw [if_neg q] at h
      have k := key _ q
      by_cases q2 : l.head? = some 48 ∧ l ≠ [48]
      · rw [if_pos q2] at h
        cases h
      · rw [if_neg q2] at h
        have e := Option.some.inj h
        omega
theorem log_small {n : Int} (h : n.natAbs < 10 ^ 30) : n.natAbs.log2 < 1920 := by
  by_cases h0 : n.natAbs = 0
  · rw [h0]; decide
  · rw [Nat.log2_lt h0]
    exact Nat.lt_of_lt_of_le h (by decide +kernel)
theorem dstr_bound {n : Int} (h : n.natAbs < 10 ^ 30) : (cs (dstr n)).length ≤ 31 ∧ ∀ c ∈ cs (dstr n), c = 45 ∨ (48 ≤ c ∧ c ≤ 57) := intL_bound (intL_dstr h)
theorem strOk_of {x : Str} (h : ∀ c ∈ cs x, c < 0x110000) : strOk x = true := by
  unfold PyData.strOk
  rw [Array.all_eq_true']
  intro c hc
  exact decide_eq_true (h c (Array.mem_toList_iff.mpr hc))
theorem of_strOk {x : Str} (h : strOk x = true) : ∀ c ∈ cs x, c < 0x110000 := by
  unfold PyData.strOk at h
  rw [Array.all_eq_true'] at h
  intro c hc
  exact of_decide_eq_true (h c (Array.mem_toList_iff.mp hc))
/-! ### words: numbers, and '-' -/
def wS : Option Int → Str
  | none => "-"
  | some i => dstr i
def Sm : Option Int → Prop
  | none => True
  | some i => i.natAbs < 10 ^ 30
/-- a word's meaning; '-' only where b lets it -/
def itm (b : Bool) (w : Str) : Option (Option Int) := if b = true ∧ cs w = [45] then some none else (intL (cs w)).map some
theorem cs_dash : cs ("-" : Str) = [45] := by decide +kernel
theorem itm_back {b : Bool} {w : Str} {o : Option Int} (h : itm b w = some o) : wS o = w := by
  unfold itm at h
  split at h
  · rename_i z
    cases h
    exact str_ext (by rw [z.2]; exact cs_dash)
  · rw [Option.map_eq_some_iff] at h
    obtain ⟨i, e, rfl⟩ := h
    exact str_ext (dstr_intL e)
theorem itm_sm {b : Bool} {w : Str} {o : Option Int} (h : itm b w = some o) : Sm o ∧ (b = false → o.isSome = true) := by
  unfold itm at h
  split at h
  · rename_i z
    cases h
    exact ⟨True.intro, fun q => by rw [q] at z; cases z.1⟩
  · rw [Option.map_eq_some_iff] at h
    obtain ⟨i, e, rfl⟩ := h
    exact ⟨intL_small e, fun _ => rfl⟩
theorem intL_dash : intL [45] = none := by decide +kernel
theorem itm_fore {b : Bool} {o : Option Int} (h : Sm o) (hb : b = false → o.isSome = true) : itm b (wS o) = some o := by
  unfold itm
  cases o with
  | none =>
    cases b with
    | true => rw [if_pos ⟨rfl, cs_dash⟩]
    | false => cases hb rfl
  | some i =>
    have e := intL_dstr (show i.natAbs < 10 ^ 30 from h)
    show (if b = true ∧ cs (dstr i) = [45] then _ else _) = _
    rw [if_neg]
    · show Option.map some (intL (cs (dstr i))) = _
      rw [e]
      rfl
    · intro z
      rw [z.2, intL_dash] at e
      cases e
theorem wS_bound {o : Option Int} (h : Sm o) : (cs (wS o)).length ≤ 31 ∧ ∀ c ∈ cs (wS o), c = 45 ∨ (48 ≤ c ∧ c ≤ 57) := by
  cases o with
  | none =>
    show (cs ("-" : Str)).length ≤ 31 ∧ _
    rw [show cs (wS none) = [45] from cs_dash, cs_dash]
    exact ⟨by decide, fun c hc => .inl (by simpa using hc)⟩
  | some i => exact dstr_bound h
/-! ### rows -/
abbrev sp1 : Str := " "
abbrev sp3 : Str := " ; "
abbrev bar3 : Str := " | "
theorem cs_sp1 : cs sp1 = [32] := by decide +kernel
theorem cs_sp3 : cs sp3 = [32, 59, 32] := by decide +kernel
theorem cs_bar3 : cs bar3 = [32, 124, 32] := by decide +kernel
theorem mark1 : Mark (cs sp1) 32 0 := by rw [cs_sp1]; exact ⟨rfl, by decide⟩
theorem mark3 : Mark (cs sp3) 59 1 := by rw [cs_sp3]; exact ⟨rfl, by decide⟩
theorem markb : Mark (cs bar3) 124 1 := by rw [cs_bar3]; exact ⟨rfl, by decide⟩
theorem kind1 : Builtin.Str.strKind sp1 = 1 := by decide +kernel
theorem kind3 : Builtin.Str.strKind sp3 = 1 := by decide +kernel
theorem kindb : Builtin.Str.strKind bar3 = 1 := by decide +kernel
theorem len1 : sp1.length = 1 := by decide +kernel
theorem len3 : sp3.length = 3 := by decide +kernel
theorem lenb : bar3.length = 3 := by decide +kernel
def rowS (l : List (Option Int)) : Str := Txt.join sp1 (l.map wS)
def tabS (l : List (List (Option Int))) : Str := Txt.join sp3 (l.map rowS)
def rowP (b : Bool) (x : Str) : Option (List (Option Int)) := mapO (itm b) (Txt.split x sp1)
def tabP (b : Bool) (x : Str) : Option (List (List (Option Int))) := mapO (rowP b) (Txt.split x sp3)
theorem rowP_back {b : Bool} {x : Str} {l : List (Option Int)} (h : rowP b x = some l) : rowS l = x := by
  unfold rowS
  rw [mapO_back (fun _ _ => itm_back) h, join_split]
theorem rowP_ne {b : Bool} {x : Str} {l : List (Option Int)} (h : rowP b x = some l) : l ≠ [] := fun z => by
  have := mapO_length h
  rw [z] at this
  exact split_ne x sp1 kind1 (by rw [len1]; decide) (List.length_eq_zero_iff.mp this.symm)
theorem rowP_sm {b : Bool} {x : Str} {l : List (Option Int)} (h : rowP b x = some l) : ∀ o ∈ l, Sm o ∧ (b = false → o.isSome = true) := fun o ho => by
  obtain ⟨w, _, e⟩ := mapO_mem h o ho
  exact itm_sm e
theorem rowP_fore {b : Bool} {l : List (Option Int)} (hl : l ≠ []) (h : ∀ o ∈ l, Sm o ∧ (b = false → o.isSome = true)) : rowP b (rowS l) = some l := by
  unfold rowP rowS
  rw [split_join mark1 kind1 (by simpa using hl)]
  · exact mapO_fore fun o ho => itm_fore (h o ho).1 (h o ho).2
  · intro p hp
    obtain ⟨o, ho, rfl⟩ := List.mem_map.mp hp
    intro z
    rcases (wS_bound (h o ho).1).2 32 z with q | q <;> omega
theorem tabP_back {b : Bool} {x : Str} {l : List (List (Option Int))} (h : tabP b x = some l) : tabS l = x := by
  unfold tabS
  rw [mapO_back (fun _ _ => rowP_back) h, join_split]
theorem tabP_ne {b : Bool} {x : Str} {l : List (List (Option Int))} (h : tabP b x = some l) : l ≠ [] := fun z => by
  have := mapO_length h
  rw [z] at this
  exact split_ne x sp3 kind3 (by rw [len3]; decide) (List.length_eq_zero_iff.mp this.symm)
/-- the signs of a row's text -/
theorem rowS_cs {l : List (Option Int)} (h : ∀ o ∈ l, Sm o) : ∀ c ∈ cs (rowS l), c = 32 ∨ c = 45 ∨ (48 ≤ c ∧ c ≤ 57) := by
  unfold rowS
  rw [cs_join, cs_sp1]
  induction l with
  | nil => intro c hc; simp [jn] at hc
  | cons o l ih =>
    intro c hc
    cases l with
    | nil =>
      exact .inr ((wS_bound (h o List.mem_cons_self)).2 c (by simpa [jn] using hc))
    | cons o2 l =>
      simp only [List.map_cons] at hc ih
      unfold jn at hc
      rcases List.mem_append.mp hc with hc | hc
      · exact .inr ((wS_bound (h o List.mem_cons_self)).2 c hc)
      · rcases List.mem_append.mp hc with hc | hc
        · exact .inl (by simpa using hc)
        · exact ih (fun o ho => h o (List.mem_cons_of_mem _ ho)) c hc
theorem tabP_fore {b : Bool} {l : List (List (Option Int))} (hl : l ≠ []) (h : ∀ r ∈ l, r ≠ [] ∧ ∀ o ∈ r, Sm o ∧ (b = false → o.isSome = true)) : tabP b (tabS l) = some l := by
  unfold tabP tabS
  rw [split_join mark3 kind3 (by simpa using hl)]
  · exact mapO_fore fun o ho => rowP_fore (h o ho).1 (h o ho).2
  · intro p hp
    obtain ⟨o, ho, rfl⟩ := List.mem_map.mp hp
    intro z
    rcases rowS_cs (fun q hq => ((h o ho).2 q hq).1) 59 z with q | q | q <;> omega
/-! ### lengths -/
theorem jn_len (s : List Nat) : ∀ ps : List (List Nat), ps ≠ [] → (jn s ps).length + s.length = (ps.map (·.length)).sum + ps.length * s.length
  | [], h => absurd rfl h
  | [p], _ => by simp [jn]
  | p :: q :: ps, _ => by
    have ih := jn_len s (q :: ps) (by simp)
    unfold jn
    rw [List.length_append, List.length_append, List.map_cons, List.sum_cons, List.length_cons, Nat.succ_mul]
    omega
theorem join_len (s : Str) (ps : List Str) (h : ps ≠ []) : (Txt.join s ps).length + s.length = (ps.map (·.length)).sum + ps.length * s.length := by
  have := jn_len (cs s) (ps.map cs) (by simpa using h)
  rw [← cs_join, List.length_map, List.map_map, cs_len, cs_len] at this
  rw [this]
  congr 2
theorem dJoin_txt {α : Type} {s : Str} {q : α → Str} {l : List α} (h : (Txt.join s (l.map q)).length ≤ 1000000) (hs : s.length ≤ 1000) : dJoin s (.list (l.map fun x => .str (q x))) = some (.str (Txt.join s (l.map q))) := by
  refine dJoin_list ?_
  by_cases e : l.map q = []
  · rw [e]
    simp
  · have := join_len s (l.map q) e
    omega
theorem split_len (x s : Str) (hk : Builtin.Str.strKind s = 1) (hw : 1 ≤ s.length) : (Txt.split x s).length ≤ x.length + 1 := by
  have e := join_len s (Txt.split x s) (split_ne x s hk hw)
  rw [join_split] at e
  have h1 : (Txt.split x s).length - 1 ≤ ((Txt.split x s).length - 1) * s.length := Nat.le_mul_of_pos_right _ hw
  have h2 : ((Txt.split x s).length - 1) * s.length + s.length = (Txt.split x s).length * s.length := by
    have : 0 < (Txt.split x s).length := List.length_pos_iff.mpr (split_ne x s hk hw)
    rw [← Nat.succ_mul]
    congr 1
    omega
  omega
theorem mem_sum {l : List Nat} {n : Nat} (h : n ∈ l) : n ≤ l.sum := by
  induction l with
  | nil => cases h
  | cons a l ih =>
    rw [List.sum_cons]
    rcases List.mem_cons.mp h with rfl | h
    · omega
    · have := ih h
      omega
theorem join_piece {s p : Str} {ps : List Str} (h : p ∈ ps) : p.length ≤ (Txt.join s ps).length := by
  have e := join_len s ps (List.ne_nil_of_mem h)
  have h1 : p.length ≤ (ps.map (·.length)).sum := mem_sum (List.mem_map.mpr ⟨p, h, rfl⟩)
  have h2 : s.length ≤ ps.length * s.length := Nat.le_mul_of_pos_left _ (List.length_pos_of_mem h)
  have h3 : (Txt.split (Txt.join s ps) s).length = (Txt.split (Txt.join s ps) s).length := rfl
  obtain ⟨n, hn⟩ : ∃ n, ps.length = n + 1 := ⟨ps.length - 1, by have := List.length_pos_of_mem h; omega⟩
  rw [hn, Nat.succ_mul] at e
  omega
theorem sum_le {l : List Nat} {n : Nat} (h : ∀ a ∈ l, a ≤ n) : l.sum ≤ l.length * n := by
  induction l with
  | nil => simp
  | cons a l ih =>
    rw [List.sum_cons, List.length_cons, Nat.succ_mul]
    have := h a List.mem_cons_self
    have := ih fun b hb => h b (List.mem_cons_of_mem _ hb)
    omega
theorem join_le {s : Str} {ps : List Str} {n : Nat} (h : ∀ p ∈ ps, p.length ≤ n) : (Txt.join s ps).length ≤ ps.length * (n + s.length) := by
  by_cases e : ps = []
  · subst e
    have : cs (Txt.join s []) = [] := by rw [cs_join]; rfl
    rw [← cs_len, this]
    simp
  · have q := join_len s ps e
    have h1 : (ps.map (·.length)).sum ≤ (ps.map (·.length)).length * n := sum_le fun a ha => by
      obtain ⟨p, hp, rfl⟩ := List.mem_map.mp ha
      exact h p hp
    rw [List.length_map] at h1
    rw [Nat.mul_add]
    omega
theorem rowS_le {l : List (Option Int)} (h : ∀ o ∈ l, Sm o) : (rowS l).length ≤ l.length * 32 := by
  unfold rowS
  have := join_le (s := sp1) (ps := l.map wS) (n := 31) fun p hp => by
    obtain ⟨o, ho, rfl⟩ := List.mem_map.mp hp
    rw [← cs_len]
    exact (wS_bound (h o ho)).1
  rw [len1, List.length_map] at this
  exact this
end FN
set_option Elab.async false
set_option linter.all false
set_option maxRecDepth 100000
set_option maxHeartbeats 4000000
/-! FN20: loops and comprehensions by invariants; the bag that laws draw from (no program). -/
namespace FN
open PySem PySem.Spec PyProof.Rows L2
open PySem.PyData (eqv eqvAll strOk)
/-! ### invariants -/
/-- a comprehension over one plain name, G at each turn (slot i is free in it), P of each element -/
theorem compL_inv {i : Nat} {fe : M D} (G : Nat → Env → Prop) (P : D → Prop) : ∀ (ds acc : List D) (n : Nat) (ρ : Env), acc.length + ds.length ≤ sizeLine → G n (ρ.set i none) → (∀ k d ρ, ds[k]? = some d → G (n + k) ρ → ∃ v ρ', fe (ρ.set i (some d)) = some (.ok v ρ') ∧ P v ∧ G (n + k + 1) (ρ'.set i none)) → ∃ vs ρ', compL [i] (gNm i) tYesF fe ds acc ρ = some (.ok (acc ++ vs) ρ') ∧ vs.length = ds.length ∧ (∀ v ∈ vs, P v) ∧ G (n + ds.length) ρ'
  | [], acc, n, ρ, _, hG, _ => ⟨[], ρ.set i none, by simp [compL, wipeE], rfl, fun _ z => by simp at z, by simpa using hG⟩
  | d :: ds, acc, n, ρ, hl, hG, h => by
    obtain ⟨v, ρ', e, p, g⟩ := h 0 d (ρ.set i none) rfl (by simpa using hG)
    have l1 : acc.length < sizeLine := by
      rw [List.length_cons] at hl
      omega
    obtain ⟨vs, ρ2, e2, l2, p2, g2⟩ := compL_inv (i := i) (fe := fe) G P ds (acc ++ [v]) (n + 1) (ρ'.set i none) (by simp at hl ⊢; omega) (by rw [List.set_set]; simpa using g) (fun k d' ρ3 hk hg => by
      have := h (k + 1) d' ρ3 (by simpa using hk) (by rw [show n + (k + 1) = n + 1 + k by omega]; exact hg)
      rw [show n + (k + 1) + 1 = n + 1 + k + 1 by omega] at this
      exact this)
    refine ⟨v :: vs, ρ2, ?_, by simp [l2], ?_, by rw [List.length_cons, show n + (ds.length + 1) = n + 1 + ds.length by omega]; exact g2⟩
    · unfold compL
      simp only [wipeE, u_gNm, u_tYes]
      rw [e]
      simp only [l1, if_true]
      rw [e2]
      simp
    · intro x hx
      rcases List.mem_cons.mp hx with rfl | hx
      · exact p
      · exact p2 x hx
theorem lc_inv {i : Nat} {fi : M (List D)} {fe : M D} {ρ ρ1 : Env} {ds : List D} (G : Nat → Env → Prop) (P : D → Prop) (hl : ds.length ≤ sizeLine) (hi : fi ρ = some (.ok ds ρ1)) (h0 : G 0 (ρ1.set i none)) (h : ∀ k d ρ, ds[k]? = some d → G k ρ → ∃ v ρ', fe (ρ.set i (some d)) = some (.ok v ρ') ∧ P v ∧ G (k + 1) (ρ'.set i none)) : ∃ vs ρ', fLc [i] fi (gNm i) tYesF fe ρ = some (.ok (.list vs) ρ') ∧ vs.length = ds.length ∧ (∀ v ∈ vs, P v) ∧ G ds.length ρ' := by
  obtain ⟨vs, ρ', e, l, p, g⟩ := compL_inv (i := i) (fe := fe) G P ds [] 0 ρ1 (by simpa using hl) h0 (fun k d ρ hk hg => by
    rw [Nat.zero_add] at hg ⊢
    exact h k d ρ hk hg)
  refine ⟨vs, ρ', ?_, l, p, by simpa using g⟩
  rw [u_fLc, hi]
  simp only [u_ok]
  rw [e]
  simp
/-- a for loop without break, return -/
theorem forL_inv {ft : D → Env → Option Env} {f : Env → Option Fl} (G : Nat → Env → Prop) : ∀ (ds : List D) (n : Nat) (ρ : Env), G n ρ → (∀ k d ρ, ds[k]? = some d → G (n + k) ρ → ∃ ρ1 ρ2, ft d ρ = some ρ1 ∧ (f ρ1 = some (.nx ρ2) ∨ f ρ1 = some (.ct ρ2)) ∧ G (n + k + 1) ρ2) → ∃ ρ', forL ft f ds ρ = some (.nx ρ') ∧ G (n + ds.length) ρ'
  | [], n, ρ, hG, _ => ⟨ρ, rfl, hG⟩
  | d :: ds, n, ρ, hG, h => by
    obtain ⟨ρ1, ρ2, e1, e2, g⟩ := h 0 d ρ rfl hG
    obtain ⟨ρ', e3, g3⟩ := forL_inv (ft := ft) (f := f) G ds (n + 1) ρ2 g (fun k d' ρ3 hk hg => by
      have := h (k + 1) d' ρ3 (by simpa using hk) (by rw [show n + (k + 1) = n + 1 + k by omega]; exact hg)
      rw [show n + (k + 1) + 1 = n + 1 + k + 1 by omega] at this
      exact this)
    refine ⟨ρ', ?_, by rw [List.length_cons, show n + (ds.length + 1) = n + 1 + ds.length by omega]; exact g3⟩
    unfold forL
    rw [e1]
    rcases e2 with e2 | e2
    · simp only [e2]; exact e3
    · simp only [e2]; exact e3
theorem for_inv {fi : M (List D)} {ft : D → Env → Option Env} {f : Env → Option Fl} {ρ ρ1 : Env} {ds : List D} (G : Nat → Env → Prop) (hi : fi ρ = some (.ok ds ρ1)) (h0 : G 0 ρ1) (h : ∀ k d ρ, ds[k]? = some d → G k ρ → ∃ ρ1 ρ2, ft d ρ = some ρ1 ∧ (f ρ1 = some (.nx ρ2) ∨ f ρ1 = some (.ct ρ2)) ∧ G (k + 1) ρ2) : ∃ ρ', sFor fi ft f ρ = some (.nx ρ') ∧ G ds.length ρ' := by
  obtain ⟨ρ', e, g⟩ := forL_inv (ft := ft) (f := f) G ds 0 ρ1 h0 (fun k d ρ hk hg => by
    rw [Nat.zero_add] at hg ⊢
    exact h k d ρ hk hg)
  refine ⟨ρ', ?_, by simpa using g⟩
  rw [u_sFor, hi]
  exact e
/-! ### comprehensions in general -/
theorem compL_fm {vs : List Nat} {ft : D → Env → Option Env} {tt : M Bool} {fe : M D} {ρw : Env} (F : D → Option D) (hw : wipeE ρw vs = ρw) : ∀ (ds acc : List D), acc.length + ds.length ≤ sizeLine → (∀ d ∈ ds, ∃ ρ1 ρ2 ρ3, ft d ρw = some ρ1 ∧ ((F d = none ∧ tt ρ1 = some (.ok false ρ2) ∧ wipeE ρ2 vs = ρw) ∨ ∃ y, F d = some y ∧ tt ρ1 = some (.ok true ρ2) ∧ fe ρ2 = some (.ok y ρ3) ∧ wipeE ρ3 vs = ρw)) → compL vs ft tt fe ds acc ρw = some (.ok (acc ++ ds.filterMap F) ρw)
  | [], acc, _, _ => by simp [compL, hw]
  | d :: ds, acc, hl, h => by
    obtain ⟨ρ1, ρ2, ρ3, e1, h1⟩ := h d List.mem_cons_self
    rw [List.length_cons] at hl
    unfold compL
    rw [hw, e1]
    rcases h1 with ⟨f, e2, w2⟩ | ⟨y, f, e2, e3, w3⟩
    · simp only [e2]
      rw [w2, compL_fm F hw ds acc (by omega) fun d' hd => h d' (List.mem_cons_of_mem _ hd), List.filterMap_cons, f]
    · have l1 : acc.length < sizeLine := by omega
      simp only [e2, e3, l1, if_true]
      rw [w3, compL_fm F hw ds (acc ++ [y]) (by simp; omega) fun d' hd => h d' (List.mem_cons_of_mem _ hd), List.filterMap_cons, f]
      simp
theorem lc_fm {vs : List Nat} {fi : M (List D)} {ft : D → Env → Option Env} {tt : M Bool} {fe : M D} {ρ ρw : Env} {ds : List D} (F : D → Option D) (hl : ds.length ≤ sizeLine) (hi : fi ρ = some (.ok ds ρw)) (hw : wipeE ρw vs = ρw) (h : ∀ d ∈ ds, ∃ ρ1 ρ2 ρ3, ft d ρw = some ρ1 ∧ ((F d = none ∧ tt ρ1 = some (.ok false ρ2) ∧ wipeE ρ2 vs = ρw) ∨ ∃ y, F d = some y ∧ tt ρ1 = some (.ok true ρ2) ∧ fe ρ2 = some (.ok y ρ3) ∧ wipeE ρ3 vs = ρw)) : fLc vs fi ft tt fe ρ = some (.ok (.list (ds.filterMap F)) ρw) := by
  rw [u_fLc, hi]
  simp only [u_ok]
  rw [compL_fm F hw ds [] (by simpa using hl) h]
  simp
/-- without a test -/
theorem lc_all {vs : List Nat} {fi : M (List D)} {ft : D → Env → Option Env} {fe : M D} {ρ ρw : Env} {ds : List D} (F : D → D) (hl : ds.length ≤ sizeLine) (hi : fi ρ = some (.ok ds ρw)) (hw : wipeE ρw vs = ρw) (h : ∀ d ∈ ds, ∃ ρ1 ρ3, ft d ρw = some ρ1 ∧ fe ρ1 = some (.ok (F d) ρ3) ∧ wipeE ρ3 vs = ρw) : fLc vs fi ft tYesF fe ρ = some (.ok (.list (ds.map F)) ρw) := by
  have := lc_fm (vs := vs) (ft := ft) (tt := tYesF) (fe := fe) (fun d => some (F d)) hl hi hw (fun d hd => by
    obtain ⟨ρ1, ρ3, e1, e3, w⟩ := h d hd
    exact ⟨ρ1, ρ1, ρ3, e1, .inr ⟨F d, rfl, rfl, e3, w⟩⟩)
  rw [this, show (fun d => some (F d)) = some ∘ F from rfl, List.filterMap_eq_map]
/-! ### range -/
theorem rgD_len (i j : Int) : (rgD i j).length = (j - i).toNat := by simp [rgD]
theorem rgD_get {i j : Int} {k : Nat} {d : D} (h : (rgD i j)[k]? = some d) : d = .int (i + (k : Nat)) ∧ k < (j - i).toNat := by
  unfold rgD at h
  rw [List.getElem?_map] at h
  have hk : k < (j - i).toNat := by
    apply Classical.byContradiction
    intro z
    rw [List.getElem?_eq_none (by simp; omega)] at h
    cases h
  rw [List.getElem?_range hk] at h
  cases h
  exact ⟨rfl, hk⟩
@[simp] theorem u_iRg1 {m : Md} {fa : M D} {ρ : Env} : iRg1 m fa ρ = bnd (fa ρ) Out.err fun x ρ1 => match rd m x ρ1 with
  | some (.int j) => if okR j = true then some (.ok (rgD 0 j) ρ1) else none
  | _ => none := (rfl)
@[simp] theorem u_iRg2 {ma mb : Md} {fa fb : M D} {ρ : Env} : iRg2 ma mb fa fb ρ = bnd (fa ρ) Out.err fun x ρ1 => bnd (fb ρ1) Out.err fun y ρ2 => match rd ma x ρ2, rd mb y ρ2 with
  | some (.int i), some (.int j) => if okR i && okR j then some (.ok (rgD i j) ρ2) else none
  | _, _ => none := (rfl)
theorem okR_of {i : Int} (h1 : -(2 ^ 62) ≤ i) (h2 : i < 2 ^ 62) : okR i = true := decide_eq_true ⟨h1, h2⟩
@[simp] theorem u_sPut {i : Nat} {fi fa : M D} {ρ : Env} : sPut i fi fa ρ = bnd (fa ρ) Fl.err fun d ρ1 => match ρ1[i]? with
  | some (some (.list _)) => bnd (fi ρ1) Fl.err fun k ρ2 => match ρ2[i]?, k with
    | some (some (.list ds)), .int k => (ixN ds.length k).map fun j => .nx (ρ2.set i (some (.list (ds.set j d))))
    | _, _ => none
  | _ => none := (rfl)
@[simp] theorem u_fMt {i : Nat} {op : List D → D → Option (D × List D)} {fa : M D} {ρ : Env} : fMt i op fa ρ = match ρ[i]? with
  | some (some (.list _)) => bnd (fa ρ) Out.err fun d ρ1 => match ρ1[i]? with
    | some (some (.list ds)) => (op ds d).map fun r => .ok r.1 (ρ1.set i (some (.list r.2)))
    | _ => none
  | _ => none := (rfl)
@[simp] theorem u_fMt0 {i : Nat} {op : List D → Option (D × List D)} {ρ : Env} : fMt0 i op ρ = match ρ[i]? with
  | some (some (.list ds)) => (op ds).map fun r => .ok r.1 (ρ.set i (some (.list r.2)))
  | _ => none := (rfl)
@[simp] theorem u_sAug {i : Nat} {op : D → D → Option D} {fa : M D} {ρ : Env} : sAug i op fa ρ = match ρ[i]? with
  | some (some x) => bnd (fa ρ) Fl.err fun y ρ1 => (op x y).map fun z => .nx (ρ1.set i (some z))
  | _ => none := (rfl)
@[simp] theorem dAdd_ii (i j : Int) : dAdd (.int i) (.int j) = some (.int (i + j)) := (rfl)
@[simp] theorem dSub_ii (i j : Int) : dSub (.int i) (.int j) = some (.int (i - j)) := (rfl)
@[simp] theorem dLt_ii (i j : Int) : dLt (.int i) (.int j) = some (.bool (decide (i < j))) := (rfl)
@[simp] theorem dLe_ii (i j : Int) : dLe (.int i) (.int j) = some (.bool (decide (i ≤ j))) := (rfl)
@[simp] theorem dGt_ii (i j : Int) : dGt (.int i) (.int j) = some (.bool (decide (j < i))) := (rfl)
@[simp] theorem dGe_ii (i j : Int) : dGe (.int i) (.int j) = some (.bool (decide (j ≤ i))) := (rfl)
@[simp] theorem dInt_i (i : Int) : dInt (.int i) = some (.int i) := (rfl)
theorem dMod_ii {i j : Int} (h : 0 < j) : dMod (.int i) (.int j) = some (.int (i % j)) := by simp [dMod, oI, h]
theorem dDiv_ii {i j : Int} (h : 0 < j) (h2 : j < 2 ^ 8000) : dDiv (.int i) (.int j) = some (.int (i / j)) := by
  have : j.natAbs.log2 < 8000 := (Nat.log2_lt (by omega)).mpr (by omega)
  simp [dDiv, oI, h, show j.natAbs.log2 < 9000 by omega]
@[simp] theorem dMax2_ii (i j : Int) : dMax2 (.int i) (.int j) = some (.int (if j > i then j else i)) := (rfl)
@[simp] theorem dMin2_ii (i j : Int) : dMin2 (.int i) (.int j) = some (.int (if j < i then j else i)) := (rfl)
@[simp] theorem dNeg_i (i : Int) : dNeg (.int i) = some (.int (-i)) := (rfl)
@[simp] theorem dLen_l (ds : List D) : dLen (.list ds) = some (.int ds.length) := (rfl)
@[simp] theorem dLen_t (ds : List D) : dLen (.tuple ds) = some (.int ds.length) := (rfl)
@[simp] theorem dIx_l (ds : List D) (i : Int) : dIx (.list ds) (.int i) = atI ds i := (rfl)
@[simp] theorem dIx_t (ds : List D) (i : Int) : dIx (.tuple ds) (.int i) = atI ds i := (rfl)
@[simp] theorem tru_b (b : Bool) : truD (.bool b) = some b := (rfl)
theorem u_try_err {sel : Str → Option Bool} {i : Nat} {fb fs : Env → Option Fl} {ρ ρ' : Env} {n : Str} {d : D} (h : fb ρ = some (.err n d ρ')) (hs : sel n = some true) : sTry sel i fb fs ρ = match fs (ρ'.set i (some (.dict [(.none, d)]))) with
      | some (.nx ρ2) => some (.nx (ρ2.set i none))
      | some (.ret d ρ2) => some (.ret d ρ2)
      | _ => none := by
  unfold sTry
  rw [h]
  simp only [hs]
  try rfl
theorem u_try_ok {sel : Str → Option Bool} {i : Nat} {fb fs : Env → Option Fl} {ρ ρ' : Env} (h : fb ρ = some (.nx ρ')) : sTry sel i fb fs ρ = some (.nx ρ') := by
  unfold sTry
  rw [h]
@[simp] theorem u_fXv {i : Nat} {ρ : Env} : fXv i ρ = match ρ[i]? with
  | some (some (.dict [(.none, d)])) => some (.ok d ρ)
  | _ => none := (rfl)
@[simp] theorem u_fIsX {i : Nat} {ρ : Env} : fIsX i ρ = match ρ[i]? with
  | some (some (.dict [(.none, _)])) => some (.ok (.bool true) ρ)
  | _ => none := (rfl)
/-- a call with the object of slot i and one datum -/
theorem call_r1 {i : Nat} {g : M D} {fx : M D} {ρ : Env} {b b' : Option D} {x bv v : D} {t : Kind} (h0 : ρ[i]? = some (some bv)) (hx : fx ρ = some (.ok x ρ)) (hg : g [some bv, some x] = some (.ok v [b', b])) : fCall [.r i, .t t] (noErr g) (aCons (fRef i) (aCons fx aNil)) ρ = some (.ok v (ρ.set i b')) := by
  rw [u_fCall]
  simp [h0, hx, u_noErr, hg]
theorem call_r1x {i : Nat} {g : M D} {fx : M D} {ρ : Env} {b b' : Option D} {x bv v : D} {t : Kind} (h0 : ρ[i]? = some (some bv)) (hx : fx ρ = some (.ok x ρ)) (hg : g [some bv, some x] = some (.ok v [b', b])) : fCall [.r i, .t t] g (aCons (fRef i) (aCons fx aNil)) ρ = some (.ok v (ρ.set i b')) := by
  rw [u_fCall]
  simp [h0, hx, hg]
theorem map_of {α : Type} {g : α → D} {p : α → Prop} : ∀ {vs : List D}, (∀ v ∈ vs, ∃ a, v = g a ∧ p a) → ∃ l : List α, vs = l.map g ∧ (∀ a ∈ l, p a) ∧ l.length = vs.length
  | [], _ => ⟨[], rfl, (fun _ h => by cases h), rfl⟩
  | v :: vs, h => by
    obtain ⟨a, e, q⟩ := h v List.mem_cons_self
    obtain ⟨l, e2, q2, l2⟩ := map_of (vs := vs) fun v hv => h v (List.mem_cons_of_mem _ hv)
    exact ⟨a :: l, by rw [e, e2]; rfl, fun b hb => by
      rcases List.mem_cons.mp hb with rfl | hb
      · exact q
      · exact q2 b hb, by simp [l2]⟩
end FN
/-! ### what laws share -/
namespace FNL
open PySem PySem.Spec PyProof.Rows L2 FN
noncomputable def b_bag : FN.Env → Option Fl :=
  (sSeq (sSet 2 (fIf (fTst (f2 (.t (.v true)) (.t (.v true)) dLt (fVar 1) (f1 (.r 0) dLen (fRef 0)))) (f2 (.t (.v true)) (.t (.v true)) dMod (f1 (.t (.v true)) dInt (f2 (.r 0) (.t (.v true)) dIx (fRef 0) (fVar 1))) (f2 (.t (.v true)) (.t (.v true)) dPow (fC (.int 10)) (fC (.int 60)))) (f2 (.t (.v true)) (.t (.v true)) dAdd (f2 (.t (.v true)) (.t (.v true)) dMul (fC (.int 41)) (fVar 1)) (fC (.int 7)))))
  (sRet (fLst (aCons (f2 (.t (.v true)) (.t (.v true)) dMax2 (fC (.int 0)) (f2 (.t (.v true)) (.t (.v true)) dSub (fVar 2) (f2 (.t (.v true)) (.t (.v true)) dPow (fC (.int 10)) (fC (.int 18))))) (aCons (f2 (.t (.v true)) (.t (.v true)) dAdd (f2 (.t (.v true)) (.t (.v true)) dMod (f1 (.t (.v true)) dInt (fVar 2)) (fC (.int 1000003))) (f2 (.t (.v true)) (.t (.v true)) dMul (fC (.int 31)) (fVar 1))) (aCons (fC (.int 0)) aNil))))))
noncomputable def m_bag : M D := runF [.scr, (.v true)] (.lst (.v true)) 1 b_bag
noncomputable def b_take : FN.Env → Option Fl :=
  (sSeq (sIf (fTst (f2 (.t (.v true)) (.t (.v true)) dGt (f2 (.r 0) (.t (.v true)) dIx (fRef 0) (fC (.int 0))) (fC (.int 0))))
  (sSeq (sSet 3 (f2 (.t (.v true)) (.t (.v true)) dMod (f1 (.t (.v true)) dInt (f2 (.r 0) (.t (.v true)) dIx (fRef 0) (fC (.int 0)))) (fVar 1)))
  (sSeq (sPut 0 (fC (.int 0)) (f2 (.t (.v true)) (.t (.v true)) dDiv (f2 (.r 0) (.t (.v true)) dIx (fRef 0) (fC (.int 0))) (fVar 1)))
  (sRet (fVar 3))))
  sNx)
  (sSeq (sPut 0 (fC (.int 2)) (f2 (.t (.v true)) (.t (.v true)) dAdd (f2 (.r 0) (.t (.v true)) dIx (fRef 0) (fC (.int 2))) (fC (.int 1))))
  (sSeq (sSet 2 (f2 (.t (.v true)) (.t (.v true)) dMod (f1 (.t (.v true)) dInt (f2 (.t (.v true)) (.t (.v true)) dAdd (f2 (.t (.v true)) (.t (.v true)) dPow (f2 (.t (.v true)) (.t (.v true)) dAdd (f2 (.r 0) (.t (.v true)) dIx (fRef 0) (fC (.int 1))) (f2 (.t (.v true)) (.t (.v true)) dMul (fC (.int 7919)) (f2 (.r 0) (.t (.v true)) dIx (fRef 0) (fC (.int 2))))) (fC (.int 3))) (f2 (.r 0) (.t (.v true)) dIx (fRef 0) (fC (.int 2))))) (f2 (.t (.v true)) (.t (.v true)) dAdd (f2 (.t (.v true)) (.t (.v true)) dPow (fC (.int 10)) (fC (.int 28))) (fC (.int 331)))))
  (sSeq (sSet 2 (f2 (.t (.v true)) (.t (.v true)) dMod (f1 (.t (.v true)) dInt (f2 (.t (.v true)) (.t (.v true)) dAdd (f2 (.t (.v true)) (.t (.v true)) dAdd (f2 (.t (.v true)) (.t (.v true)) dMul (fVar 2) (fVar 2)) (f2 (.t (.v true)) (.t (.v true)) dMul (fC (.int 104729)) (f2 (.r 0) (.t (.v true)) dIx (fRef 0) (fC (.int 1))))) (f2 (.r 0) (.t (.v true)) dIx (fRef 0) (fC (.int 2))))) (f2 (.t (.v true)) (.t (.v true)) dAdd (f2 (.t (.v true)) (.t (.v true)) dPow (fC (.int 10)) (fC (.int 27))) (fC (.int 103)))))
  (sRet (f2 (.t (.v true)) (.t (.v true)) dMod (f1 (.t (.v true)) dInt (f2 (.t (.v true)) (.t (.v true)) dDiv (fVar 2) (fC (.int 15485863)))) (fVar 1)))))))
noncomputable def m_take : M D := runF [(.lst (.v true)), (.v true)] (.v true) 2 b_take
noncomputable def b_one_of : FN.Env → Option Fl :=
  (sRet (f2 (.t (.v true)) (.t (.v true)) dIx (fVar 1) (fCall [.r 0, .t (.v true)] (noErr m_take) (aCons (fRef 0) (aCons (f1 (.t (.v true)) dLen (fVar 1)) aNil)))))
noncomputable def m_one_of : M D := runF [(.lst (.v true)), (.v true)] (.v true) 0 b_one_of
/-- what is drawn from, behind at most n mixed draws -/
def Bag (n : Nat) (d : FN.D) : Prop := ∃ a b c : Int, d = .list [.int a, .int b, .int c] ∧ 0 ≤ a ∧ a < 10 ^ 60 ∧ 0 ≤ b ∧ b ≤ 2000000 ∧ 0 ≤ c ∧ c ≤ n
theorem Bag.mono {n m : Nat} {d : FN.D} (h : Bag n d) (l : n ≤ m) : Bag m d := by
  obtain ⟨a, b, c, e, h1, h2, h3, h4, h5, h6⟩ := h
  exact ⟨a, b, c, e, h1, h2, h3, h4, h5, by omega⟩
theorem log_lt {i : Int} {k : Nat} (h : i.natAbs < 2 ^ k) (hk : 0 < k) : i.natAbs.log2 < k := by
  by_cases z : i.natAbs = 0
  · rw [z]; simpa using hk
  · exact (Nat.log2_lt z).mpr h
theorem ixN3 : ixN 3 0 = some 0 ∧ ixN 3 2 = some 2 := by decide
theorem mod_in (i j : Int) (h : 0 < j) : 0 ≤ i % j ∧ i % j < j := ⟨Int.emod_nonneg _ (by omega), Int.emod_lt_of_pos _ h⟩
theorem e_take {n : Nat} {bag : FN.D} {many : Int} (hb : Bag n bag) (hn : n ≤ 1000000) (h1 : 1 ≤ many) (h2 : many ≤ 2 ^ 62) : ∃ i bag', m_take [some bag, some (.int many)] = some (.ok (.int i) [some bag', none]) ∧ Bag (n + 1) bag' ∧ 0 ≤ i ∧ i < many := by
  obtain ⟨a, b, c, rfl, ha, ha2, hb1, hb2, hc1, hc2⟩ := hb
  have lm : many.natAbs.log2 < 9000 := Nat.lt_of_lt_of_le (log_lt (k := 63) (by omega) (by decide)) (by decide)
  by_cases hp : 0 < a
  · refine ⟨a % many, .list [.int (a / many), .int b, .int c], ?_, ⟨a / many, b, c, rfl, Int.ediv_nonneg ha (by omega), ?_, hb1, hb2, hc1, by omega⟩, (mod_in a many (by omega)).1, (mod_in a many (by omega)).2⟩
    · simp [m_take, u_runF, b_take, hp, dMod_ii (show 0 < many by omega), dDiv_ii (show 0 < many by omega) (show many < 2 ^ 8000 by omega), ixN3]
    · exact Int.lt_of_le_of_lt (Int.ediv_le_self _ ha) ha2
  · have ec : (b + 7919 * (c + 1)).natAbs < 2 ^ 64 := by omega
    have lc : Nat.log2 7919 + (c + 1).natAbs.log2 < 1000000 := by
      have := log_lt (i := c + 1) (k := 63) (by omega) (by decide)
      have : Nat.log2 7919 = 12 := by decide +kernel
      omega
    have lb : Nat.log2 104729 + b.natAbs.log2 < 1000000 := by
      have := log_lt (i := b) (k := 63) (by omega) (by decide)
      have : Nat.log2 104729 = 16 := by decide +kernel
      omega
    have m1 := mod_in ((b + 7919 * (c + 1)) ^ 3 + (c + 1)) 10000000000000000000000000331 (by decide)
    have l1 : (((b + 7919 * (c + 1)) ^ 3 + (c + 1)) % 10000000000000000000000000331).natAbs.log2 < 200 := log_lt (by omega) (by decide)
    have l2 : Nat.log2 15485863 < 9000 := by decide +kernel
    generalize e1 : ((b + 7919 * (c + 1)) ^ 3 + (c + 1)) % 10000000000000000000000000331 = x1 at m1 l1
    generalize e2 : ((x1 * x1 + 104729 * b + (c + 1)) % 1000000000000000000000000103) = x2
    refine ⟨(x2 / 15485863) % many, .list [.int a, .int b, .int (c + 1)], ?_, ⟨a, b, c + 1, rfl, ha, ha2, hb1, hb2, by omega, by omega⟩, (mod_in _ many (by omega)).1, (mod_in _ many (by omega)).2⟩
    have p28 : dPow (.int 10) (.int 28) = some (.int 10000000000000000000000000000) := by simp [dPow, oI]
    have p27 : dPow (.int 10) (.int 27) = some (.int 1000000000000000000000000000) := by simp [dPow, oI]
    have p3 : dPow (.int (b + 7919 * (c + 1))) (.int 3) = some (.int ((b + 7919 * (c + 1)) ^ 3)) := by simp [dPow, oI, ec]
    have md : ∀ i : Int, dMod (.int i) (.int 10000000000000000000000000331) = some (.int (i % 10000000000000000000000000331)) := fun i => dMod_ii (by decide)
    have md2 : ∀ i : Int, dMod (.int i) (.int 1000000000000000000000000103) = some (.int (i % 1000000000000000000000000103)) := fun i => dMod_ii (by decide)
    have dv : ∀ i : Int, dDiv (.int i) (.int 15485863) = some (.int (i / 15485863)) := fun i => dDiv_ii (by decide) (by decide)
    simp [m_take, u_runF, b_take, hp, dMod_ii (show 0 < many by omega), ixN3, dMul, lc, lb, p28, p27, p3, md, md2, dv, e1, e2, show x1.natAbs.log2 + x1.natAbs.log2 < 1000000 by omega]
theorem atI_in {α : Type} {xs : List α} {i : Int} (h0 : 0 ≤ i) (h1 : i < xs.length) : ∃ x, atI xs i = some x ∧ x ∈ xs := by
  have e : i = ((i.toNat : Nat) : Int) := by omega
  have hl : i.toNat < xs.length := by omega
  refine ⟨xs[i.toNat], ?_, List.getElem_mem hl⟩
  have := atI_nat xs i.toNat
  rw [← e] at this
  rw [this, List.getElem?_eq_getElem hl]
theorem e_one_of {n : Nat} {bag : FN.D} {ds : List FN.D} (hb : Bag n bag) (hn : n ≤ 1000000) (h1 : ds ≠ []) (h2 : ds.length ≤ 1000000) : ∃ d bag', m_one_of [some bag, some (.list ds)] = some (.ok d [some bag', none]) ∧ Bag (n + 1) bag' ∧ d ∈ ds := by
  have hl : 0 < ds.length := List.length_pos_iff.mpr h1
  obtain ⟨i, bag', e, b', i0, i1⟩ := e_take (many := (ds.length : Int)) hb hn (by omega) (by omega)
  obtain ⟨x, ex, hx⟩ := atI_in i0 i1
  refine ⟨x, bag', ?_, b', hx⟩
  have hbag : ∃ l, bag = .list l := by obtain ⟨a, b, c, e, _⟩ := hb; exact ⟨_, e⟩
  obtain ⟨l, rfl⟩ := hbag
  simp [m_one_of, u_runF, b_one_of, u_fCall, u_noErr, dLen, e, dIx, ex]
noncomputable def b_same (rec : M D) : FN.Env → Option Fl :=
  (sSeq (sIf (fTru (.t (.v true)) (f1b (.t (.v true)) (fun d => isTuple d || isList d) (fVar 1)))
  (sSeq (sIf (tOrF (fTst (f2 (.t (.v true)) (.t (.v true)) dNe (f1b (.t (.v true)) isTuple (fVar 1)) (f1b (.t (.v true)) isTuple (fVar 0)))) (fTst (f2 (.t (.v true)) (.t (.v true)) dNe (f1b (.t (.v true)) isList (fVar 1)) (f1b (.t (.v true)) isList (fVar 0)))))
  (sRet (fC (.bool false)))
  sNx)
  (sRet (fAnd (f2 (.t (.v true)) (.t (.v true)) dEq (f1 (.t (.v true)) dLen (fVar 0)) (f1 (.t (.v true)) dLen (fVar 1))) (f1 (.t (.v true)) dAll (fLc [2, 3] (iZip (fVar 0) (fVar 1)) (gTp (gsCons (gNm 2) (gsCons (gNm 3) gsNil))) tYesF (fCall [.t (.v true), .t (.v true)] (noErr rec) (aCons (fVar 2) (aCons (fVar 3) aNil))))))))
  sNx)
  (sSeq (sIf (tOrF (fTst (f2 (.t (.v true)) (.t (.v true)) dIs (fVar 1) (fC .none))) (fTru (.t (.v true)) (f1b (.t (.v true)) isBool (fVar 1))))
  (sRet (fIf (fTst (f2 (.t (.v true)) (.t (.v true)) dIs (fVar 1) (fC .none))) (f2 (.t (.v true)) (.t (.v true)) dIs (fVar 0) (fC .none)) (fAnd (f1b (.t (.v true)) isBool (fVar 0)) (f2 (.t (.v true)) (.t (.v true)) dEq (fVar 0) (fVar 1)))))
  sNx)
  (sSeq (sIf (tOrF (fTru (.t (.v true)) (f1b (.t (.v true)) isBool (fVar 0))) (fTst (f2 (.t (.v true)) (.t (.v true)) dNe (f1b (.t (.v true)) isInt (fVar 1)) (f1b (.t (.v true)) isInt (fVar 0)))))
  (sRet (fC (.bool false)))
  sNx)
  (sRet (fAnd (f2 (.t (.v true)) (.t (.v true)) dEq (f1b (.t (.v true)) isStr (fVar 1)) (f1b (.t (.v true)) isStr (fVar 0))) (f2 (.t (.v true)) (.t (.v true)) dEq (fVar 0) (fVar 1)))))))
noncomputable def m_same : Nat → M D
  | 0 => fun _ => none
  | n + 1 => runF [(.v true), (.v true)] (.v true) 2 (b_same (m_same n))
theorem zip_self (ds : List FN.D) : zipD ds ds = ds.map fun d => .tuple [d, d] := by
  unfold zipD
  induction ds with
  | nil => rfl
  | cons d ds ih => rw [List.zip_cons_cons, List.map_cons, List.map_cons, ih]
theorem okD_mono : ∀ {n : Nat} {d : FN.D}, okD n d = true → okD (n + 1) d = true
  | n, .none, _ => by unfold okD; rfl
  | n, .bool _, _ => by unfold okD; rfl
  | n, .int _, _ => by unfold okD; rfl
  | n, .str x, h => by unfold okD at h ⊢; exact h
  | n + 1, .list ds, h => by
    unfold okD at h ⊢
    rw [List.all_eq_true] at h ⊢
    exact fun d hd => okD_mono (h d hd)
  | n + 1, .tuple ds, h => by
    unfold okD at h ⊢
    rw [List.all_eq_true] at h ⊢
    exact fun d hd => okD_mono (h d hd)
  | 0, .list ds, h => by unfold okD at h; cases h
  | 0, .tuple ds, h => by unfold okD at h; cases h
  | n, .dict _, h => by unfold okD at h; cases h
/-- data of the depth n at most, no list of it too long -/
def smD : Nat → FN.D → Bool
  | _, .none => true
  | _, .bool _ => true
  | _, .int _ => true
  | _, .str x => PyData.strOk x
  | n + 1, .list ds => decide (ds.length ≤ 1000000) && ds.all (smD n)
  | n + 1, .tuple ds => decide (ds.length ≤ 1000000) && ds.all (smD n)
  | _, _ => false
theorem smD_mono : ∀ {n : Nat} {d : FN.D}, smD n d = true → smD (n + 1) d = true
  | n, .none, _ => by unfold smD; rfl
  | n, .bool _, _ => by unfold smD; rfl
  | n, .int _, _ => by unfold smD; rfl
  | n, .str x, h => by unfold smD at h ⊢; exact h
  | n + 1, .list ds, h => by
    unfold smD at h ⊢
    rw [Bool.and_eq_true, List.all_eq_true] at h ⊢
    exact ⟨h.1, fun d hd => smD_mono (h.2 d hd)⟩
  | n + 1, .tuple ds, h => by
    unfold smD at h ⊢
    rw [Bool.and_eq_true, List.all_eq_true] at h ⊢
    exact ⟨h.1, fun d hd => smD_mono (h.2 d hd)⟩
  | 0, .list ds, h => by unfold smD at h; cases h
  | 0, .tuple ds, h => by unfold smD at h; cases h
  | n, .dict _, h => by unfold smD at h; cases h
theorem smD_le {n m : Nat} {d : FN.D} (h : smD n d = true) (l : n ≤ m) : smD m d = true := by
  induction l with
  | refl => exact h
  | step _ ih => exact smD_mono ih
theorem dAll_true {α : Type} (l : List α) : dAll (.list (l.map fun _ => .bool true)) = some (.bool true) := by
  rw [dAll_map (fun _ => true) l]
  simp
theorem same_lc {n : Nat} {x y : Option FN.D} {ds : List FN.D} {fi : M (List FN.D)} (hl : ds.length ≤ 1000000) (hi : fi [x, y, none, none] = some (.ok (zipD ds ds) [x, y, none, none])) (h : ∀ d ∈ ds, m_same n [some d, some d] = some (.ok (.bool true) [none, none])) : fLc [2, 3] fi (gTp (gsCons (gNm 2) (gsCons (gNm 3) gsNil))) tYesF (fCall [.t (.v true), .t (.v true)] (noErr (m_same n)) (aCons (fVar 2) (aCons (fVar 3) aNil))) [x, y, none, none] = some (.ok (.list (ds.map fun _ => .bool true)) [x, y, none, none]) := by
  rw [lc_all (ds := zipD ds ds) (ρw := [x, y, none, none]) (fun _ => .bool true) (by rw [zip_self, List.length_map]; unfold sizeLine; omega) hi rfl ?_]
  · rw [zip_self, List.map_map]
    rfl
  · intro d hd
    rw [zip_self] at hd
    obtain ⟨e, he, rfl⟩ := List.mem_map.mp hd
    refine ⟨[x, y, some e, some e], [x, y, some e, some e], ?_, ?_, rfl⟩
    · simp [gsCons]
    · simp [u_fCall, u_noErr, h e he]
theorem e_same : ∀ (n : Nat) (d : FN.D), smD n d = true → m_same (n + 1) [some d, some d] = some (.ok (.bool true) [none, none])
  | n, .none, _ => by simp [m_same, u_runF, b_same, isTuple, FN.isList, dIs, isNone, isBool]
  | n, .bool b, _ => by cases b <;> simp [m_same, u_runF, b_same, isTuple, FN.isList, dIs, isNone, isBool]
  | n, .int i, _ => by simp [m_same, u_runF, b_same, isTuple, FN.isList, dIs, isNone, isBool, FN.isInt, isStr]
  | n, .str x, h => by
    unfold smD at h
    simp [m_same, u_runF, b_same, isTuple, FN.isList, dIs, isNone, isBool, FN.isInt, isStr, dEq_ss h h]
  | n + 1, .list ds, h => by
    unfold smD at h
    rw [Bool.and_eq_true, List.all_eq_true] at h
    have ih := same_lc (n := n + 1) (x := some (.list ds)) (y := some (.list ds)) (ds := ds) (fi := iZip (fVar 0) (fVar 1)) (of_decide_eq_true h.1) (by simp) fun d hd => e_same n d (h.2 d hd)
    rw [m_same, u_runF, b_same]
    simp [isTuple, FN.isList, dIs, isNone, isBool, FN.isInt, isStr, dLen, ih, dAll_true]
  | n + 1, .tuple ds, h => by
    unfold smD at h
    rw [Bool.and_eq_true, List.all_eq_true] at h
    have ih := same_lc (n := n + 1) (x := some (.tuple ds)) (y := some (.tuple ds)) (ds := ds) (fi := iZip (fVar 0) (fVar 1)) (of_decide_eq_true h.1) (by simp) fun d hd => e_same n d (h.2 d hd)
    rw [m_same, u_runF, b_same]
    simp [isTuple, FN.isList, dIs, isNone, isBool, FN.isInt, isStr, dLen, ih, dAll_true]
  | 0, .list ds, h => by unfold smD at h; cases h
  | 0, .tuple ds, h => by unfold smD at h; cases h
  | n, .dict _, h => by unfold smD at h; cases h
/-- a comprehension over a range that draws an item a turn -/
theorem lc_draw {i : Nat} {fi : M (List FN.D)} {ρ0 ρ : FN.Env} {bag : FN.D} {ds its : List FN.D} {n : Nat} {t : FN.Kind} {fs : M FN.D} (hi0 : i ≠ 0) (hb : Bag n bag) (h0 : ρ[0]? = some (some bag)) (hfs : ∀ b d, fs (((ρ.set 0 (some b)).set i none).set i (some d)) = some (.ok (.list its) (((ρ.set 0 (some b)).set i none).set i (some d)))) (hfi : fi ρ0 = some (.ok ds ρ)) (hn : n + ds.length ≤ 1000000) (h1 : its ≠ []) (h2 : its.length ≤ 1000000) : ∃ vs bag', fLc [i] fi (gNm i) tYesF (fCall [.r 0, .t t] (noErr m_one_of) (aCons (fRef 0) (aCons fs aNil))) ρ0 = some (.ok (.list vs) ((ρ.set 0 (some bag')).set i none)) ∧ vs.length = ds.length ∧ (∀ v ∈ vs, v ∈ its) ∧ Bag (n + ds.length) bag' := by
  have l0 : 0 < ρ.length := (List.getElem?_eq_some_iff.mp h0).1
  have e0 : ρ.set 0 (some bag) = ρ := List.ext_getElem? fun j => by
    rw [List.getElem?_set]
    by_cases z : 0 = j
    · subst z
      rw [if_pos rfl, if_pos l0, h0]
    · rw [if_neg z]
  obtain ⟨vs, ρ', e, l, p, bag', rfl, hb'⟩ := lc_inv (i := i) (fi := fi) (fe := fCall [.r 0, .t t] (noErr m_one_of) (aCons (fRef 0) (aCons fs aNil))) (ds := ds) (fun k ρ' => ∃ bag', ρ' = (ρ.set 0 (some bag')).set i none ∧ Bag (n + k) bag') (fun v => v ∈ its) (by unfold sizeLine; omega) hfi ⟨bag, by rw [e0], by simpa using hb⟩ (fun k d ρ1 hk hg => by
    obtain ⟨b1, rfl, hb1⟩ := hg
    have hk2 : k < ds.length := (List.getElem?_eq_some_iff.mp hk).1
    obtain ⟨v, b2, ev, hb2, hv⟩ := e_one_of hb1 (by omega) h1 h2
    refine ⟨v, _, call_r1 (b := none) (bv := b1) ?_ (hfs b1 d) ev, hv, b2, ?_, hb2⟩
    · rw [List.set_set, List.getElem?_set, if_neg hi0, List.getElem?_set, if_pos rfl, if_pos l0]
    · rw [List.set_set, List.set_comm _ _ hi0, List.set_set, List.set_set])
  exact ⟨vs, bag', e, l, p, hb'⟩
theorem atI_ints (ns : List Int) (k : Int) (h0 : 0 ≤ k) (h1 : k < ns.length) : ∃ i, atI (ns.map PyData.int) k = some (.int i) := by
  obtain ⟨x, e, hx⟩ := atI_in (xs := ns.map PyData.int) h0 (by rw [List.length_map]; exact h1)
  obtain ⟨i, _, rfl⟩ := List.mem_map.mp hx
  exact ⟨i, e⟩
theorem p60 : dPow (.int 10) (.int 60) = some (.int (10 ^ 60)) := by simp [dPow, oI]
theorem p18 : dPow (.int 10) (.int 18) = some (.int (10 ^ 18)) := by simp [dPow, oI]
theorem e_bag (ns : List Int) (k : Int) (h0 : 0 ≤ k) (h1 : k ≤ 100) : ∃ bag, m_bag [some (.list (ns.map .int)), some (.int k)] = some (.ok bag [some (.list (ns.map .int)), none]) ∧ Bag 0 bag := by
  have l41 : Nat.log2 41 + k.natAbs.log2 < 1000000 := by
    have := log_lt (i := k) (k := 63) (by omega) (by decide)
    have : Nat.log2 41 = 5 := by decide +kernel
    omega
  have l31 : Nat.log2 31 + k.natAbs.log2 < 1000000 := by
    have := log_lt (i := k) (k := 63) (by omega) (by decide)
    have : Nat.log2 31 = 4 := by decide +kernel
    omega
  have d60 : ∀ i : Int, dMod (.int i) (.int (10 ^ 60)) = some (.int (i % 10 ^ 60)) := fun i => dMod_ii (by decide)
  have d1m : ∀ i : Int, dMod (.int i) (.int 1000003) = some (.int (i % 1000003)) := fun i => dMod_ii (by decide)
  have key : ∃ cell : Int, 0 ≤ cell ∧ cell < 10 ^ 60 ∧ (fIf (fTst (f2 (.t (.v true)) (.t (.v true)) dLt (fVar 1) (f1 (.r 0) dLen (fRef 0)))) (f2 (.t (.v true)) (.t (.v true)) dMod (f1 (.t (.v true)) dInt (f2 (.r 0) (.t (.v true)) dIx (fRef 0) (fVar 1))) (f2 (.t (.v true)) (.t (.v true)) dPow (fC (.int 10)) (fC (.int 60)))) (f2 (.t (.v true)) (.t (.v true)) dAdd (f2 (.t (.v true)) (.t (.v true)) dMul (fC (.int 41)) (fVar 1)) (fC (.int 7)))) [some (.list (ns.map .int)), some (.int k), none] = some (.ok (.int cell) [some (.list (ns.map .int)), some (.int k), none]) := by
    by_cases h : k < ns.length
    · obtain ⟨i, e⟩ := atI_ints ns k h0 h
      have m := mod_in i (10 ^ 60) (by decide)
      refine ⟨i % 10 ^ 60, m.1, m.2, ?_⟩
      rw [u_fIf, u_fTst, u_f2]
      simp only [u_fVar, List.getElem?_cons_succ, List.getElem?_cons_zero, u_ok, u_f1, u_fRef, u_rdr, u_rdv, dLen_l, Option.map_some, dLt_ii, List.length_map, decide_eq_true h, if_true]
      rw [u_f2, u_f1, u_f2]
      simp only [u_fVar, List.getElem?_cons_succ, List.getElem?_cons_zero, u_ok, u_fRef, u_rdr, u_rdv, dIx_l, e, Option.map_some, dInt_i, u_f2, u_fC, p60, d60]
    · refine ⟨41 * k + 7, by omega, by omega, ?_⟩
      simp [h, dMul, l41]
  obtain ⟨cell, c0, c1, ec⟩ := key
  have m := mod_in cell 1000003 (by decide)
  refine ⟨.list [.int (if cell - 10 ^ 18 > 0 then cell - 10 ^ 18 else 0), .int (cell % 1000003 + 31 * k), .int 0], ?_, _, _, _, rfl, by split <;> omega, by split <;> omega, by omega, by omega, by omega, by omega⟩
  rw [m_bag, u_runF, b_bag]
  simp only [List.replicate, List.cons_append, List.nil_append]
  rw [u_sSeq, u_sSet, ec]
  simp only [u_ok, List.set_cons_zero, List.set_cons_succ]
  rw [u_sRet, u_fLst, u_aCons, u_f2]
  simp only [u_fC, u_ok, u_f2, u_fVar, List.getElem?_cons_succ, List.getElem?_cons_zero, u_rdv, p18, Option.map_some, dSub_ii, dMax2_ii, u_aCons, u_f1, dInt_i, d1m, dMul, dAdd_ii]
  simp [l31, sizeLine]
end FNL
set_option Elab.async false
set_option linter.all false
set_option maxRecDepth 100000
set_option maxHeartbeats 4000000
/-! FN21: dicts. -/
namespace L2
open PySem PySem.Spec PyProof.Rows
/-- {k: v}, k a tracked tuple -/
def tDispT (tk tv : TE) : TE := fun σ H Q => ∀ p, H p = none → tk σ (upd H p (.dT [])) fun x H1 => tv σ H1 fun y H2 => H2 p = some (.dT []) ∧ ∃ (b : Addr) (ks : List Key), x = .ref b ∧ H2 b = some (.tup (ks.map kV)) ∧ Q (.ref p) (upd H2 p (.dT [(ks, y)]))
theorem pe_dispT {X : Cx} {pos : Pos} {k v : Expr} {tk tv : TE} (hu : X.A.units + 2 < cLine) (hk : PE X k tk) (hv : PE X v tv) : PE X (.Dict [some k] [v] pos) (tDispT tk tv) := by
  refine ⟨fun pins s σ H Q I q => ?_⟩
  have hn := I.hok.fresh (Nat.le_refl s.heap.objs.size)
  have I1 := I.laid (a := s.heap.objs.size) (o := .dT []) (h' := s.heap.push { cls := .type "dict", data := .dict #[] }) (t' := s.toks) (fun _ _ q => Heap.get?_push_of_some _ q) (Nat.le_refl _) (dt_empty s.heap I.big)
  rw [arm_eval_Dict, zip_pairTrees [some k] [v] X.env pos rfl rfl, dictDisplay_pairs _ (by intro z; cases z) (by rw [pairTrees_length [some k] [v] X.env pos rfl rfl, List.length_singleton]; decide)]
  refine wpAny_bind (wpAny_standAt (wpAny_bind (wpAny_subDictH (knd := tupleKind (mixKind X.prog X.w)) (Q := fun d s' => wpAny (model X.prog X.w) X.A (pure (Value.ref d)) _ X.xe s') (show X.A.units < cLine by omega) (by rw [pairTrees_length [some k] [v] X.env pos rfl rfl, List.length_singleton]; decide) ?_)))
  · refine pairTrees_cons_walk (thn (hk.run pins _ σ _ _ I1 (q _ hn)) fun u s1 ⟨x, H1, I2, rx, q1⟩ => thn (hv.run pins s1 σ H1 _ I2 q1) fun r s2 ⟨y, H2, I3, ry, e, b, ks, ex, eb, q2⟩ => pairTrees_nil_walk ?_)
    subst ex
    obtain rfl : u = Value.ref b := rx
    obtain ⟨z, hd, xs, rel, dd⟩ := dt_of I3.hok e
    have hx : xs = [] := by cases rel; rfl
    subst hx
    refine ⟨[(ks, b, r)], ⟨rfl, rfl, key_of I3.hok eb, True.intro⟩, dd, fun h' tk dd' hs => wpAny_pure ⟨.ref s.heap.objs.size, _, ?_, rfl, q2⟩⟩
    obtain ⟨o, es, ep, hq, h2, h3, h4, _, h5⟩ := dd'
    refine d_write I3 (by rw [e]; exact True.intro) hs ⟨o, hq⟩ ⟨by rw [List.length_singleton]; unfold sizeLine; omega, hd, _, .cons ⟨rfl, ?_, ry⟩ .nil, o, es, ep, hq, h2, h3, h4, h5⟩
    rw [upd_ne (ne_of eb e (fun z => nomatch z))]
    exact eb
end L2
namespace FN
open PySem PySem.Spec PyProof.Rows L2
/-! ### keys -/
def kk : D → Option Key
  | .int i => some (.inl i)
  | .str x => some (.inr x)
  | _ => none
def tkey : List D → Option (List Key)
  | [] => some []
  | d :: ds => match kk d, tkey ds with
    | some k, some ks => some (k :: ks)
    | _, _ => none
/-- the key that a datum is: t: of a dict with tuples as keys -/
def keyOf (t : Bool) (d : D) : Option (List Key) := match t with
  | true => match d with
    | .tuple ds => tkey ds
    | _ => none
  | false => (kk d).map fun k => [k]
theorem kk_kD (k : Key) : kk (kD k) = some k := by cases k <;> rfl
theorem kk_some {d : D} {k : Key} (h : kk d = some k) : d = kD k := by
  unfold kk at h
  split at h <;> cases h <;> rfl
theorem tkey_kD : ∀ ks : List Key, tkey (ks.map kD) = some ks
  | [] => rfl
  | k :: ks => by
    rw [List.map_cons]
    unfold tkey
    rw [kk_kD, tkey_kD ks]
theorem tkey_some : ∀ {ds : List D} {ks : List Key}, tkey ds = some ks → ds = ks.map kD
  | [], ks, h => by cases h; rfl
  | d :: ds, ks, h => by
    unfold tkey at h
    split at h
    · rename_i k ks' e1 e2
      cases h
      rw [List.map_cons, ← kk_some e1, ← tkey_some e2]
    · cases h
def dlook (t : Bool) : List (D × D) → List Key → Option D
  | [], _ => none
  | p :: r, k => if keyOf t p.1 = some k then some p.2 else dlook t r k
def dput (t : Bool) (ps : List (D × D)) (kd : D) (k : List Key) (v : D) : List (D × D) := if (dlook t ps k).isSome = true then ps.map (fun p => if keyOf t p.1 = some k then (p.1, v) else p) else ps ++ [(kd, v)]
def DV (t b : Bool) (K : PySem.W.Frag) (F : Hp) (o : HO) (ps : List (D × D)) : Prop := match t with
  | true => ∃ kvs, o = .dT kvs ∧ RKT b K F kvs ps
  | false => ∃ kvs, o = .dK kvs ∧ RKK b K F kvs ps
theorem DV.mono {t b : Bool} {K : PySem.W.Frag} {F F' : Hp} {o : HO} {ps : List (D × D)} (e : Same F F') (h : DV t b K F o ps) : DV t b K F' o ps := by
  cases t with
  | true => obtain ⟨kvs, e1, r⟩ := h; exact ⟨kvs, e1, r.mono e⟩
  | false => obtain ⟨kvs, e1, r⟩ := h; exact ⟨kvs, e1, r.mono e⟩
inductive OptR (b : Bool) (K : PySem.W.Frag) (F : Hp) : Option V → Option D → Prop
  | none : OptR b K F none none
  | some {v : V} {d : D} : RD b K F v d → OptR b K F (some v) (some d)
section
variable {b : Bool} {K : PySem.W.Frag} {F H : Hp}
theorem rds_keys : ∀ {xs : List V} {ks : List Key} {c : Bool}, RDs c K F xs (ks.map kD) → xs = ks.map kV
  | [], [], _, _ => rfl
  | [], _ :: _, _, h => by cases h
  | _ :: _, [], _, h => by cases h
  | x :: xs, k :: ks, _, h => by
    rw [List.map_cons] at h ⊢
    cases h with
    | cons h t =>
      rw [rds_keys t]
      congr 1
      cases k with
      | inl i => exact dp_int h.dp
      | inr i => exact dp_str h.dp
/-- the value of a key's datum -/
def KeyV (t : Bool) (H : Hp) (y : V) (ks : List Key) : Prop := match t with
  | true => ∃ a, y = .ref a ∧ H a = some (.tup (ks.map kV))
  | false => ∃ k, ks = [k] ∧ y = kV k
theorem keyV_of {t c : Bool} {y : V} {d : D} {ks : List Key} (hc : c = false ∨ t = false) (r : RD c K F y d) (s : Same F H) (h : keyOf t d = some ks) : KeyV t H y ks := by
  cases t with
  | true =>
    have hc : c = false := hc.resolve_right (by decide)
    subst hc
    unfold keyOf at h
    dsimp only at h
    split at h
    · rename_i ds
      have e := tkey_some h
      subst e
      cases r with
      | tup h1 t1 => exact ⟨_, rfl, by rw [← rds_keys t1]; exact s _ _ h1⟩
      | con z _ _ => cases z
    · cases h
  | false =>
    obtain ⟨k, e, rfl⟩ := Option.map_eq_some_iff.mp h
    have := kk_some e
    subst this
    refine ⟨k, rfl, ?_⟩
    cases k with
    | inl i => exact dp_int r.dp
    | inr i => exact dp_str r.dp
theorem rkt_look : ∀ {kvs : List (List Key × V)} {ps : List (D × D)}, RKT b K F kvs ps → ∀ ks, OptR b K F (valV kvs ks) (dlook true ps ks)
  | _, _, .nil, ks => .none
  | _, _, @RKT.cons _ _ _ k v d kvs ps r t, ks => by
    have e : keyOf true (.tuple (k.map kD)) = some k := tkey_kD k
    unfold dlook
    dsimp only
    rw [e]
    by_cases z : k = ks
    · rw [if_pos (by rw [z]), valV_pos z]
      exact .some r
    · rw [if_neg (fun y => z (Option.some.inj y)), valV_neg z]
      exact rkt_look t ks
theorem rkk_look : ∀ {kvs : List (Key × V)} {ps : List (D × D)}, RKK b K F kvs ps → ∀ k, OptR b K F (valV kvs k) (dlook false ps [k])
  | _, _, .nil, ks => .none
  | _, _, @RKK.cons _ _ _ k v d kvs ps r t, ks => by
    have e : keyOf false (kD k) = some [k] := by show (kk (kD k)).map _ = _; rw [kk_kD]; rfl
    unfold dlook
    dsimp only
    rw [e]
    by_cases z : k = ks
    · rw [if_pos (by rw [z]), valV_pos z]
      exact .some r
    · rw [if_neg (fun y => z (by injection y with y; injection y)), valV_neg z]
      exact rkk_look t ks
theorem rkt_len : ∀ {kvs : List (List Key × V)} {ps : List (D × D)}, RKT b K F kvs ps → kvs.length = ps.length
  | _, _, .nil => rfl
  | _, _, .cons _ t => by rw [List.length_cons, List.length_cons, rkt_len t]
theorem rkk_len : ∀ {kvs : List (Key × V)} {ps : List (D × D)}, RKK b K F kvs ps → kvs.length = ps.length
  | _, _, .nil => rfl
  | _, _, .cons _ t => by rw [List.length_cons, List.length_cons, rkk_len t]
theorem rkt_app : ∀ {kvs kvs' : List (List Key × V)} {ps ps' : List (D × D)}, RKT b K F kvs ps → RKT b K F kvs' ps' → RKT b K F (kvs ++ kvs') (ps ++ ps')
  | _, _, _, _, .nil, t => t
  | _, _, _, _, .cons h s, t => .cons h (rkt_app s t)
theorem rkk_app : ∀ {kvs kvs' : List (Key × V)} {ps ps' : List (D × D)}, RKK b K F kvs ps → RKK b K F kvs' ps' → RKK b K F (kvs ++ kvs') (ps ++ ps')
  | _, _, _, _, .nil, t => t
  | _, _, _, _, .cons h s, t => .cons h (rkk_app s t)
theorem rkt_map {v : V} {d : D} {ks : List Key} (r : RD b K F v d) : ∀ {kvs : List (List Key × V)} {ps : List (D × D)}, RKT b K F kvs ps → RKT b K F (kvs.map fun kv => if kv.1 = ks then (kv.1, v) else kv) (ps.map fun p => if keyOf true p.1 = some ks then (p.1, d) else p)
  | _, _, .nil => .nil
  | _, _, @RKT.cons _ _ _ k v' d' kvs ps r' t => by
    have e : keyOf true (.tuple (k.map kD)) = some k := tkey_kD k
    rw [List.map_cons, List.map_cons]
    dsimp only
    rw [e]
    by_cases z : k = ks
    · rw [if_pos z, if_pos (by rw [z])]
      exact .cons r (rkt_map r t)
    · rw [if_neg z, if_neg (fun y => z (Option.some.inj y))]
      exact .cons r' (rkt_map r t)
theorem rkk_map {v : V} {d : D} {k0 : Key} (r : RD b K F v d) : ∀ {kvs : List (Key × V)} {ps : List (D × D)}, RKK b K F kvs ps → RKK b K F (kvs.map fun kv => if kv.1 = k0 then (kv.1, v) else kv) (ps.map fun p => if keyOf false p.1 = some [k0] then (p.1, d) else p)
  | _, _, .nil => .nil
  | _, _, @RKK.cons _ _ _ k v' d' kvs ps r' t => by
    have e : keyOf false (kD k) = some [k] := by show (kk (kD k)).map _ = _; rw [kk_kD]; rfl
    rw [List.map_cons, List.map_cons]
    dsimp only
    rw [e]
    by_cases z : k = k0
    · rw [if_pos z, if_pos (by rw [z])]
      exact .cons r (rkk_map r t)
    · rw [if_neg z, if_neg (fun y => z (by injection y with y; injection y))]
      exact .cons r' (rkk_map r t)
theorem OptR.some_iff {o : Option V} {o' : Option D} (h : OptR b K F o o') : o.isSome = o'.isSome := by cases h <;> rfl
theorem rkt_put {kvs : List (List Key × V)} {ps : List (D × D)} (h : RKT b K F kvs ps) {ks : List Key} {kd d : D} {v : V} (hk : keyOf true kd = some ks) (r : RD b K F v d) : RKT b K F (putK kvs ks v) (dput true ps kd ks d) := by
  unfold putK dput
  rw [valV_any, (rkt_look h ks).some_iff]
  by_cases z : (dlook true ps ks).isSome = true
  · rw [if_pos z, if_pos z]
    exact rkt_map r h
  · rw [if_neg z, if_neg z]
    have : kd = .tuple (ks.map kD) := by
      unfold keyOf at hk
      dsimp only at hk
      split at hk
      · rw [tkey_some hk]
      · cases hk
    rw [this]
    exact rkt_app h (.cons r .nil)
theorem rkk_put {kvs : List (Key × V)} {ps : List (D × D)} (h : RKK b K F kvs ps) {k : Key} {kd d : D} {v : V} (hk : keyOf false kd = some [k]) (r : RD b K F v d) : RKK b K F (putK kvs k v) (dput false ps kd [k] d) := by
  unfold putK dput
  rw [valV_any, (rkk_look h k).some_iff]
  by_cases z : (dlook false ps [k]).isSome = true
  · rw [if_pos z, if_pos z]
    exact rkk_map r h
  · rw [if_neg z, if_neg z]
    have : kd = kD k := by
      obtain ⟨k', e, y⟩ := Option.map_eq_some_iff.mp hk
      cases y
      exact kk_some e
    rw [this]
    exact rkk_app h (.cons r .nil)
theorem dget_ok {t : Bool} {o : HO} {ps : List (D × D)} {a : Addr} {y : V} {ks : List Key} (hd : DV t b K F o ps) (e : H a = some o) (hy : KeyV t H y ks) : ∃ r, DGet H a y r ∧ OptR b K F r (dlook t ps ks) := by
  cases t with
  | true =>
    obtain ⟨kvs, rfl, r⟩ := hd
    obtain ⟨c, rfl, ec⟩ := hy
    exact ⟨_, .inr ⟨kvs, ks, c, .inl e, rfl, ec, rfl⟩, rkt_look r ks⟩
  | false =>
    obtain ⟨kvs, rfl, r⟩ := hd
    obtain ⟨k, rfl, rfl⟩ := hy
    exact ⟨_, .inl ⟨kvs, k, .inl e, rfl, rfl⟩, rkk_look r k⟩
theorem dput_ok {t : Bool} {o : HO} {ps : List (D × D)} {a : Addr} {y v : V} {kd d : D} {ks : List Key} (hd : DV t b K F o ps) (e : H a = some o) (hy : KeyV t H y ks) (hk : keyOf t kd = some ks) (hl : ps.length < sizeLine) (r : RD b K F v d) : ∃ o', DPut H a y v (upd H a o') ∧ DV t b K F o' (dput t ps kd ks d) := by
  cases t with
  | true =>
    obtain ⟨kvs, rfl, rr⟩ := hd
    obtain ⟨c, rfl, ec⟩ := hy
    exact ⟨_, .inr ⟨kvs, ks, c, e, rfl, ec, by rw [rkt_len rr]; exact hl, rfl⟩, _, rfl, rkt_put rr hk r⟩
  | false =>
    obtain ⟨kvs, rfl, rr⟩ := hd
    obtain ⟨k, rfl, rfl⟩ := hy
    exact ⟨_, .inl ⟨kvs, k, e, rfl, by rw [rkk_len rr]; exact hl, rfl⟩, _, rfl, rkk_put rr hk r⟩
theorem isD_of {t : Bool} {o : HO} {ps : List (D × D)} {a : Addr} (hd : DV t b K F o ps) (e : H a = some o) : IsD H a := by
  cases t with
  | true => obtain ⟨kvs, rfl, _⟩ := hd; exact .inr ⟨kvs, .inl e⟩
  | false => obtain ⟨kvs, rfl, _⟩ := hd; exact .inl ⟨kvs, .inl e⟩
end
end FN
namespace FN
open PySem PySem.Spec PyProof.Rows L2
/-- the slot's dict is owned -/
def dictK (t b : Bool) : Option Kind → Prop
  | some (.dT c) => (true, c) = (t, b)
  | some (.dK c) => (false, c) = (t, b)
  | some (.fix _ (.dT c)) => (true, c) = (t, b)
  | some (.fix _ (.dK c)) => (false, c) = (t, b)
  | _ => False
theorem od_dictE {t b : Bool} {K : PySem.W.Frag} {F H : Hp} {k : Kind} {v : V} {ps : List (D × D)} {f : FpS} (hk : dictK t b (some k)) (o : OD K F H k v (.dict ps) f) : ∃ a ob, v = .ref a ∧ H a = some ob ∧ f a ∧ DV t b K F ob ps := by
  unfold dictK at hk
  split at hk
  · rename_i c e
    cases e
    cases hk
    obtain ⟨a, kvs, ps', e1, e2, e3, h1, r⟩ := o
    cases e2
    exact ⟨a, _, e1, e3, h1, kvs, rfl, r⟩
  · rename_i c e
    cases e
    cases hk
    obtain ⟨a, kvs, ps', e1, e2, e3, h1, r⟩ := o
    cases e2
    exact ⟨a, _, e1, e3, h1, kvs, rfl, r⟩
  · rename_i u c e
    cases e
    cases hk
    obtain ⟨a, kvs, ps', e1, e2, e3, h1, r⟩ := (show OD K F H (.dT _) v (.dict ps) f from o)
    cases e2
    exact ⟨a, _, e1, e3, h1, kvs, rfl, r⟩
  · rename_i u c e
    cases e
    cases hk
    obtain ⟨a, kvs, ps', e1, e2, e3, h1, r⟩ := (show OD K F H (.dK _) v (.dict ps) f from o)
    cases e2
    exact ⟨a, _, e1, e3, h1, kvs, rfl, r⟩
  · exact hk.elim
theorem od_dictI {t b : Bool} {K : PySem.W.Frag} {F H : Hp} {k : Kind} {a : Addr} {ob : HO} {ps : List (D × D)} {f : FpS} (hk : dictK t b (some k)) (e : H a = some ob) (h : f a) (d : DV t b K F ob ps) : OD K F H k (.ref a) (.dict ps) f := by
  unfold dictK at hk
  split at hk
  · rename_i c ek
    cases ek
    cases hk
    obtain ⟨kvs, rfl, r⟩ := d
    exact ⟨a, kvs, ps, rfl, rfl, e, h, r⟩
  · rename_i c ek
    cases ek
    cases hk
    obtain ⟨kvs, rfl, r⟩ := d
    exact ⟨a, kvs, ps, rfl, rfl, e, h, r⟩
  · rename_i u c ek
    cases ek
    cases hk
    obtain ⟨kvs, rfl, r⟩ := d
    exact show OD K F H (.dT _) _ _ _ from ⟨a, kvs, ps, rfl, rfl, e, h, r⟩
  · rename_i u c ek
    cases ek
    cases hk
    obtain ⟨kvs, rfl, r⟩ := d
    exact show OD K F H (.dK _) _ _ _ from ⟨a, kvs, ps, rfl, rfl, e, h, r⟩
  · exact hk.elim
theorem own_dict {K : PySem.W.Frag} {t b : Bool} {κ : List Kind} {ρ : Env} {σ : L2.St} {w : Wd} {i : Nat} {ps : List (D × D)} (rel : Rel K κ ρ σ w) (hk : dictK t b κ[i]?) (ed : ρ[i]? = some (some (.dict ps))) :
    ∃ a ob, σ[i]? = some (some (.ref a)) ∧ w.H a = some ob ∧ DV t b K w.F ob ps ∧ ∀ ob' ps', DV t b K w.F ob' ps' → ∃ w', w'.H = upd w.H a ob' ∧ w'.F = w.F ∧ Rel K κ (ρ.set i (some (.dict ps'))) σ w' ∧ Ext w w' := by
  obtain ⟨k, ek⟩ := kind_at rel ed
  rw [ek] at hk
  obtain ⟨v, f, g, ev, o, s, y1, y2, y3⟩ := rel.slots.out ed ek
  have hi : i < σ.length := (List.getElem?_eq_some_iff.mp ev).1
  obtain ⟨a, ob, rfl, eH, ga, dv⟩ := od_dictE hk o
  refine ⟨a, ob, ev, eH, dv, fun ob' ps' r' => ?_⟩
  have nF : w.F a = none := rel.frz a (y2 a ga)
  have ne : ∀ x, g x → x ≠ a := fun x h z => y1 a ga (by rw [← z]; exact h)
  have s' : Slots K w.F (upd w.H a ob') κ (ρ.set i none) σ g := s.frame (Same.refl _) fun x o h q => by rw [upd_ne (ne x h)]; exact q
  have o' : OD K w.F (upd w.H a ob') k (.ref a) (.dict ps') (fun x => x = a) := od_dictI hk upd_same rfl r'
  have p := s'.put hi o' (fun x hx hg => ne x hg hx)
  rw [List.set_set, set_same ek, set_same ev] at p
  refine ⟨⟨w.F, upd w.H a ob', fun x => x = a ∨ g x⟩, rfl, rfl, ⟨fun x o q => ?_, fun x h => ?_, fun x h => ?_, rel.fixed, p⟩, ⟨Same.refl _, fun x o q => .inl q, fun x o q n => ?_, fun x h => .inl ?_⟩⟩
  · show upd w.H a _ x = some o
    rw [upd_ne (ne_of_none q nF)]
    exact rel.same x o q
  · rcases h with rfl | h
    · exact nF
    · exact rel.frz x (y3 x h)
  · show upd w.H a _ x ≠ none
    by_cases hx : x = a
    · rw [hx, upd_same]
      intro z
      cases z
    · rw [upd_ne hx]
      exact rel.live x (h.elim (fun z => absurd z hx) (y3 x))
  · show upd w.H a _ x = some o
    rw [upd_ne (fun z => n (by rw [z]; exact y2 a ga))]
    exact q
  · rcases h with rfl | h
    · exact y2 _ ga
    · exact y3 x h
/-! ### a dict read -/
/-- the operand is a dict -/
def cM (t b : Bool) (κ : List Kind) : Md → Prop
  | .t (.dT c) => (true, c) = (t, b)
  | .t (.dK c) => (false, c) = (t, b)
  | .r i => dictK t b κ[i]?
  | _ => False
def rdD (m : Md) (d : D) (ρ : Env) : Option (List (D × D)) := match m with
  | .t _ => match d with
    | .dict ps => some ps
    | _ => none
  | .r i => match ρ[i]? with
    | some (some (.dict ps)) => some ps
    | _ => none
theorem dict_of {c : Ct} {t b : Bool} {κ : List Kind} {ρ : Env} {σ : L2.St} {w w1 : Wd} {m : Md} {d : D} {v : V} {ps : List (D × D)} (hm : cM t b κ m) (rel : Rel c.K κ ρ σ w1) (tm : TempM c.K m σ w w1 d v) (h : rdD m d ρ = some ps) : ∃ a ob, v = .ref a ∧ w1.H a = some ob ∧ DV t b c.K w1.F ob ps := by
  cases m with
  | t k =>
    unfold rdD at h
    dsimp only at h
    split at h
    · cases h
      obtain ⟨g, o, _⟩ := tm
      have hk : dictK t b (some k) := by
        cases k <;> first | exact hm | exact hm.elim
      obtain ⟨a, ob, e1, e2, _, dv⟩ := od_dictE hk o
      exact ⟨a, ob, e1, e2, dv⟩
    · cases h
  | r i =>
    unfold rdD at h
    dsimp only at h
    split at h
    · rename_i ps' ed
      cases h
      obtain ⟨a, ob, ev, eH, dv, _⟩ := own_dict rel hm ed
      rw [show σ[i]? = some (some v) from tm] at ev
      cases ev
      exact ⟨a, ob, rfl, eH, dv⟩
    · cases h
section
variable {X : Cx} {W : WX} {C : FC} {t b : Bool} {κ : List Kind} {pos : Pos} {o e : Expr} {fo fk fa : M D} {m mk : Md} {kb : Bool}
/-- d[k] -/
def fDGet (t : Bool) (m : Md) (fo fk : M D) : M D := fun ρ => bdo (fo ρ) fun d ρ1 => bdo (fk ρ1) fun k ρ2 => match rdD m d ρ2, keyOf t k with
  | some ps, some ks => (dlook t ps ks).map fun v => .ok v ρ2
  | _, _ => none
/-- the key's kind -/
def kM (t kb : Bool) : Prop := kb = false ∨ t = false
theorem fe_dget (hu : X.A.units + 64 < cLine) (ho : FV X W κ m o fo) (hi : FV X W κ (.t (.v kb)) e fk) (hm : cM t b κ m := by rfl) (hkb : kM t kb := by first | exact .inl rfl | exact .inr rfl) (hs : NoSl e := by intro _ _; rfl) : FV X W κ (.t (.v b)) (.Subscript o e pos) (fDGet t m fo fk) :=
  (pe_dget (by omega) ho hi hs).imp fun σ H Q h => by
    obtain ⟨ρ, w, rfl, rel, post⟩ := h
    refine seqV (P := PostV (ctx X W) κ σ (.t (.v b)) w Q) rel post (fun z => z) (fun n d ρ' z => z) fun d ρ1 v w1 rel1 e1 t1 post1 => ?_
    refine seqV (P := PostV (ctx X W) κ σ (.t (.v b)) w Q) rel1 post1 (fun z => z) (fun n d ρ' z => z.since e1) fun k ρ2 y w2 rel2 e2 t2 post2 => ?_
    split at post2
    · rename_i ps ks ep ek
      obtain ⟨a, ob, rfl, eH, dv⟩ := dict_of hm rel2 (t1.keep e2) ep
      have kv := keyV_of hkb (Temp.rd t2) rel2.same ek
      obtain ⟨r, g, oR⟩ := dget_ok dv eH kv
      generalize dlook t ps ks = x at post2 oR
      cases oR with
      | none => exact post2.elim
      | some rr => exact ⟨a, _, rfl, g, fin_imm post2 rel2 (e1.trans e2) rr⟩
    · exact post2.elim
/-- k in d -/
def fDIn (t neg : Bool) (m : Md) (fk fo : M D) : M D := fun ρ => bdo (fk ρ) fun k ρ1 => bdo (fo ρ1) fun d ρ2 => match rdD m d ρ2, keyOf t k with
  | some ps, some ks => some (.ok (.bool (if neg then !(dlook t ps ks).isSome else (dlook t ps ks).isSome)) ρ2)
  | _, _ => none
theorem ev_din {bb neg : Bool} {σ : L2.St} {H : Hp} {Q : VK} (hm : cM t b κ m) (hkb : kM t kb) (h : tV (ctx X W) κ (.t (.v bb)) (fDIn t neg m fk fo) σ H Q) : tV (ctx X W) κ (.t (.v kb)) fk σ H fun y H1 => tV (ctx X W) κ m fo σ H1 fun x H2 => ∃ a r, x = .ref a ∧ DGet H2 a y r ∧ Q (.bl (if neg then !r.isSome else r.isSome)) H2 := by
  obtain ⟨ρ, w, rfl, rel, post⟩ := h
  refine seqV (P := PostV (ctx X W) κ σ (.t (.v bb)) w Q) rel post (fun z => z) (fun n d ρ' z => z) fun k ρ1 y w1 rel1 e1 t1 post1 => ?_
  refine seqV (P := PostV (ctx X W) κ σ (.t (.v bb)) w Q) rel1 post1 (fun z => z) (fun n d ρ' z => z.since e1) fun d ρ2 v w2 rel2 e2 t2 post2 => ?_
  split at post2
  · rename_i ps ks ep ek
    obtain ⟨a, ob, rfl, eH, dv⟩ := dict_of hm rel2 t2 ep
    have kv := keyV_of hkb (Temp.rd (t1.keep e2)) rel2.same ek
    obtain ⟨r, g, oR⟩ := dget_ok dv eH kv
    refine ⟨a, r, rfl, g, ?_⟩
    have := fin_imm post2 rel2 (e1.trans e2) (.bl _)
    rw [← oR.some_iff] at this
    exact this
  · exact post2.elim
theorem fe_din {bb : Bool} (hu : X.A.units + 64 < cLine) (hi : FV X W κ (.t (.v kb)) e fk) (ho : FV X W κ m o fo) (hmk : behindInMarks .In o = false) (hm : cM t b κ m := by rfl) (hkb : kM t kb := by first | exact .inl rfl | exact .inr rfl) : FV X W κ (.t (.v bb)) (.Compare e [.In] [o] pos) (fDIn t false m fk fo) :=
  (pe_cmp (pc_din (by omega) hi ho) hmk).imp fun σ H Q h => ev_din (neg := false) hm hkb h
theorem fe_dnin {bb : Bool} (hu : X.A.units + 64 < cLine) (hi : FV X W κ (.t (.v kb)) e fk) (ho : FV X W κ m o fo) (hmk : behindInMarks .NotIn o = false) (hm : cM t b κ m := by rfl) (hkb : kM t kb := by first | exact .inl rfl | exact .inr rfl) : FV X W κ (.t (.v bb)) (.Compare e [.NotIn] [o] pos) (fDIn t true m fk fo) :=
  (pe_cmp (pc_dnotin (by omega) hi ho) hmk).imp fun σ H Q h => ev_din (neg := true) hm hkb h
theorem ft_din (hu : X.A.units + 64 < cLine) (hi : FV X W κ (.t (.v kb)) e fk) (ho : FV X W κ m o fo) (hmk : behindInMarks .In o = false) (hm : cM t b κ m := by rfl) (hkb : kM t kb := by first | exact .inl rfl | exact .inr rfl) : FT X W κ (.Compare e [.In] [o] pos) (fTst (fDIn t false m fk fo)) :=
  (pt_cmp (pc_din (by omega) hi ho) hmk).imp fun σ H Q h => ev_din (bb := true) (neg := false) hm hkb (tst_of h)
theorem ft_dnin (hu : X.A.units + 64 < cLine) (hi : FV X W κ (.t (.v kb)) e fk) (ho : FV X W κ m o fo) (hmk : behindInMarks .NotIn o = false) (hm : cM t b κ m := by rfl) (hkb : kM t kb := by first | exact .inl rfl | exact .inr rfl) : FT X W κ (.Compare e [.NotIn] [o] pos) (fTst (fDIn t true m fk fo)) :=
  (pt_cmp (pc_dnotin (by omega) hi ho) hmk).imp fun σ H Q h => ev_din (bb := true) (neg := true) hm hkb (tst_of h)
end
end FN
namespace FN
open PySem PySem.Spec PyProof.Rows L2
section
variable {c : Ct} {κ : List Kind} {σ : L2.St} {w w1 : Wd} {ρ : Env} {d : D} {Q : VK}
/-- a new owned object -/
theorem fin_own {k : Kind} {p : Addr} {o : HO} (h : PostV c κ σ (.t k) w Q (some (.ok d ρ))) (rel : Rel c.K κ ρ σ w1) (e : Ext w w1) (np : w1.H p = none) (od : OD c.K w1.F (upd w1.H p o) k (.ref p) d (fun a => a = p)) : Q (.ref p) (upd w1.H p o) := by
  obtain ⟨w2, eH, eF, ef, rel2, e2⟩ := world_own (o := o) rel np
  rw [← eH]
  refine h _ w2 rel2 (e.trans e2) ⟨fun a => a = p, by rw [eF, eH]; exact od, fun a ha => ?_⟩
  have ha' : a = p := ha
  rw [ha']
  refine ⟨fun z => ?_, ?_, ?_, ?_⟩
  · rw [ef] at z
    exact rel.live _ z np
  · rw [eF]
    exact rel.same.free np
  · rw [eH, upd_same]
    intro z; cases z
  · cases q : w.H p with
    | none => exact .inr rfl
    | some o =>
      by_cases y : w.fp p
      · exact .inl y
      · rw [e.keep p o q y] at np; cases np
/-- an object beside the slots, changed -/
theorem fin_own2 {k : Kind} {p : Addr} {o : HO} {w2 : Wd} {ρ2 : Env} (h : PostV c κ σ (.t k) w Q (some (.ok d ρ2))) (ew : Ext w w1) (np : w.H p = none) (nfp : ¬ w1.fp p) (nF : w1.F p = none) (hp : w1.H p ≠ none) (rel2 : Rel c.K κ ρ2 σ w2) (e : Ext w1 w2) (od : OD c.K w2.F (upd w2.H p o) k (.ref p) d (fun a => a = p)) : Q (.ref p) (upd w2.H p o) := by
  have hp1 : ∃ u, w1.H p = some u := by
    cases q : w1.H p with
    | none => exact absurd q hp
    | some u => exact ⟨u, rfl⟩
  obtain ⟨u, hu⟩ := hp1
  have n2 : ¬ w2.fp p := e.nofp hu nfp
  have nF2 : w2.F p = none := by
    cases y : w2.F p with
    | none => rfl
    | some u' =>
      rcases e.new p u' y with y | y | y
      · rw [nF] at y; cases y
      · exact absurd y nfp
      · rw [hu] at y; cases y
  have ne : ∀ a, w2.fp a → a ≠ p := fun a h z => n2 (by rw [← z]; exact h)
  have rel3 : Rel c.K κ ρ2 σ ⟨w2.F, upd w2.H p o, w2.fp⟩ := by
    refine ⟨fun b u h => ?_, rel2.frz, fun a h => ?_, rel2.fixed, rel2.slots.frame (Same.refl _) fun a u h q => ?_⟩
    · show upd w2.H p o b = some u
      rw [upd_ne (ne_of_none h nF2)]
      exact rel2.same b u h
    · show upd w2.H p o a ≠ none
      rw [upd_ne (ne a h)]
      exact rel2.live a h
    · show upd w2.H p o a = some u
      rw [upd_ne (ne a h)]
      exact q
  have e02 := ew.trans e
  have e3 : Ext w ⟨w2.F, upd w2.H p o, w2.fp⟩ := ⟨e02.same, e02.new, fun a u h n => by
    show upd w2.H p o a = some u
    rw [upd_ne (fun z => by rw [z, np] at h; cases h)]
    exact e02.keep a u h n, e02.fp⟩
  refine h _ ⟨w2.F, upd w2.H p o, w2.fp⟩ rel3 e3 ⟨fun a => a = p, od, fun a ha => ?_⟩
  have ha' : a = p := ha
  rw [ha']
  exact ⟨n2, nF2, (by show upd w2.H p o p ≠ none; rw [upd_same]; intro z; cases z), .inr np⟩
end
section
variable {X : Cx} {W : WX} {C : FC} {t b : Bool} {κ κn : List Kind} {pos apos cpos : Pos} {o e e2 : Expr} {fo fk fa : M D} {m mk : Md} {kb : Bool} {i : Nat}
/-- d.get(k) -/
def fDGet1 (t : Bool) (m : Md) (fo fk : M D) : M D := fun ρ => bdo (fo ρ) fun d ρ1 => match rdD m d ρ1 with
  | some _ => bdo (fk ρ1) fun k ρ2 => match rdD m d ρ2, keyOf t k with
    | some ps, some ks => some (.ok ((dlook t ps ks).getD .none) ρ2)
    | _, _ => none
  | none => none
theorem fe_dget1 (hu : X.A.units + 64 < cLine) (ho : FV X W κ m o fo) (hi : FV X W κ (.t (.v kb)) e fk) (m1 : M1 X o "get" apos e cpos) (hm : cM t b κ m := by rfl) (hkb : kM t kb := by first | exact .inl rfl | exact .inr rfl) : FV X W κ (.t (.v b)) (.Call (.Attribute o "get" apos) [e] [] cpos) (fDGet1 t m fo fk) :=
  (pe_dget1 (by omega) ho hi m1).imp fun σ H Q h => by
    obtain ⟨ρ, w, rfl, rel, post⟩ := h
    refine seqV (P := PostV (ctx X W) κ σ (.t (.v b)) w Q) rel post (fun z => z) (fun n d ρ' z => z) fun d ρ1 v w1 rel1 e1 t1 post1 => ?_
    split at post1
    · rename_i ps0 ep0
      obtain ⟨a, ob, rfl, eH, dv⟩ := dict_of hm rel1 t1 ep0
      refine ⟨a, rfl, isD_of dv eH, ?_⟩
      refine seqV (P := PostV (ctx X W) κ σ (.t (.v b)) w Q) rel1 post1 (fun z => z) (fun n d ρ' z => z.since e1) fun k ρ2 y w2 rel2 e2 t2 post2 => ?_
      split at post2
      · rename_i ps ks ep ek
        obtain ⟨a', ob', ea, eH', dv'⟩ := dict_of hm rel2 (t1.keep e2) ep
        cases ea
        have kv := keyV_of hkb (Temp.rd t2) rel2.same ek
        obtain ⟨r, g, oR⟩ := dget_ok dv' eH' kv
        refine ⟨r, g, ?_⟩
        generalize dlook t ps ks = x at post2 oR
        cases oR with
        | none => exact fin_imm post2 rel2 (e1.trans e2) .non
        | some rr => exact fin_imm post2 rel2 (e1.trans e2) rr
      · exact post2.elim
    · exact post1.elim
/-- d[k] = v -/
def sDPut (t : Bool) (i : Nat) (fk fa : M D) : Env → Option Fl := fun ρ => bnd (fa ρ) Fl.err fun d ρ1 => match ρ1[i]? with
  | some (some (.dict _)) => bnd (fk ρ1) Fl.err fun k ρ2 => match ρ2[i]?, keyOf t k with
    | some (some (.dict ps)), some ks => if ps.length < sizeLine then some (.nx (ρ2.set i (some (.dict (dput t ps k ks d))))) else none
    | _, _ => none
  | _ => none
theorem fs_dput {x : Str} {xp p : Pos} {ix a : Expr} (hu : X.A.units + 64 < cLine) (ho : FV X W κ (.r i) (.Name x xp) (fRef i)) (hi : FV X W κ (.t (.v kb)) ix fk) (ha : FV X W κ (.t (.v b)) a fa) (hm : dictK t b κ[i]? := by rfl) (hkb : kM t kb := by first | exact .inl rfl | exact .inr rfl) (he : EK C κ := by first | exact .inl rfl | exact .inr rfl)
    (hs : swapsWith a (some (.Subscript (.Name x xp) ix p)) pos.line X.env = pure false := by rfl) : FS X W C κ κ (.Assign [.Subscript (.Name x xp) ix p] a pos) (sDPut t i fk fa) := (ps_dput (by omega) ho hi ha hs).imp fun D' σ H h => by
  obtain ⟨ρ, w, rfl, rel, post⟩ := h
  refine seqV (P := PostS (ctx X W) C κ D' w) rel post (fun z => z) (fun n d ρ' z => errS he z) fun d ρ1 v w1 rel1 e1 t1 post1 => ?_
  split at post1
  · rename_i ps0 ed0
    refine ⟨ρ1, w1, rfl, rel1, ?_⟩
    unfold fRef
    rw [ed0]
    intro v0 w2 rel2 e2 t2
    obtain ⟨a0, ob0, ev0, _, _, _⟩ := own_dict rel2 hm ed0
    rw [show σ[i]? = some (some v0) from t2] at ev0
    cases ev0
    refine seqV (P := PostS (ctx X W) C κ D' w) rel2 post1 (fun z => z) (fun n d ρ' z => ErrOk.since (errS he z) (e1.trans e2)) fun k ρ3 y w3 rel3 e3 t3 post3 => ?_
    split at post3
    · rename_i ps ks ed ek
      split at post3
      · rename_i hl
        obtain ⟨a', ob, ev, eH, dv, wr⟩ := own_dict rel3 hm ed
        rw [show σ[i]? = some (some (V.ref a0)) from t2] at ev
        cases ev
        have kv := keyV_of hkb (Temp.rd t3) rel3.same ek
        have rv : RD b X.K w3.F v d := ((Temp.rd t1).mono e2.same).mono e3.same
        obtain ⟨ob', dp, dv'⟩ := dput_ok dv eH kv ek hl rv
        obtain ⟨w4, eH4, _, rel4, e4⟩ := wr ob' _ dv'
        refine ⟨a0, w4.H, rfl, by rw [eH4]; exact dp, ?_⟩
        exact post3 σ w4 rel4 (((e1.trans e2).trans e3).trans e4)
      · exact post3.elim
    · exact post3.elim
  · exact post1.elim
/-- {} -/
theorem fe_dnewK : FV X W κ (.t (.dK b)) (.Dict [] [] pos) (fC (.dict [])) := pe_dnewK.imp fun σ H Q h => by
  obtain ⟨ρ, w, rfl, rel, post⟩ := h
  exact fun p np => fin_own post rel (Ext.refl _) np ⟨p, [], [], rfl, rfl, upd_same, rfl, .nil⟩
theorem fe_dnewT : FV X W κ (.t (.dT b)) (.Dict [] [] pos) (fC (.dict [])) := pe_dnewT.imp fun σ H Q h => by
  obtain ⟨ρ, w, rfl, rel, post⟩ := h
  exact fun p np => fin_own post rel (Ext.refl _) np ⟨p, [], [], rfl, rfl, upd_same, rfl, .nil⟩
/-- {k: v} -/
def fDisp (t : Bool) (fk fa : M D) : M D := fun ρ => bdo (fk ρ) fun k ρ1 => bdo (fa ρ1) fun v ρ2 => match keyOf t k with
  | some _ => some (.ok (.dict [(k, v)]) ρ2)
  | none => none
theorem fe_dispT (hu : X.A.units + 64 < cLine) (hk : FV X W κ (.t (.v false)) e fk) (hv : FV X W κ (.t (.v b)) e2 fa) : FV X W κ (.t (.dT b)) (.Dict [some e] [e2] pos) (fDisp true fk fa) := (pe_dispT (by omega) hk hv).imp fun σ H Q h => by
  obtain ⟨ρ, w, rfl, rel, post⟩ := h
  intro p np
  obtain ⟨w0, eH, eF, ef, rel0, e0⟩ := world_own (o := .dT []) rel np
  rw [← eH]
  refine seqV (P := PostV (ctx X W) κ σ (.t (.dT b)) w Q) rel0 post (fun z => z) (fun n d ρ' z => z.since e0) fun k ρ1 x w1 rel1 e1 t1 post1 => ?_
  refine seqV (P := PostV (ctx X W) κ σ (.t (.dT b)) w Q) rel1 post1 (fun z => z) (fun n d ρ' z => z.since (e0.trans e1)) fun d ρ2 v w2 rel2 e2 t2 post2 => ?_
  split at post2
  · rename_i ks ek
    have n0 : ¬ w0.fp p := fun z => rel.live p (by rw [← ef]; exact z) np
    have h0 : w0.H p = some (.dT []) := by rw [eH, upd_same]
    have nF0 : w0.F p = none := by rw [eF]; exact rel.same.free np
    have e12 := e1.trans e2
    have kv := keyV_of (t := true) (.inl rfl) ((Temp.rd t1).mono e2.same) rel2.same ek
    obtain ⟨c, rfl, ec⟩ := kv
    have ekd : k = .tuple (ks.map kD) := by
      unfold keyOf at ek
      dsimp only at ek
      split at ek
      · rw [tkey_some ek]
      · cases ek
    refine ⟨e12.keep p _ h0 n0, c, ks, rfl, ec, ?_⟩
    refine fin_own2 post2 e0 np n0 nF0 (by rw [h0]; intro z; cases z) rel2 e12 ⟨p, _, _, rfl, rfl, upd_same, rfl, ?_⟩
    rw [ekd]
    exact .cons (Temp.rd t2) .nil
  · exact post2.elim
theorem fe_dispK (hk : FV X W κ (.t (.v kb)) e fk) (hv : FV X W κ (.t (.v b)) e2 fa) : FV X W κ (.t (.dK b)) (.Dict [some e] [e2] pos) (fDisp false fk fa) := (pe_disp (pps_cons hk hv pps_nil) rfl rfl (by simp) (by simp)).imp fun σ H Q h => by
  obtain ⟨ρ, w, rfl, rel, post⟩ := h
  intro p np
  obtain ⟨w0, eH, eF, ef, rel0, e0⟩ := world_own (o := .dK []) rel np
  rw [← eH]
  show tV _ _ _ _ _ _ _
  refine seqV (P := PostV (ctx X W) κ σ (.t (.dK b)) w Q) rel0 post (fun z => z) (fun n d ρ' z => z.since e0) fun k ρ1 x w1 rel1 e1 t1 post1 => ?_
  show tV _ _ _ _ _ _ _
  refine seqV (P := PostV (ctx X W) κ σ (.t (.dK b)) w Q) rel1 post1 (fun z => z) (fun n d ρ' z => z.since (e0.trans e1)) fun d ρ2 v w2 rel2 e2 t2 post2 => ?_
  split at post2
  · rename_i ks ek
    have n0 : ¬ w0.fp p := fun z => rel.live p (by rw [← ef]; exact z) np
    have h0 : w0.H p = some (.dK []) := by rw [eH, upd_same]
    have nF0 : w0.F p = none := by rw [eF]; exact rel.same.free np
    have e12 := e1.trans e2
    have kv := keyV_of (t := false) (.inr rfl) ((Temp.rd t1).mono e2.same) rel2.same ek
    obtain ⟨c, rfl, rfl⟩ := kv
    have ekd : k = kD c := by
      obtain ⟨k', e, y⟩ := Option.map_eq_some_iff.mp ek
      cases y
      exact kk_some e
    refine ⟨e12.keep p _ h0 n0, [(c, v)], rfl, by simp, ?_⟩
    refine fin_own2 post2 e0 np n0 nF0 (by rw [h0]; intro z; cases z) rel2 e12 ⟨p, _, _, rfl, rfl, upd_same, rfl, ?_⟩
    rw [ekd]
    exact .cons (Temp.rd t2) .nil
  · exact post2.elim
end
end FN
set_option Elab.async false
set_option linter.all false
set_option maxRecDepth 100000
set_option maxHeartbeats 4000000
/-! FN22: owned lists given away; sorted, reversed slices, index. -/
namespace FN
open PySem PySem.Spec PyProof.Rows L2
section
variable {X : Cx} {W : WX} {C : FC} {b : Bool} {κ κn : List Kind} {pos p : Pos} {e a o : Expr} {fa fb fo : M D} {m ma mb : Md} {i : Nat}
/-- the list of slot i goes out of the slot, as a datum -/
def fMove (i : Nat) : M D := fun ρ => match ρ[i]? with
  | some (some (.list ds)) => some (.ok (.list ds) (ρ.set i none))
  | _ => none
theorem fe_move (i : Nat) {x : Str} (hk : κ[i]? = some (.lst (.v b)) := by rfl) (hN : X.N[i]? = some x := by rfl) (hv : Vis X.env.scope x := by first | exact Or.inl rfl | exact Or.inr (Or.inl rfl) | exact Or.inr (Or.inr rfl)) (hd : (x == ("__debug__" : Str)) = false := by decide)
    (hcd : (x == ("__classdict__" : Str)) = false := by decide) : FV X W κ (.t (.v b)) (.Name x pos) (fMove i) := (pe_var hN hv hd hcd).imp fun σ H Q h => by
  obtain ⟨ρ, w, rfl, rel, post⟩ := h
  unfold fMove at post
  split at post
  · rename_i ds ed
    obtain ⟨v, f, g, ev, o, s, y1, y2, y3⟩ := rel.slots.out ed hk
    obtain ⟨a, xs, ds0, g', rfl, e2, eH, ga, _, _, od⟩ := o
    cases e2
    have rs := odl_rds od
    refine ⟨.ref a, ev, ?_⟩
    have nF : w.F a = none := rel.frz a (y2 a ga)
    have sF : Same w.F (upd w.F a (.lst xs)) := fun c u h => by rw [upd_ne (ne_of_none h nF)]; exact h
    refine post (.ref a) ⟨upd w.F a (.lst xs), w.H, g⟩ ⟨fun c u h => ?_, fun c h => ?_, fun c h => rel.live c (y3 c h), rel.fixed, s.frame sF fun _ _ _ q => q⟩ ⟨sF, fun c u h => ?_, fun c u h _ => h, fun c h => .inl (y3 c h)⟩ (Temp.imm (.lst upd_same (rs.mono sF)))
    · by_cases hc : c = a
      · subst hc
        have h' : upd w.F c (.lst xs) c = some u := h
        rw [upd_same] at h'
        rw [← h']
        exact eH
      · have h' : upd w.F a (.lst xs) c = some u := h
        rw [upd_ne hc] at h'
        exact rel.same c u h'
    · show upd w.F a (.lst xs) c = none
      rw [upd_ne (fun z => y1 a ga (by rw [← z]; exact h))]
      exact rel.frz c (y3 c h)
    · by_cases hc : c = a
      · exact .inr (.inl (by rw [hc]; exact y2 a ga))
      · have h' : upd w.F a (.lst xs) c = some u := h
        rw [upd_ne hc] at h'
        exact .inl h'
  · exact post.elim
end
end FN
/-! ### t[::-1] of a tuple -/
namespace HTR
open PySem PyProof.Rows HT
open PySem.SeqAt
open PySem.MeetsSeq PySem.MeetsSeq2 PySem.MeetsSeq3
section
variable {prog : Program} {w : World} {A : Around} {E : Value → Shared → Prop} {s : Shared}
theorem places_rev (n : Nat) : Builtin.Slice.sliceAdjust none none (-1) (n : Int) = ((n : Int) - 1, -1) ∧ Builtin.Slice.slicePlaces ((n : Int) - 1) (-1) (-1) = n := by
  refine ⟨rfl, ?_⟩
  unfold Builtin.Slice.slicePlaces
  rw [if_neg (by decide)]
  by_cases h : (n : Int) - 1 > -1
  · rw [if_pos h, Int.neg_neg, Int.ediv_one]
    omega
  · rw [if_neg h]
    omega
theorem pick_back (xs : Array Value) : ((List.range xs.size).filterMap fun (m : Nat) => xs[(((xs.size : Int) - 1) + (m : Int) * (-1)).toNat]?).toArray = xs.toList.reverse.toArray := by
  congr 1
  refine List.ext_getElem? fun i => ?_
  have key : ∀ k ≤ xs.size, (List.range k).filterMap (fun (m : Nat) => xs[(((xs.size : Int) - 1) + (m : Int) * (-1)).toNat]?) = (xs.toList.reverse).take k := by
    intro k
    induction k with
    | zero => intro _; rfl
    | succ k ih =>
      intro hk
      rw [List.range_succ, List.filterMap_append, ih (by omega), List.take_add_one]
      congr 1
      have e : (((xs.size : Int) - 1) + (k : Int) * (-1)).toNat = xs.size - 1 - k := by omega
      have hl : k < xs.toList.length := by rw [Array.length_toList]; omega
      rw [List.getElem?_reverse hl, List.filterMap_cons, e]
      have h2 : xs.size - 1 - k < xs.size := by omega
      rw [Array.length_toList, Array.getElem?_eq_getElem h2, List.getElem?_eq_getElem (by rw [Array.length_toList]; exact h2)]
      rfl
  rw [key _ (Nat.le_refl _), List.take_of_length_le (by rw [List.length_reverse, Array.length_toList]; exact Nat.le_refl _)]
theorem applied_rev {c : Addr} {vs : Value} {n : Nat} {R : Int × Int × Nat → Shared → Prop} (hc : s.heap.IsSliceOf c .none .none vs) (ps : IsPart vs (some (-1))) (q : R ((n : Int) - 1, -1, n) s) : wpAny (model prog w) A (Builtin.Slice.sliceApplied (.ref c) (pure (n : Int))) R E s := by
  obtain ⟨ob, hob, _, hf⟩ := id hc
  unfold Builtin.Slice.sliceApplied Builtin.Slice.sliceFields
  refine wpAny_bind (wpAny_bind (wpAny_field hob hf (x := .none) rfl (wpAny_bind (wpAny_field hob hf (x := .none) rfl (wpAny_bind (wpAny_field hob hf (x := vs) rfl (wpAny_pure ?_)))))))
  refine wpAny_bind (slicePart_ ps ?_)
  show wpAny _ _ (if ((-1 : Int) == 0) = true then _ else _) _ _ s
  rw [if_neg (by decide)]
  refine wpAny_bind (slicePart_none (wpAny_bind (slicePart_none (wpAny_bind (wpAny_pure ?_)))))
  show wpAny _ _ (match Builtin.Slice.sliceAdjust none none (-1) (n : Int) with | (a, b) => pure (a, (-1 : Int), Builtin.Slice.slicePlaces a b (-1))) _ _ s
  rw [(places_rev n).1]
  show wpAny _ _ (pure ((n : Int) - 1, (-1 : Int), Builtin.Slice.slicePlaces ((n : Int) - 1) (-1) (-1))) _ _ s
  rw [(places_rev n).2]
  exact wpAny_pure q
theorem getItem_back {a c : Addr} {xs : Array Value} {vs : Value} {R : Value → Shared → Prop} (ha : IsTup s.heap a xs) (hc : s.heap.IsSliceOf c .none .none vs) (ps : IsPart vs (some (-1)))
    (q : R (.ref s.heap.objs.size) { s with heap := s.heap.push { cls := .type "tuple", data := .seq xs.toList.reverse.toArray } }) (hz : xs.size ≤ sizeLine) : wpAny (model prog w) A (getItem (.ref a) (.ref c)) R E s := by
  obtain ⟨ob, hob, hcc, _⟩ := id hc
  have hTc : s.TypeIs (.ref c) "slice" := ⟨ob, hob, hcc⟩
  have fits : sizeOk (.seq xs.toList.reverse.toArray) := by
    show xs.toList.reverse.toArray.size ≤ sizeLine
    rw [List.size_toArray, List.length_reverse, Array.length_toList]
    exact hz
  unfold getItem
  try with_reducible refine wpAny_holding ?_
  first | refine wpAny_bind (wpAny_pure ?_) | skip
  refine wpAny_bind (wpAny_sequenceKey ha.typeIs (by decide) ?_)
  refine wpAny_bind (wpAny_callSpecial?_slot (name := Str.ofString "__getitem__") ha.typeIs PyProof.Rows.slot_tuple_getitem (wpAny_call_entry PyProof.Rows.slot_tuple_getitem ha.typeIs entry_tuple_getitem ?_ (args_tuple_getitem _ _)))
  show wpAny _ _ (Builtin.Tuple.tupleItemsOf (.ref a) >>= _) _ _ s
  refine wpAny_bind (tupleItemsOf_ ha ?_)
  refine wpAny_bind (wpAny_typeOf hTc ?_)
  rw [if_pos (by decide)]
  refine wpAny_bind (applied_rev hc ps ?_)
  show wpAny _ _ (if (((xs.size : Int) - 1) == 0 && (-1 : Int) == 1 && xs.size == xs.size) = true then _ else _) _ _ s
  rw [if_neg (by simp), pick_back]
  first
    | exact wpAny_bind (m := Builtin.Tuple.tupleExact _) (wpAny_newObj_type (wpAny_pure ⟨_, rfl, wpAny_pure q⟩) fits)
    | exact wpAny_bind (m := Builtin.Tuple.tupleExact _) (wpAny_newObj_type (wpAny_bind (wpAny_pure (wpAny_pure ⟨_, rfl, wpAny_pure q⟩))) fits)
    | exact wpAny_bind (wpAny_bind (m := Builtin.Tuple.tupleExact _) (wpAny_newObj_type (wpAny_pure (wpAny_pure ⟨_, rfl, wpAny_pure q⟩)) fits))
    | exact wpAny_bind (wpAny_bind (m := Builtin.Tuple.tupleExact _) (wpAny_newObj_type (wpAny_pure ⟨_, rfl, wpAny_pure q⟩) fits))
end
end HTR
namespace L2
open PySem PySem.Spec PyProof.Rows
/-- a list or a tuple, from behind -/
def tRevA (K : PySem.W.Frag) (te : TE) : TE := fun σ H Q => te σ H fun x H1 => ∃ a xs, x = .ref a ∧ ((SqT K H1 a xs ∧ ∀ p, H1 p = none → Q (.ref p) (upd H1 p (.tup xs.reverse))) ∨ SqL K H1 a xs ∧ ∀ p, H1 p = none → Q (.ref p) (upd H1 p (.lst xs.reverse)))
theorem pe_revA {o : Expr} {to : TE} {k : Nat} {q1 q2 q3 pos : Pos} {X : Cx} (ho : PE X o to) : PE X (.Subscript o (.Slice none none (some (.UnaryOp .USub (.Constant (.int 1) k q1) q2)) q3) pos) (tRevA X.K to) := by
  refine ⟨fun pins s σ H Q I hh => ?_⟩
  refine Subscript_ (thn (ho.run pins s σ H _ I hh) fun v0 s1 ⟨x, H1, I1, r1, a, xs, ex, alt⟩ => ?_)
  subst ex
  cases r1
  have hst : PO X (some (.UnaryOp .USub (.Constant (.int 1) k q1) q2)) (tPart (tUn (rU fun i => .int (-i)) (tC (.int 1)))) := po_some (pe_un un_neg pe_int)
  refine wpAny_Slice (thn (po_none.run pins s1 σ H1 (fun z H2 => z = none ∧ H2 = H1) I1 ⟨rfl, rfl⟩) fun vl s2 ⟨z, H2, I2, pl, ez, e2⟩ => ?_)
  subst ez e2
  refine thn (po_none.run pins s2 σ H2 (fun z H3 => z = none ∧ H3 = H2) I2 ⟨rfl, rfl⟩) fun vu s3 ⟨z, H3, I3, pu, ez, e3⟩ => ?_
  subst ez e3
  refine thn (hst.run pins s3 σ H3 (fun z H4 => z = some (-1) ∧ H4 = H3) I3 ⟨1, rfl, -1, rfl, rfl, rfl⟩) fun vs s4 ⟨z, H4, I4, ps, ez, e4⟩ => ?_
  subst ez e4
  have I5 : Inv X pins σ H4 { s4 with heap := s4.heap.push { cls := .type "slice", data := .fields #[vl, vu, vs] } } := I4.kept (t' := s4.toks) fun b ob q => Heap.get?_push_of_some _ q
  cases pl
  cases pu
  show wpAny (model X.prog X.w) X.A (subscriptTail o (.Slice none none (some (.UnaryOp .USub (.Constant (.int 1) k q1) q2)) q3) (.ref a) (.ref s4.heap.objs.size)) (EP X pins σ Q) X.xe { s4 with heap := s4.heap.push { cls := .type "slice", data := .fields #[.none, .none, vs] } }
  rcases alt with ⟨hx, q⟩ | ⟨hx, q⟩
  · obtain ⟨its, r, ht, hz⟩ := I5.tuple hx
    have hlen := r.length
    refine tail_any (ops := [.ref a, .ref s4.heap.objs.size]) ht.typeIs (PyProof.Rows.slot_tuple_getitem.lookup) ?_ (by with_unfolding_all rfl)
    refine HTR.getItem_back ht (Heap.IsSliceOf.new _ .none .none vs) ps ?_ (by rw [List.size_toArray]; omega)
    refine ⟨.ref _, _, I5.laid (t' := s4.toks) (o := .tup xs.reverse) (fun b ob q => Heap.get?_push_of_some _ q) (Nat.le_refl _) ?_, rfl, q _ (I5.hok.fresh (Nat.le_refl _))⟩
    exact ⟨by rw [List.length_reverse]; exact hz, _, r.reverse, IsTup.new _ _⟩
  · obtain ⟨its, r, ht, hz⟩ := I5.list hx
    have hlen := r.length
    refine tail_any (ops := [.ref a, .ref s4.heap.objs.size]) ht.isList.typeIs (PySem.slot_list_getitem.lookup) ?_ (by with_unfolding_all rfl)
    refine wpAny_getItem_list_slice ht.isList (Heap.IsSliceOf.new _ .none .none vs) .none .none ps (by decide) ?_ (by rw [List.size_toArray]; omega)
    rw [PySem.W.krv_pick]
    refine ⟨.ref _, _, I5.laid (t' := s4.toks) (o := .lst xs.reverse) (fun b ob q => Heap.get?_push_of_some _ q) (Nat.le_refl _) ?_, rfl, q _ (I5.hok.fresh (Nat.le_refl _))⟩
    exact ⟨by rw [List.length_reverse]; exact hz, _, 0, r.reverse, Heap.get?_push_size _ rfl⟩
end L2
namespace FN
open PySem PySem.Spec PyProof.Rows L2
section
variable {X : Cx} {W : WX} {b : Bool} {κ : List Kind} {pos : Pos} {a : Expr} {fa : M D} {m : Md}
def dRev : D → Option D
  | .list ds => some (.list ds.reverse)
  | .tuple ds => some (.tuple ds.reverse)
  | _ => none
theorem fe_rev {j : Nat} {q1 q2 q3 : Pos} (ha : FV X W κ m a fa) (h1 : itB b κ m := by rfl) : FV X W κ (.t (.v b)) (.Subscript a (.Slice none none (some (.UnaryOp .USub (.Constant (.int 1) j q1) q2)) q3) pos) (f1 m dRev fa) := (pe_revA ha).imp fun _ _ _ h => ev_1 (r := fun x H Q => ∃ a xs, x = V.ref a ∧ ((SqT X.K H a xs ∧ ∀ p, H p = none → Q (.ref p) (upd H p (.tup xs.reverse))) ∨ SqL X.K H a xs ∧ ∀ p, H p = none → Q (.ref p) (upd H p (.lst xs.reverse)))) (fun ρ w w1 x dx vx z rel e t ex ez post => by
  unfold dRev at ez
  split at ez
  · cases ez
    obtain ⟨p, us, ep, sp, rs1⟩ := opd_list h1 rel t ex
    exact ⟨p, us, ep, .inr ⟨SqL.of sp, fun p' np => fin_lst (b := b) (k := .v b) rfl post rel e rs1.reverse np⟩⟩
  · cases ez
    obtain ⟨p, us, ep, sp, r1, rs1⟩ := opd_tup h1 rel t ex
    exact ⟨p, us, ep, .inl ⟨sp, fun p' np => fin_tup post rel e rs1.reverse np⟩⟩
  · cases ez) h
end
end FN
/-! ### sorted(x) of a list or a tuple of alike data -/
namespace HSD
open PySem PySem.W PyProof.Rows
section
variable {prog : Program} {w : World} {A : Around} {E : Value → Shared → Prop} {s : Shared}
/-- collect of a list, a tuple: what stood stands, the heap has grown -/
theorem collect_grown {R : List Value → Shared → Prop} (a : Addr) {T : String} {ob : Obj} {xs : Array Value} {m : Nat} (hT : T = "list" ∨ T = "tuple") (ha : s.heap.get? a = some ob) (hc : ob.cls = .type T) (hd : ob.data = .seq xs m)
    (q : ∀ h1, (∀ c u, s.heap.get? c = some u → h1.get? c = some u) → s.heap.objs.size ≤ h1.objs.size → R xs.toList { s with heap := h1 }) (hz : xs.size ≤ sizeLine) : wpAny (model prog w) A (collect (.ref a)) R E s := by
  unfold collect
  refine wpAny_bind (wpAny_runValue (codeAny_builtin F.entry_proto_collect ?_))
  rw [Around.under_plainId F.plain_proto_collect _]
  show wpAny _ A.in1 (newList [] >>= fun z => again (.builtin "list.__iadd__" ⟨[z, .ref a], []⟩)) _ _ s
  refine wpAny_bind (wpAny_newObj_type ?_)
  refine wpAny_pure ⟨plainId_quiet F.plain_list_iadd _, codeAny_builtin F.entry_list_iadd ?_⟩
  rw [Around.under_plainId F.plain_list_iadd _]
  show wpAny _ A.in1 (Builtin.List.listExtendWith (.ref s.heap.objs.size) (.ref a) (.ref s.heap.objs.size)) _ _ _
  have e0 : (s.heap.push { cls := .type "list", data := .seq ([] : List Value).toArray }).get? s.heap.objs.size = some { cls := .type "list", data := .seq #[] 0 } := Heap.get?_push_size _ rfl
  have e1 := Heap.get?_update_self (Obj.mapSeq (· ++ xs)) e0 rfl
  have last : wpAny (model prog w) A (match Value.ref s.heap.objs.size with
      | Value.ref z => do
        match (← load z).data with
          | Data.seq ys _ => pure ys.toList
          | _ => unsupported "internal:collect"
      | _ => unsupported "internal:collect") R E { s with heap := (s.heap.push { cls := .type "list", data := .seq ([] : List Value).toArray }).update s.heap.objs.size (Obj.mapSeq (· ++ xs)) } := by
    show wpAny _ A (load s.heap.objs.size >>= _) _ _ _
    refine wpAny_bind (wpAny_load e1 (wpAny_pure ?_))
    have e2 : ((#[] : Array Value) ++ xs).toList = xs.toList := by simp
    show R ((#[] : Array Value) ++ xs).toList _
    rw [e2]
    refine q _ (fun c u hb => ?_) (by rw [Heap.size_update, size_push']; omega)
    exact (Heap.get?_update_other _ _ (Nat.ne_of_gt (Heap.lt_size hb))).trans (Heap.get?_push_of_some _ hb)
  refine wpAny_mono (wpAny_extend_seq (hsz := hz) (A := A) (R := fun r s' => r = .ok (.ret (.ref s.heap.objs.size)) ∧ s' = { s with heap := (s.heap.push { cls := .type "list", data := .seq ([] : List Value).toArray }).update s.heap.objs.size (Obj.mapSeq (· ++ xs)) })
    (s := { s with heap := s.heap.push { cls := .type "list", data := .seq ([] : List Value).toArray } }) _ a _ 0 hT e0 (Heap.get?_push_of_some _ ha) hc hd ⟨rfl, rfl⟩) (fun f s' h => ?_) (fun e s' h => ?_)
  · cases f with
    | done f =>
      obtain ⟨e, rfl⟩ := h
      cases e
      exact last
    | again c' => exact ⟨h.1, codeAny_mono h.2 fun r s'' hr => by obtain ⟨rfl, rfl⟩ := hr; exact last⟩
  · exact absurd h.1 (by simp)
theorem sorted_seq {T : String} {a : Addr} {vs : List Value} {n : Nat} {ob : Obj} {Q : Value → Shared → Prop} (hT : T = "list" ∨ T = "tuple") (ho : s.heap.get? a = some ob) (hc : ob.cls = .type T) (hd : ob.data = .seq vs.toArray n) (hL : vs.length ≤ sizeLine)
    (body : ∀ (h1 : Heap) (b : Addr) (F : Value → Shared → Prop), (∀ c o, s.heap.get? c = some o → c ≠ b ∧ h1.get? c = some o) → s.heap.objs.size ≤ b → h1.get? b = some (seqObj "list" vs.toArray 0) →
      wpAny (model prog w) A.in1.in1 (Builtin.«list.sort» ⟨[.ref b], []⟩) (fun f s' => f = .done (.ret .none) ∧ Q (.ref b) s') F { s with heap := h1 }) :
    wpAny (model prog w) A (call (.builtin "sorted") [.ref a]) Q E s := by
  refine call_function_entry_kw kind_sorted plain_sorted entry_sorted (args_sorted1 _) ?_
  unfold Builtin.«sorted»
  refine wpAny_bind (m := checkCount "sorted" 1 1 _) (wpAny_pure ?_)
  refine wpAny_bind (collect_grown a hT ho hc hd (fun h' keep bound => ?_) (by rw [List.size_toArray]; exact hL))
  refine wpAny_bind (wpAny_newList ?_ hL)
  have at' : (h'.push (seqObj "list" vs.toArray 0)).get? h'.objs.size = some (seqObj "list" vs.toArray 0) := Heap.get?_push_size _ rfl
  show wpAny _ _ _ _ _ { s with heap := h'.push (seqObj "list" vs.toArray 0) }
  refine wpAny_bind (wpAny_holding (wpAny_call_entry_kw slot_list_sort ⟨_, at', rfl⟩ entry_list_sort ?_ (args_list_sort _)))
  refine wpAny_mono (body _ _ _ (fun c o q => ⟨?_, Heap.get?_push_of_some _ (keep c o q)⟩) bound at') (fun f s' hf => ?_) fun _ _ e => e
  · exact Nat.ne_of_lt (Heap.lt_size (keep c o q))
  · obtain ⟨rfl, hq⟩ := hf
    exact ⟨_, rfl, wpAny_pure ⟨_, rfl, hq⟩⟩
end
end HSD
namespace L2
open PySem PySem.W PySem.Spec PyProof.Rows
def rSortD (K : PySem.W.Frag) : List V → Hp → VK → Prop := fun vs H Q => ∃ (a : Addr) (xs : List V) (ds : List PyData), vs = [.ref a] ∧ (SqL K H a xs ∨ SqT K H a xs) ∧ DpAll K H xs ds ∧ AllAlike ds ∧ Sortable ds ∧ (∀ d ∈ ds, d.depth ≤ 60) ∧
  ∀ p, H p = none → Q (.ref p) (upd H p (.lst (((xs.zip ds).mergeSort (dataLe false Prod.snd)).map Prod.fst)))
theorem each_zip {h : Heap} {xs : List V} {ds : List PyData} : ∀ {its : List Value} {as : List Addr}, Vals xs its → ReadsAll h its ds as → EachIs (fun (u : Value) (q : V × PyData) => RelV q.1 u) its (xs.zip ds) ∧ EachIs (fun (u : Value) (q : V × PyData) => ∃ as, Reads h u q.2 as) its (xs.zip ds) ∧ (xs.zip ds).map Prod.snd = ds := by
  induction xs generalizing ds with
  | nil =>
    intro its as r rd
    cases r
    cases rd
    exact ⟨.nil, .nil, rfl⟩
  | cons x xs ih =>
    intro its as r rd
    cases r with
    | cons h1 t1 =>
      cases rd with
      | cons h2 t2 =>
        obtain ⟨a, b, c⟩ := ih t1 t2
        exact ⟨.cons h1 a, .cons ⟨_, h2⟩ b, by rw [List.zip_cons_cons, List.map_cons, c]⟩
theorem vals_each : ∀ {out : List Value} {qs : List (V × PyData)}, EachIs (fun (u : Value) (q : V × PyData) => RelV q.1 u) out qs → Vals (qs.map Prod.fst) out
  | _, _, .nil => .nil
  | _, _, .cons h t => .cons h (vals_each t)
theorem cr_sortD {X : Cx} (hu : X.A.units + 64 < cLine) : CallR X (.builtin "sorted") (rSortD X.K) := by
  intro pins s σ H vs us Q I r h
  obtain ⟨a, xs, ds, rfl, hs, hd, hal, hk, hdp, q⟩ := h
  obtain ⟨T, its, n, ob, hT, ho, hc, hdat, rv, hz⟩ : ∃ (T : String) (its : List Value) (n : Nat) (ob : Obj), (T = "list" ∨ T = "tuple") ∧ s.heap.get? a = some ob ∧ ob.cls = .type T ∧ ob.data = .seq its.toArray n ∧ Vals xs its ∧ xs.length ≤ sizeLine := by
    rcases hs with hs | hs
    · obtain ⟨its, rv, hl, hz⟩ := I.list hs
      obtain ⟨ob, n, e, e1, _, e2⟩ := hl
      exact ⟨_, its, n, ob, .inl rfl, e, e1, e2, rv, hz⟩
    · obtain ⟨its, rv, ht, hz⟩ := I.tuple hs
      obtain ⟨ob, e, e1, n, e2⟩ := ht
      exact ⟨_, its, n, ob, .inr rfl, e, e1, e2, rv, hz⟩
  obtain ⟨as, rd⟩ := Dp.readsAll I ds xs its hd rv
  obtain ⟨z1, z2, z3⟩ := each_zip rv rd
  rw [Vals.ref1 r]
  have hl : its.length ≤ sizeLine := by rw [← rv.length]; exact hz
  refine HSD.sorted_seq hT ho hc hdat hl fun h1 b F keep bnd at' => ?_
  have er : EachIs (fun (u : Value) (q : V × PyData) => ∃ as, Reads (sortingHeap h1 b its) u q.2 as) its (xs.zip ds) := z2.mono fun _ _ ⟨as, r⟩ => ⟨as, PyProof.Rows.Reads.keeps (fun c o e => sortingHeap_old (keep c o e).1 (keep c o e).2) r⟩
  have hal' : AllAlike ((xs.zip ds).map Prod.snd) := by rw [z3]; exact hal
  have S := SortsAt.data (prog := X.prog) (w := X.w) (A := X.A.in1.in1) (s := { s with heap := sortingHeap h1 b its }) (each_map (R := fun v d => ∃ as, Reads (sortingHeap h1 b its) v d as) Prod.snd er) hal' (by rw [z3]; exact hk) (fun d hd => by
    rw [z3] at hd
    have := hdp d hd
    show X.A.units + 1 + 1 + d.depth < cLine
    omega)
  refine list_sort_vals (s := { s with heap := h1 }) at' S hl ⟨rfl, ?_⟩
  have out := sortVals_data false z1 er hal'
  have ov := vals_each out
  obtain ⟨ep, he⟩ := PyProof.Rows.sortedHeap_at (vs := its) (out := (sortVals (dataKind (sortingHeap h1 b its) ((xs.zip ds).map Prod.snd)) false its its).toArray) at'
  have hlen : (((xs.zip ds).mergeSort (dataLe false Prod.snd)).map Prod.fst).length ≤ sizeLine := by
    rw [List.length_map, List.length_mergeSort, List.length_zip]
    have : xs.length = its.length := rv.length
    omega
  refine ⟨.ref b, upd H b (.lst (((xs.zip ds).mergeSort (dataLe false Prod.snd)).map Prod.fst)), I.laid (t' := s.toks) (fun c o e => ?_) bnd ⟨hlen, _, ep, ov, he⟩, rfl, q b (I.hok.fresh bnd)⟩
  obtain ⟨k1, k2⟩ := keep c o e
  rw [PyProof.Rows.sortedHeap_old k1 (Heap.lt_size k2)]
  exact k2
end L2
namespace FN
open PySem PySem.W PySem.Spec PyProof.Rows L2
section
variable {K : PySem.W.Frag} {F : Hp} {b : Bool}
def SortOk (ds : List D) : Prop := AllAlike ds ∧ Sortable ds ∧ ∀ d ∈ ds, d.depth ≤ 60
theorem rds_zip : ∀ {xs : List V} {ds : List D}, RDs b K F xs ds → (xs.zip ds).map Prod.snd = ds ∧ ∀ q ∈ xs.zip ds, RD b K F q.1 q.2
  | _, _, .nil => ⟨rfl, fun _ h => by cases h⟩
  | _, _, @RDs.cons _ _ _ v vs d ds h t => by
    obtain ⟨e, a⟩ := rds_zip t
    refine ⟨by rw [List.zip_cons_cons, List.map_cons, e], fun q hq => ?_⟩
    rw [List.zip_cons_cons] at hq
    rcases List.mem_cons.mp hq with rfl | hq
    · exact h
    · exact a q hq
theorem rds_pairs : ∀ {qs : List (V × D)}, (∀ q ∈ qs, RD b K F q.1 q.2) → RDs b K F (qs.map Prod.fst) (qs.map Prod.snd)
  | [], _ => .nil
  | q :: qs, h => .cons (h q List.mem_cons_self) (rds_pairs fun q hq => h q (List.mem_cons_of_mem _ hq))
theorem rds_sort {xs : List V} {ds : List D} (h : RDs b K F xs ds) : RDs b K F (((xs.zip ds).mergeSort (dataLe false Prod.snd)).map Prod.fst) (ds.mergeSort (dataLe false id)) := by
  obtain ⟨e, a⟩ := rds_zip h
  have e2 : ((xs.zip ds).mergeSort (dataLe false Prod.snd)).map Prod.snd = ds.mergeSort (dataLe false id) := by
    have := List.map_mergeSort (r := dataLe false (Prod.snd : V × D → D)) (s := dataLe false (id : D → D)) (f := Prod.snd) (l := xs.zip ds) (fun _ _ _ _ => rfl)
    rw [e] at this
    exact this
  rw [← e2]
  exact rds_pairs fun q hq => a q ((List.mergeSort_perm _ _).mem_iff.mp hq)
end
open Classical in
noncomputable def dSorted : D → Option D
  | .list ds => if SortOk ds then some (.list (ds.mergeSort (dataLe false id))) else none
  | .tuple ds => if SortOk ds then some (.list (ds.mergeSort (dataLe false id))) else none
  | _ => none
section
variable {X : Cx} {W : WX} {b : Bool} {κ : List Kind} {pos p : Pos} {a : Expr} {fa : M D} {m : Md}
theorem fe_sorted {kd : Kind} (hd : newL b kd) (hu : X.A.units + 64 < cLine) (hg : Gl X "sorted") (hm : X.mg "sorted" = none) (ha : FV X W κ m a fa) (h1 : itB b κ m := by rfl) (hs : starEach (a :: []) X.env = (false, eval a X.env) :: starEach [] X.env := by rfl) : FV X W κ (.t kd) (.Call (.Name "sorted" p) [a] [] pos) (f1 m dSorted fa) :=
  (pe_callB (cr_sortD hu) hg hm boot_sorted (pa_cons ha pa_nil hs) (by decide) (by decide) hs).imp fun σ H Q h => ev_c1 (fun ρ w w1 x dx vx z rel ext t ex ez post => by
    unfold dSorted at ez
    split at ez
    · split at ez
      · rename_i ok
        cases ez
        obtain ⟨p, us, ep, sp, rs1⟩ := opd_list h1 rel t ex
        exact ⟨p, us, _, by rw [ep], .inl (SqL.of sp), (rs1.mono rel.same).dp, ok.1, ok.2.1, ok.2.2, fun p' np => fin_lst (b := b) hd post rel ext (rds_sort rs1) np⟩
      · cases ez
    · split at ez
      · rename_i ok
        cases ez
        obtain ⟨p, us, ep, sp, r1, rs1⟩ := opd_tup h1 rel t ex
        exact ⟨p, us, _, by rw [ep], .inr sp, (rs1.mono rel.same).dp, ok.1, ok.2.1, ok.2.2, fun p' np => fin_lst (b := b) hd post rel ext (rds_sort rs1) np⟩
      · cases ez
    · cases ez) h
end
end FN
set_option Elab.async false
set_option linter.all false
set_option maxRecDepth 100000
set_option maxHeartbeats 4000000
/-! FN23: itertools.combinations. -/
namespace CB
open PySem PySem.W PyProof.Rows
theorem cb_mro : mroOf (.type "itertools.combinations") = pure [.type "itertools.combinations", .type "object"] := by rw [mroOf_type]; kernel_rfl
theorem cb_lnew : typeLookup (.type "itertools.combinations") "__new__" = pure (some (.builtin "itertools.combinations.__new__")) := by rw [typeLookup_type, builtinLookup_eq_fast]; kernel_rfl
theorem cb_init : Slot "itertools.combinations" "__init__" "object.__init__" :=
  .of (owner := "object") (n := "__init__") (by rw [typeLookup_type, builtinLookup_eq_fast]; kernel_rfl) (by decide +kernel) (by decide +kernel) (by decide +kernel)
    (by first | exact .inl (by decide +kernel) | exact .inr (by decide +kernel)) (by rw [isSubtype_type]; kernel_rfl)
theorem cb_sub : isSubtype (.type "itertools.combinations") (.type "itertools.combinations") = pure true := by rw [isSubtype_type]; kernel_rfl
theorem cb_called : TypeCalled "itertools.combinations" "itertools.combinations.__new__" "object.__init__" :=
  ⟨by decide +kernel, by decide +kernel, ⟨_, _, cb_mro⟩, madeBy_type cb_mro cb_lnew (by decide +kernel), by decide +kernel, cb_sub, cb_init⟩
theorem cb_tcall (a b : Value) : checkTypeCall "itertools.combinations" ⟨[a, b], []⟩ = pure () := by kernel_rfl
theorem cb_ncall (a b : Value) : checkBuiltinCall "itertools.combinations.__new__" ⟨[.type "itertools.combinations", a, b], []⟩ = pure () := by kernel_rfl
theorem cb_enew : entryFor table "itertools.combinations.__new__" = some Builtin.«itertools.combinations.__new__» := entryFor_of_tree (by kernel_rfl)
theorem cb_snext : Slot "itertools.combinations" "__next__" "itertools.combinations.__next__" :=
  .of (owner := "itertools.combinations") (n := "__next__") (by rw [typeLookup_type, builtinLookup_eq_fast]; kernel_rfl) (by decide +kernel) (by decide +kernel) (by decide +kernel)
    (by first | exact .inl (by decide +kernel) | exact .inr (by decide +kernel)) (by rw [isSubtype_type]; kernel_rfl)
theorem cb_siter : Slot "itertools.combinations" "__iter__" "itertools.combinations.__iter__" :=
  .of (owner := "itertools.combinations") (n := "__iter__") (by rw [typeLookup_type, builtinLookup_eq_fast]; kernel_rfl) (by decide +kernel) (by decide +kernel) (by decide +kernel)
    (by first | exact .inl (by decide +kernel) | exact .inr (by decide +kernel)) (by rw [isSubtype_type]; kernel_rfl)
theorem cb_enext : entryFor table "itertools.combinations.__next__" = some Builtin.«itertools.combinations.__next__» := entryFor_of_tree (by kernel_rfl)
theorem cb_eiter : entryFor table "itertools.combinations.__iter__" = some Builtin.«dict_keyiterator.__iter__» :=
  entryFor_alias (id' := "dict_keyiterator.__iter__") (by kernel_rfl) (by first | rfl | decide +kernel | (unfold String.splitOn; simp +decide [String.splitOnAux])) (by decide +kernel) (by kernel_rfl)
theorem cb_owner : Manifest.owners.lookup (String.ofList ['s', 'n', 'o', 'i', 't', 'a', 'n', 'i', 'b', 'm', 'o', 'c', '.', 's', 'l', 'o', 'o', 't', 'r', 'e', 't', 'i'].reverse) = some Manifest.sig_itertools_combinations := by kernel_rfl
theorem cb_anext (a : Value) : argsOk "itertools.combinations.__next__" ⟨[a], []⟩ := by
  unfold argsOk; rw [signature?_of (id := "itertools.combinations.__next__") (n := ['_', '_', 't', 'x', 'e', 'n', '_', '_']) (o := ['s', 'n', 'o', 'i', 't', 'a', 'n', 'i', 'b', 'm', 'o', 'c', '.', 's', 'l', 'o', 'o', 't', 'r', 'e', 't', 'i']) (by kernel_rfl) cb_owner]; kernel_rfl
theorem cb_aiter (a : Value) : argsOk "itertools.combinations.__iter__" ⟨[a], []⟩ := by
  unfold argsOk; rw [signature?_of (id := "itertools.combinations.__iter__") (n := ['_', '_', 'r', 'e', 't', 'i', '_', '_']) (o := ['s', 'n', 'o', 'i', 't', 'a', 'n', 'i', 'b', 'm', 'o', 'c', '.', 's', 'l', 'o', 'o', 't', 'r', 'e', 't', 'i']) (by kernel_rfl) cb_owner]; kernel_rfl
theorem cb_nodict : typeHasDict (.type "itertools.combinations") = false := by decide +kernel
theorem cb_nolen : typeLookup (.type "itertools.combinations") "__len__" = pure none := by rw [typeLookup_type, builtinLookup_eq_fast]; kernel_rfl
theorem cb_nohint : typeLookup (.type "itertools.combinations") "__length_hint__" = pure none := by rw [typeLookup_type, builtinLookup_eq_fast]; kernel_rfl
end CB
set_option Elab.async false
set_option linter.all false
set_option maxRecDepth 100000
set_option maxHeartbeats 4000000
/-! FN24: itertools.combinations, made and drawn. -/
namespace CB
open PySem PySem.W PyProof.Rows
/-! ### the object -/
/-- the next indices of n things -/
def nx (n : Nat) (ix : List Nat) : Option (List Nat) := match (List.range ix.length).reverse.find? fun i => ix.getD i 0 != i + n - ix.length with
  | none => none
  | some i => some (ix.take i ++ (List.range (ix.length - i)).map (ix.getD i 0 + 1 + ·))
def flds (T : Addr) (st : Int) (last : Value) (ix : List Nat) : Array Value := ([.ref T, rawInt st, last] ++ ix.map fun (i : Nat) => rawInt i).toArray
abbrev IsCb (h : Heap) (I T : Addr) (st : Int) (last : Value) (ix : List Nat) : Prop := h.get? I = some { cls := .type "itertools.combinations", dict := none, data := .fields (flds T st last ix), slots := #[] }
abbrev IsPool (h : Heap) (T : Addr) (vs : List Value) : Prop := h.get? T = some { cls := .type "tuple", data := .seq vs.toArray }
def poolH (h : Heap) (vs : List Value) : Heap := h.push { cls := .type "tuple", data := .seq vs.toArray }
def cbH (h : Heap) (vs : List Value) (r : Nat) : Heap := (poolH h vs).push { cls := .type "itertools.combinations", data := .fields (flds h.objs.size (if r > vs.length then 2 else 0) .none (List.range r)) }
theorem new_cb (prog : Program) (w : World) (x : Value) (k : Nat) (t : Tok) (hk : k ≤ 1000) : MeetsIn prog w (Builtin.«itertools.combinations.__new__» ⟨[.type "itertools.combinations", x, .int k t], []⟩)
    (fun A R s => wpAny (model prog w) A.in1 (collect x) (fun vs s1 => vs.length ≤ sizeLine ∧ R (.ok (.ret (.ref (poolH s1.heap vs).objs.size))) { s1 with heap := cbH s1.heap vs k }) (fun e s1 => R (.error e) s1) s) :=
  .of_wp fun A R s h => by
    unfold Builtin.«itertools.combinations.__new__»
    have hsub := cb_sub
    have hd := cb_nodict
    have hk2 : ¬ ((decide ((k : Int) < -2 ^ 63) || decide ((k : Int) ≥ 2 ^ 63)) = true) := by
      have a : decide ((k : Int) < -2 ^ 63) = false := decide_eq_false (by omega)
      have b : decide ((k : Int) ≥ 2 ^ 63) = false := decide_eq_false (by omega)
      rw [a, b]
      decide
    have e0 : ("itertools." ++ "combinations" : String) = "itertools.combinations" := by decide +kernel
    iterate 70 (first
      | rw [e0]
      | wp_step
      | simp only [List.head?_cons, Option.some_or, List.getElem?_cons_succ, List.getElem?_cons_zero, List.length_cons, List.length_nil, List.forIn_nil]
      | rw [if_neg hk2])
    refine wpAny_mono h (fun vs s1 hR => ?_) fun _ _ z => z
    obtain ⟨hz, hR⟩ := hR
    rw [if_neg (show ¬ (k : Int) < 0 by omega), if_neg (show ¬ Builtin.Itertools.itTooMany (k : Int) = true by
      show ¬ decide ((k : Int) > 2 ^ 20) = true
      rw [decide_eq_true_eq]
      omega)]
    refine wpAny_bind (wpAny_newTuple (wpAny_pure ?_) hz)
    show wpAny _ _ (Builtin.Itertools.itNewRecord (.type "itertools.combinations") _ >>= _) _ _ _
    unfold Builtin.Itertools.itNewRecord
    refine wpAny_bind ?_
    rw [if_pos (by rw [cb_nodict]; rfl)]
    refine wpAny_newObj_type (wpAny_pure ⟨_, rfl, ?_⟩) ?_
    · exact hR
    · show (_ : Array Value).size ≤ sizeLine + 2
      simp
      unfold sizeLine
      omega
end CB
set_option Elab.async false
set_option linter.all false
set_option maxRecDepth 100000
set_option maxHeartbeats 4000000
/-! FN25: combinations drawn. -/
namespace CB
open PySem PySem.W PyProof.Rows
theorem flds_get (T : Addr) (st : Int) (last : Value) (ix : List Nat) : (flds T st last ix)[0]? = some (.ref T) ∧ (flds T st last ix)[1]? = some (rawInt st) ∧ (flds T st last ix)[2]? = some last ∧ (flds T st last ix).toList.drop 3 = ix.map (fun (i : Nat) => rawInt i) ∧ (flds T st last ix).size = ix.length + 3 := by
  unfold flds
  refine ⟨rfl, rfl, rfl, rfl, ?_⟩
  simp
theorem flds_set1 (T : Addr) (st st' : Int) (last : Value) (ix : List Nat) : (flds T st last ix).setIfInBounds 1 (rawInt st') = flds T st' last ix := by
  unfold flds
  simp
theorem flds_set2 (T : Addr) (st : Int) (last last' : Value) (ix : List Nat) : (flds T st last ix).setIfInBounds 2 last' = flds T st last' ix := by
  unfold flds
  simp
theorem flds_ix (T : Addr) (st : Int) (last : Value) (ix ix' : List Nat) : (flds T st last ix).extract 0 3 ++ (ix'.map fun (n : Nat) => rawInt n).toArray = flds T st last ix' := by
  unfold flds
  simp
theorem nums_back (ix : List Nat) : (ix.map (fun (i : Nat) => rawInt i)).map (fun | .int n _ => n.toNat | _ => 0) = ix := by
  rw [List.map_map]
  conv => rhs; rw [← List.map_id ix]
  rfl
section
variable {prog : Program} {w : World} {A : Around} {E : Value → Shared → Prop} {s : Shared}
/-- what is handed out: a new tuple, noted in the object -/
def outT (vs : List Value) (ix : List Nat) : List Value := ix.map fun i => vs.toArray.getD i .none
def KeepBut (I : Addr) (h h' : Heap) : Prop := ∀ b o, b ≠ I → h.get? b = some o → h'.get? b = some o
theorem cb_first {I T : Addr} {vs : List Value} {last : Value} {ix : List Nat} {Q : Value → Shared → Prop} (hI : IsCb s.heap I T 0 last ix) (hT : IsPool s.heap T vs) (hne : T ≠ I) (hz : ix.length ≤ 1000)
    (hQ : ∀ h', IsCb h' I T 1 (.ref s.heap.objs.size) ix → h'.get? s.heap.objs.size = some { cls := .type "tuple", data := .seq (outT vs ix).toArray } → KeepBut I s.heap h' → Q (.ref s.heap.objs.size) { s with heap := h' }) :
    wpAny (model prog w) A (Builtin.«itertools.combinations.__next__» ⟨[.ref I], []⟩) (fun fin s' => ∃ v, fin = .done (.ret v) ∧ Q v s') E s := by
  have f := flds_get T 0 last ix
  show wpAny _ _ (field (.ref I) 0 >>= _) _ _ _
  refine wpAny_bind (wpAny_field hI rfl (x := .ref T) f.1 ?_)
  show wpAny _ _ (Builtin.Itertools.itNumbersFrom (.ref I) 3 >>= _) _ _ _
  refine wpAny_bind ?_
  show wpAny _ _ (load I >>= _) _ _ _
  refine wpAny_bind (wpAny_load hI ?_)
  refine wpAny_pure ?_
  simp only [show (flds T 0 last ix).toList.drop 3 = ix.map (fun (i : Nat) => rawInt i) from rfl, List.map_map, Function.comp_def, rawInt, Int.toNat_natCast, List.map_id_fun', id]
  show wpAny _ _ (Builtin.Itertools.itIntField (.ref I) 1 >>= _) _ _ _
  refine wpAny_bind ?_
  show wpAny _ _ (field (.ref I) 1 >>= _) _ _ _
  refine wpAny_bind (wpAny_field hI rfl (x := rawInt 0) f.2.1 (wpAny_pure ?_))
  show wpAny _ _ (setField (.ref I) 1 (rawInt 1) >>= _) _ _ _
  refine wpAny_bind (wpAny_setField hI rfl (by rw [f.2.2.2.2]; omega) ?_)
  have hI1 : IsCb (s.heap.update I (Obj.mapFields fun x => x.setIfInBounds 1 (rawInt 1))) I T 1 last ix := by
    have := Heap.get?_update_self (Obj.mapFields fun x => x.setIfInBounds 1 (rawInt 1)) hI rfl
    rw [show Obj.mapFields (fun x => x.setIfInBounds 1 (rawInt 1)) { cls := .type "itertools.combinations", dict := none, data := .fields (flds T 0 last ix), slots := #[] } = { cls := .type "itertools.combinations", dict := none, data := .fields ((flds T 0 last ix).setIfInBounds 1 (rawInt 1)), slots := #[] } from rfl, flds_set1] at this
    exact this
  have hT1 : IsPool (s.heap.update I (Obj.mapFields fun x => x.setIfInBounds 1 (rawInt 1))) T vs := (Heap.get?_update_other _ _ (Ne.symm hne)).trans hT
  refine wpAny_bind ?_
  show wpAny _ _ (Builtin.Itertools.itPoolItems (.ref T) >>= _) _ _ _
  refine wpAny_bind ?_
  show wpAny _ _ (seqItems? (.ref T) >>= _) _ _ _
  refine wpAny_bind (wpAny_seqItems hT1 rfl ?_)
  refine wpAny_pure ?_
  refine wpAny_newTuple ?_ (by rw [List.length_map]; unfold sizeLine; omega)
  have hI2 := Heap.get?_push_of_some { cls := .type "tuple", data := .seq (List.map (fun i => vs.toArray.getD i Value.none) ix).toArray } hI1
  have f2 := flds_get T 1 last ix
  refine wpAny_bind (wpAny_field hI2 rfl (x := last) f2.2.2.1 ?_)
  refine wpAny_bind (wpAny_setField hI2 rfl (by rw [f2.2.2.2.2]; omega) ?_)
  refine wpAny_bind (wpAny_letGo ?_)
  have hsz : (s.heap.update I (Obj.mapFields fun x => x.setIfInBounds 1 (rawInt 1))).objs.size = s.heap.objs.size := Heap.size_update ..
  refine wpAny_pure ⟨_, rfl, ?_⟩
  rw [hsz]
  have hIs : I < s.heap.objs.size := Heap.lt_size hI
  refine hQ _ ?_ ?_ ?_
  · have := Heap.get?_update_self (Obj.mapFields fun x => x.setIfInBounds 2 (Value.ref s.heap.objs.size)) hI2 rfl
    rw [show Obj.mapFields (fun x => x.setIfInBounds 2 (Value.ref s.heap.objs.size)) { cls := .type "itertools.combinations", dict := none, data := .fields (flds T 1 last ix), slots := #[] } = { cls := .type "itertools.combinations", dict := none, data := .fields ((flds T 1 last ix).setIfInBounds 2 (Value.ref s.heap.objs.size)), slots := #[] } from rfl, flds_set2] at this
    exact this
  · refine (Heap.get?_update_other _ _ (Nat.ne_of_lt hIs)).trans ?_
    have := Heap.get?_push_size (s.heap.update I (Obj.mapFields fun x => x.setIfInBounds 1 (rawInt 1))) (o := { cls := .type "tuple", data := .seq (outT vs ix).toArray }) rfl
    rw [hsz] at this
    exact this
  · intro b o hb e
    exact (Heap.get?_update_other _ _ (Ne.symm hb)).trans (Heap.get?_push_of_some _ ((Heap.get?_update_other _ _ (Ne.symm hb)).trans e))
theorem cb_more {I T : Addr} {vs : List Value} {last : Value} {ix ix' : List Nat} {Q : Value → Shared → Prop} (hI : IsCb s.heap I T 1 last ix) (hT : IsPool s.heap T vs) (hne : T ≠ I) (hz : ix'.length ≤ 1000) (hn : nx vs.length ix = some ix')
    (hQ : ∀ h', IsCb h' I T 1 (.ref s.heap.objs.size) ix' → h'.get? s.heap.objs.size = some { cls := .type "tuple", data := .seq (outT vs ix').toArray } → KeepBut I s.heap h' → Q (.ref s.heap.objs.size) { s with heap := h' }) :
    wpAny (model prog w) A (Builtin.«itertools.combinations.__next__» ⟨[.ref I], []⟩) (fun fin s' => ∃ v, fin = .done (.ret v) ∧ Q v s') E s := by
  have f := flds_get T 1 last ix
  show wpAny _ _ (field (.ref I) 0 >>= _) _ _ _
  refine wpAny_bind (wpAny_field hI rfl (x := .ref T) f.1 ?_)
  show wpAny _ _ (Builtin.Itertools.itNumbersFrom (.ref I) 3 >>= _) _ _ _
  refine wpAny_bind ?_
  show wpAny _ _ (load I >>= _) _ _ _
  refine wpAny_bind (wpAny_load hI ?_)
  refine wpAny_pure ?_
  simp only [show (flds T 1 last ix).toList.drop 3 = ix.map (fun (i : Nat) => rawInt i) from rfl, List.map_map, Function.comp_def, rawInt, Int.toNat_natCast, List.map_id_fun', id]
  show wpAny _ _ (Builtin.Itertools.itIntField (.ref I) 1 >>= _) _ _ _
  refine wpAny_bind ?_
  show wpAny _ _ (field (.ref I) 1 >>= _) _ _ _
  refine wpAny_bind (wpAny_field hI rfl (x := rawInt 1) f.2.1 (wpAny_pure ?_))
  show wpAny _ _ (Builtin.Itertools.itPoolItems (.ref T) >>= _) _ _ _
  refine wpAny_bind ?_
  show wpAny _ _ (seqItems? (.ref T) >>= _) _ _ _
  refine wpAny_bind (wpAny_seqItems hT rfl ?_)
  refine wpAny_pure ?_
  have hn' : nx vs.toArray.size ix = some ix' := by rw [List.size_toArray]; exact hn
  split
  · rename_i next heq
    have e : some next = some ix' := heq.symm.trans hn'
    cases e
    have upd1 := Heap.get?_update_self (Obj.mapFields fun fs => fs.extract 0 3 ++ (ix'.map fun (n : Nat) => rawInt n).toArray) hI rfl
    rw [show Obj.mapFields (fun fs => fs.extract 0 3 ++ (ix'.map fun (n : Nat) => rawInt n).toArray) { cls := .type "itertools.combinations", dict := none, data := .fields (flds T 1 last ix), slots := #[] } = { cls := .type "itertools.combinations", dict := none, data := .fields ((flds T 1 last ix).extract 0 3 ++ (ix'.map fun (n : Nat) => rawInt n).toArray), slots := #[] } from rfl, flds_ix] at upd1
    have hI1 : IsCb (s.heap.update I (Obj.mapFields fun fs => fs.extract 0 3 ++ (ix'.map fun (n : Nat) => rawInt n).toArray)) I T 1 last ix' := upd1
    have hT1 : IsPool (s.heap.update I (Obj.mapFields fun fs => fs.extract 0 3 ++ (ix'.map fun (n : Nat) => rawInt n).toArray)) T vs := (Heap.get?_update_other _ _ (Ne.symm hne)).trans hT
    refine wpAny_bind ?_
    show wpAny _ _ (updateFields I fun fs => fs.extract 0 3 ++ (ix'.map fun (n : Nat) => rawInt n).toArray) _ _ _
    refine wpAny_updateFields hI rfl ?_ (by rw [flds_ix, (flds_get T 1 last ix').2.2.2.2]; unfold sizeLine; omega)
    refine wpAny_bind ?_
    show wpAny _ _ (Builtin.Itertools.itPoolItems (.ref T) >>= _) _ _ _
    refine wpAny_bind ?_
    show wpAny _ _ (seqItems? (.ref T) >>= _) _ _ _
    refine wpAny_bind (wpAny_seqItems hT1 rfl ?_)
    refine wpAny_pure ?_
    refine wpAny_newTuple ?_ (by rw [List.length_map]; unfold sizeLine; omega)
    have hI2 := Heap.get?_push_of_some { cls := .type "tuple", data := .seq (List.map (fun i => vs.toArray.getD i Value.none) ix').toArray } hI1
    have f2 := flds_get T 1 last ix'
    refine wpAny_bind (wpAny_field hI2 rfl (x := last) f2.2.2.1 ?_)
    refine wpAny_bind (wpAny_setField hI2 rfl (by rw [f2.2.2.2.2]; omega) ?_)
    refine wpAny_bind (wpAny_letGo ?_)
    have hsz : (s.heap.update I (Obj.mapFields fun fs => fs.extract 0 3 ++ (ix'.map fun (n : Nat) => rawInt n).toArray)).objs.size = s.heap.objs.size := Heap.size_update ..
    refine wpAny_pure ⟨_, rfl, ?_⟩
    rw [hsz]
    have hIs : I < s.heap.objs.size := Heap.lt_size hI
    refine hQ _ ?_ ?_ ?_
    · have := Heap.get?_update_self (Obj.mapFields fun x => x.setIfInBounds 2 (Value.ref s.heap.objs.size)) hI2 rfl
      rw [show Obj.mapFields (fun x => x.setIfInBounds 2 (Value.ref s.heap.objs.size)) { cls := .type "itertools.combinations", dict := none, data := .fields (flds T 1 last ix'), slots := #[] } = { cls := .type "itertools.combinations", dict := none, data := .fields ((flds T 1 last ix').setIfInBounds 2 (Value.ref s.heap.objs.size)), slots := #[] } from rfl, flds_set2] at this
      exact this
    · refine (Heap.get?_update_other _ _ (Nat.ne_of_lt hIs)).trans ?_
      have := Heap.get?_push_size (s.heap.update I (Obj.mapFields fun fs => fs.extract 0 3 ++ (ix'.map fun (n : Nat) => rawInt n).toArray)) (o := { cls := .type "tuple", data := .seq (outT vs ix').toArray }) rfl
      rw [hsz] at this
      exact this
    · intro b o hb e
      exact (Heap.get?_update_other _ _ (Ne.symm hb)).trans (Heap.get?_push_of_some _ ((Heap.get?_update_other _ _ (Ne.symm hb)).trans e))
  · rename_i heq
    have e : none = some ix' := heq.symm.trans hn'
    cases e
/-- no more: the end's exception -/
theorem cb_end {I T : Addr} {vs : List Value} {last : Value} {ix : List Nat} {st : Int} {F : Fin → Shared → Prop} (hh : A.handled = none) (hI : IsCb s.heap I T st last ix) (hT : IsPool s.heap T vs) (hn : (st = 1 ∧ nx vs.length ix = none) ∨ st = 2)
    (hQ : ∀ e h', CpRep.StopE e h' → KeepBut I s.heap h' → E e { s with heap := h' }) :
    wpAny (model prog w) A (Builtin.«itertools.combinations.__next__» ⟨[.ref I], []⟩) F E s := by
  have f := flds_get T st last ix
  show wpAny _ _ (field (.ref I) 0 >>= _) _ _ _
  refine wpAny_bind (wpAny_field hI rfl (x := .ref T) f.1 ?_)
  show wpAny _ _ (Builtin.Itertools.itNumbersFrom (.ref I) 3 >>= _) _ _ _
  refine wpAny_bind ?_
  show wpAny _ _ (load I >>= _) _ _ _
  refine wpAny_bind (wpAny_load hI ?_)
  refine wpAny_pure ?_
  simp only [show (flds T st last ix).toList.drop 3 = ix.map (fun (i : Nat) => rawInt i) from rfl, List.map_map, Function.comp_def, rawInt, Int.toNat_natCast, List.map_id_fun', id]
  show wpAny _ _ (Builtin.Itertools.itIntField (.ref I) 1 >>= _) _ _ _
  refine wpAny_bind ?_
  show wpAny _ _ (field (.ref I) 1 >>= _) _ _ _
  refine wpAny_bind (wpAny_field hI rfl (x := rawInt st) f.2.1 (wpAny_pure ?_))
  have stop : ∀ (s1 : Shared), KeepBut I s.heap s1.heap → (∃ h1, s1 = { s with heap := h1 }) → wpAny (model prog w) A (Builtin.Itertools.itStop : Sem Fin) F E s1 := by
    rintro _ hk ⟨h1, rfl⟩
    show wpAny _ _ (newExc (.type "StopIteration") [] >>= _) _ _ _
    refine wpAny_bind ?_
    simp only [newExc, newTuple]
    refine wpAny_bind (wpAny_newObj_type ?_ (by size_fits))
    refine wpAny_bind (m := firstArgMember _ _) (wpAny_of_eq (a := Value.none) (by first | rfl | (simp only [firstArgMember]; rfl)) ?_)
    refine wpAny_newObj_type ?_ (by size_fits)
    simp only [raiseNew]
    refine wpAny_bind (wpAny_handled ?_)
    rw [hh]
    refine wpAny_bind (wpAny_pure (wpAny_throw ?_))
    exact hQ _ _ ⟨_, _, _, rfl, Heap.get?_push_size _ rfl, rfl, rfl, rfl⟩ fun b o hb e => Heap.get?_push_of_some _ (Heap.get?_push_of_some _ (hk b o hb e))
  rcases hn with ⟨rfl, hn⟩ | rfl
  · show wpAny _ _ (Builtin.Itertools.itPoolItems (.ref T) >>= _) _ _ _
    refine wpAny_bind ?_
    show wpAny _ _ (seqItems? (.ref T) >>= _) _ _ _
    refine wpAny_bind (wpAny_seqItems hT rfl ?_)
    refine wpAny_pure ?_
    have hn' : nx vs.toArray.size ix = none := by rw [List.size_toArray]; exact hn
    split
    · rename_i next heq
      have e : some next = none := heq.symm.trans hn'
      cases e
    · refine wpAny_bind (wpAny_setField hI rfl (by rw [f.2.2.2.2]; omega) ?_)
      exact stop _ (fun b o hb e => (Heap.get?_update_other _ _ (Ne.symm hb)).trans e) ⟨_, rfl⟩
  · show wpAny _ _ (rule _ >>= _) _ _ _
    refine wpAny_bind (wpAny_rule ?_)
    exact stop _ (fun b o hb e => e) ⟨_, rfl⟩
end
end CB
set_option Elab.async false
set_option linter.all false
set_option maxRecDepth 100000
set_option maxHeartbeats 4000000
/-! FN26: combinations collected, walked. -/
namespace CB
open PySem PySem.W PyProof.Rows
/-- L: all rows of indices, one after the other -/
def Chain (n r : Nat) (L : List (List Nat)) : Prop := (∀ i a, L[i]? = some a → nx n a = L[i + 1]? ∧ a.length ≤ 1000) ∧ (if r > n then L = [] else L[0]? = some (List.range r))
def CbSt (h : Heap) (I T : Addr) (vs : List Value) (L : List (List Nat)) (i : Nat) : Prop := IsPool h T vs ∧ ∃ st last ix, IsCb h I T st last ix ∧ ((i = 0 ∧ st = 0 ∧ L[0]? = some ix) ∨ (∃ j, i = j + 1 ∧ st = 1 ∧ L[j]? = some ix) ∨ (i = 0 ∧ st = 2 ∧ L = []))
theorem CbSt.keep {h h' : Heap} {I T : Addr} {vs : List Value} {L : List (List Nat)} {i : Nat} (c : CbSt h I T vs L i) (k1 : ∀ o, h.get? I = some o → h'.get? I = some o) (k2 : ∀ o, h.get? T = some o → h'.get? T = some o) : CbSt h' I T vs L i := by
  obtain ⟨hp, st, last, ix, hI, r⟩ := c
  exact ⟨k2 _ hp, st, last, ix, k1 _ hI, r⟩
theorem CbSt.typeIs {s : Shared} {I T : Addr} {vs : List Value} {L : List (List Nat)} {i : Nat} (c : CbSt s.heap I T vs L i) : s.TypeIs (.ref I) "itertools.combinations" := by
  obtain ⟨hp, st, last, ix, hI, r⟩ := c
  exact ⟨_, hI, rfl⟩
abbrev tupO (vs : List Value) (ix : List Nat) : Obj := { cls := .type "tuple", data := .seq (outT vs ix).toArray }
section
variable {prog : Program} {w : World} {A : Around} {E : Value → Shared → Prop} {s : Shared}
theorem cb_item {I T : Addr} {vs : List Value} {L : List (List Nat)} {r i : Nat} {ix : List Nat} {Q : Option Value → Shared → Prop} (ch : Chain vs.length r L) (c : CbSt s.heap I T vs L i) (hne : T ≠ I) (hi : L[i]? = some ix)
    (hQ : ∀ h', CbSt h' I T vs L (i + 1) → h'.get? s.heap.objs.size = some (tupO vs ix) → KeepBut I s.heap h' → Q (some (.ref s.heap.objs.size)) { s with heap := h' }) : wpAny (model prog w) A (pyNext (.ref I)) Q E s := by
  have hT0 := c.typeIs
  obtain ⟨hp, st, last, ix0, hI, r⟩ := c
  have hz := (ch.1 _ _ hi).2
  have fin : ∀ h', IsCb h' I T 1 (.ref s.heap.objs.size) ix → h'.get? s.heap.objs.size = some (tupO vs ix) → KeepBut I s.heap h' → Q (some (.ref s.heap.objs.size)) { s with heap := h' } := fun h' a b k => hQ h' ⟨k _ _ hne hp, 1, _, ix, a, .inr (.inl ⟨i, rfl, rfl, hi⟩)⟩ b k
  unfold pyNext
  refine wpAny_bind (wpAny_attempt (wpAny_callSpecial?_slot (name := Str.ofString "__next__") hT0 cb_snext (wpAny_call_entry cb_snext hT0 cb_enext ?_ (cb_anext _))))
  rcases r with ⟨rfl, rfl, e⟩ | ⟨j, rfl, rfl, e⟩ | ⟨rfl, rfl, rfl⟩
  · rw [e] at hi
    cases hi
    exact cb_first hI hp hne hz fun h' a b k => wpAny_pure (fin h' a b k)
  · have := (ch.1 _ _ e).1
    rw [hi] at this
    exact cb_more hI hp hne hz this fun h' a b k => wpAny_pure (fin h' a b k)
  · cases hi
theorem cb_done {I T : Addr} {vs : List Value} {L : List (List Nat)} {r : Nat} {Q : Option Value → Shared → Prop} (hh : A.handled = none) (ch : Chain vs.length r L) (c : CbSt s.heap I T vs L L.length)
    (hQ : ∀ h', KeepBut I s.heap h' → Q none { s with heap := h' }) : wpAny (model prog w) A (pyNext (.ref I)) Q E s := by
  have hT0 := c.typeIs
  obtain ⟨hp, st, last, ix0, hI, r⟩ := c
  unfold pyNext
  refine wpAny_bind (wpAny_attempt (wpAny_callSpecial?_slot (name := Str.ofString "__next__") hT0 cb_snext (wpAny_call_entry cb_snext hT0 cb_enext ?_ (cb_anext _))))
  refine cb_end (ix := ix0) hh hI hp ?_ fun e h' he hk => ?_
  · rcases r with ⟨e, _, e2⟩ | ⟨j, e, e1, e2⟩ | ⟨_, e, _⟩
    · rw [show L = [] from List.length_eq_zero_iff.mp e] at e2
      cases e2
    · refine .inl ⟨e1, ?_⟩
      rw [(ch.1 _ _ e2).1, List.getElem?_eq_none (by omega)]
    · exact .inr e
  · obtain ⟨a, o, vs', rfl, ho, hc, _⟩ := he
    refine wpAny_bind (wpAny_isInstance (T := "StopIteration") (b := true) ⟨o, ho, hc⟩ isSubtype_stop ?_)
    exact wpAny_pure (hQ _ hk)
theorem cb_self {I T : Addr} {vs : List Value} {L : List (List Nat)} {i : Nat} {Q : Value → Shared → Prop} (c : CbSt s.heap I T vs L i) (h : Q (.ref I) s) : wpAny (model prog w) A (pyIter (.ref I)) Q E s := by
  have hT := c.typeIs
  refine wpAny_pyIter_slot hT cb_siter (wpAny_call_entry cb_siter hT cb_eiter ?_ (cb_aiter _))
  show wpAny _ _ (ret (.ref I)) _ _ s
  exact wpAny_pure ⟨_, rfl, "itertools.combinations", _, hT, cb_snext.lookup, h⟩
/-- as: the new tuples' addresses -/
def Made (h : Heap) (vs : List Value) (L : List (List Nat)) (as : List Addr) : Prop := as.Nodup ∧ ∀ (j : Nat) (a : Addr), as[j]? = some a → ∃ ix : List Nat, L[j]? = some ix ∧ h.get? a = some (tupO vs ix)
theorem cb_loop {S I T : Addr} {vs : List Value} {L : List (List Nat)} {r : Nat} {R : Result → Shared → Prop} (hh : A.handled = none) (ch : Chain vs.length r L) (hTI : T ≠ I) (hTS : T ≠ S) (hIS : I ≠ S) (hn : L.length ≤ sizeLine) (res : Value) {h0 : Heap}
    (hR : ∀ h' acc c as, (∀ b o, b ≠ S → b ≠ I → h0.get? b = some o → h'.get? b = some o) → h'.get? S = some { cls := .type "list", dict := none, data := .seq acc c, slots := #[] } → as.length = L.length → Made h' vs L as → (∀ a ∈ as, h0.objs.size ≤ a) →
      acc.toList = as.map Value.ref → R (.ok (.ret res)) { s with heap := h' }) :
    ∀ (k i : Nat) (h : Heap) (c : Nat) (acc : Array Value) (as : List Addr), L.length - i = k → i ≤ L.length → CbSt h I T vs L i → (∀ b o, b ≠ S → b ≠ I → h0.get? b = some o → h.get? b = some o) → h0.objs.size ≤ h.objs.size → (∀ a ∈ as, h0.objs.size ≤ a) →
      I < h0.objs.size → S < h0.objs.size → h.get? S = some { cls := .type "list", dict := none, data := .seq acc c, slots := #[] } → acc.toList = as.map Value.ref → as.length = i → Made h vs L as →
      codeAny (model prog w) A (.builtin "list.extend.loop" ⟨[.ref S, .ref I, res], []⟩) R { s with heap := h } := by
  intro k
  induction k with
  | zero =>
    intro i h c acc as hk hi hst hkeep hsz has hI0 hS0 hS hacc hal hm
    have hin : i = L.length := by omega
    subst hin
    refine codeAny_builtin PySem.F.entry_extend_loop ?_
    rw [Around.under_plainId PySem.F.plain_extend_loop _]
    show wpAny _ A.in1 (pyNext (.ref I) >>= _) _ _ _
    refine wpAny_bind (cb_done (s := { s with heap := h }) (A := A.in1) (r := r) hh ch hst fun h' hk' => ?_)
    refine wpAny_pure (hR h' acc c as (fun b o h1 h2 e => hk' b o h2 (hkeep b o h1 h2 e)) (hk' S _ (Ne.symm hIS) hS) hal ⟨hm.1, fun j a hj => ?_⟩ has hacc)
    obtain ⟨ix, e1, e2⟩ := hm.2 j a hj
    exact ⟨ix, e1, hk' a _ (Nat.ne_of_gt (Nat.lt_of_lt_of_le hI0 (has a (List.mem_of_getElem? hj)))) e2⟩
  | succ k ih =>
    intro i h c acc as hk hi hst hkeep hsz has hI0 hS0 hS hacc hal hm
    have hlt : i < L.length := by omega
    have hsz2 : acc.size = i := by rw [← Array.length_toList, hacc, List.length_map, hal]
    refine codeAny_builtin PySem.F.entry_extend_loop ?_
    rw [Around.under_plainId PySem.F.plain_extend_loop _]
    show wpAny _ A.in1 (pyNext (.ref I) >>= _) _ _ _
    refine wpAny_bind (cb_item (s := { s with heap := h }) (r := r) ch hst hTI (List.getElem?_eq_getElem hlt) fun h' hst' ht hkp => ?_)
    dsimp only at ht hkp ⊢
    have hS' := hkp S _ (Ne.symm hIS) hS
    have up : ∀ b o, b ≠ S → h'.get? b = some o → (h'.update S (Obj.mapSeq (·.push (Value.ref h.objs.size)))).get? b = some o := fun b o hb e => (Heap.get?_update_other _ _ (Ne.symm hb)).trans e
    have hlt2 : h.objs.size < h'.objs.size := Heap.lt_size ht
    have hIh : I < h.objs.size := Nat.lt_of_lt_of_le hI0 hsz
    have hSh : S < h.objs.size := Nat.lt_of_lt_of_le hS0 hsz
    show wpAny _ A.in1 (updateSeq S (·.push (Value.ref h.objs.size)) >>= _) _ _ _
    refine wpAny_bind ?_
    refine wpAny_updateSeq hS' rfl (wpAny_pure ⟨plainId_quiet PySem.F.plain_extend_loop _, ih (i + 1) _ _ (acc.push (Value.ref h.objs.size)) (as ++ [h.objs.size]) (by omega) hlt (hst'.keep (fun o e => up I o hIS e) (fun o e => up T o hTS e))
      (fun b o h1 h2 e => up b o h1 (hkp b o h2 (hkeep b o h1 h2 e))) (by show h0.objs.size ≤ (h'.update S (Obj.mapSeq (·.push (Value.ref h.objs.size)))).objs.size; rw [Heap.size_update]; omega) ?_ hI0 hS0 (Heap.get?_update_self _ hS' rfl) (by rw [Array.toList_push, hacc, List.map_append]; rfl) (by rw [List.length_append, hal]; rfl) ?_⟩) (by rw [hsz2]; omega) (by show (acc.push (Value.ref h.objs.size)).size ≤ sizeLine + 1; rw [Array.size_push, hsz2]; omega)
    · intro a ha
      rcases List.mem_append.mp ha with ha | ha
      · exact has a ha
      · rw [List.mem_singleton.mp ha]; exact hsz
    · refine ⟨List.nodup_append.mpr ⟨hm.1, List.nodup_cons.mpr ⟨by simp, List.nodup_nil⟩, fun a ha b hb => ?_⟩, fun j b hj => ?_⟩
      · rw [List.mem_singleton.mp hb]
        obtain ⟨j, hj⟩ := List.mem_iff_getElem?.mp ha
        obtain ⟨ix, _, e2⟩ := hm.2 j a hj
        exact Nat.ne_of_lt (Heap.lt_size e2)
      rcases Nat.lt_trichotomy j as.length with h1 | h1 | h1
      · rw [List.getElem?_append_left h1] at hj
        obtain ⟨ix, e1, e2⟩ := hm.2 j b hj
        have hb := has b (List.mem_of_getElem? hj)
        exact ⟨ix, e1, up b _ (Nat.ne_of_gt (Nat.lt_of_lt_of_le hS0 hb)) (hkp b _ (Nat.ne_of_gt (Nat.lt_of_lt_of_le hI0 hb)) e2)⟩
      · subst h1
        have hb : h.objs.size = b := by simpa using hj
        subst hb
        exact ⟨_, by rw [hal]; exact List.getElem?_eq_getElem hlt, up _ _ (Nat.ne_of_gt hSh) ht⟩
      · have hnone : (as ++ [h.objs.size])[j]? = none := List.getElem?_eq_none (by rw [List.length_append, List.length_singleton]; omega)
        rw [hnone] at hj; cases hj
theorem cb_collect {I T : Addr} {vs : List Value} {L : List (List Nat)} {r : Nat} {Q : List Value → Shared → Prop} (hh : A.handled = none) (ch : Chain vs.length r L) (hTI : T ≠ I) (hn : L.length ≤ sizeLine) (hst : CbSt s.heap I T vs L 0)
    (hQ : ∀ h' as, KeepBut I s.heap h' → as.length = L.length → Made h' vs L as → (∀ a ∈ as, s.heap.objs.size ≤ a) → s.heap.objs.size ≤ h'.objs.size → Q (as.map Value.ref) { s with heap := h' }) : wpAny (model prog w) A (collect (.ref I)) Q E s := by
  have hT := hst.typeIs
  obtain ⟨hp, st, last, ix0, hI, _⟩ := id hst
  have hIs : I < s.heap.objs.size := Heap.lt_size hI
  have hTs : T < s.heap.objs.size := Heap.lt_size hp
  have nI : s.heap.objs.size ≠ I := Nat.ne_of_gt hIs
  have nT : s.heap.objs.size ≠ T := Nat.ne_of_gt hTs
  unfold collect
  refine wpAny_bind (wpAny_runValue (codeAny_builtin F.entry_proto_collect ?_))
  rw [Around.under_plainId F.plain_proto_collect _]
  show wpAny _ A.in1 (newList [] >>= fun z => again (.builtin "list.__iadd__" ⟨[z, .ref I], []⟩)) _ _ s
  refine wpAny_bind (wpAny_newObj_type ?_)
  refine wpAny_pure ⟨plainId_quiet F.plain_list_iadd _, codeAny_builtin F.entry_list_iadd ?_⟩
  rw [Around.under_plainId F.plain_list_iadd _]
  have st1 : CbSt (s.heap.push { cls := .type "list", data := .seq ([] : List Value).toArray }) I T vs L 0 := hst.keep (fun o e => Heap.get?_push_of_some _ e) fun o e => Heap.get?_push_of_some _ e
  show wpAny _ A.in1 (Builtin.List.listExtendWith (.ref s.heap.objs.size) (.ref I) (.ref s.heap.objs.size)) _ _ _
  unfold Builtin.List.listExtendWith
  have hT1 : ({ s with heap := s.heap.push { cls := .type "list", data := .seq ([] : List Value).toArray } } : Shared).TypeIs (.ref I) "itertools.combinations" := CbSt.typeIs (s := { s with heap := s.heap.push { cls := .type "list", data := .seq ([] : List Value).toArray } }) st1
  refine wpAny_bind (wpAny_typeOf hT1 ?_)
  have no1 : Builtin.List.listSameRef (.ref s.heap.objs.size) (.ref I) = false := by simp [Builtin.List.listSameRef, nI]
  rw [if_neg (by rw [no1]; decide)]
  refine wpAny_bind (cb_self (s := { s with heap := s.heap.push { cls := .type "list", data := .seq ([] : List Value).toArray } }) st1 ?_)
  refine wpAny_bind (wpAny_holding ?_)
  unfold Builtin.List.listLengthHint
  refine wpAny_bind (wpAny_specialOf hT1 cb_nolen ?_)
  show wpAny _ A.in1 (specialOf (Value.ref I) (Str.ofString "__length_hint__") >>= _) _ _ _
  refine wpAny_bind (wpAny_specialOf hT1 cb_nohint ?_)
  refine wpAny_pure ?_
  show wpAny _ A.in1 (rule "list.extend.makes-room" >>= fun _ => Builtin.List.listTouch (.ref s.heap.objs.size) >>= fun _ =>
    again (.builtin "list.extend.loop" ⟨[.ref s.heap.objs.size, .ref I, .ref s.heap.objs.size], []⟩)) _ _ _
  refine wpAny_bind (wpAny_rule ?_)
  have g1 : (s.heap.push { cls := .type "list", data := .seq ([] : List Value).toArray }).get? s.heap.objs.size = some { cls := .type "list", data := .seq ([] : List Value).toArray } := Heap.get?_push_size _ rfl
  refine wpAny_bind ?_
  show wpAny _ A.in1 (updateSeq s.heap.objs.size (·.push .none) >>= fun _ => updateSeq s.heap.objs.size (·.pop)) _ _ _
  refine wpAny_bind (wpAny_updateSeq g1 rfl ?_)
  have g2 := Heap.get?_update_self (Obj.mapSeq (·.push Value.none)) g1 rfl
  refine wpAny_updateSeq g2 rfl ?_
  have g3 := Heap.get?_update_self (Obj.mapSeq (·.pop)) g2 rfl
  have oth : ∀ b o, b ≠ s.heap.objs.size → (s.heap.push { cls := .type "list", data := .seq ([] : List Value).toArray }).get? b = some o →
      (((s.heap.push { cls := .type "list", data := .seq ([] : List Value).toArray }).update s.heap.objs.size (Obj.mapSeq (·.push Value.none))).update s.heap.objs.size (Obj.mapSeq (·.pop))).get? b = some o :=
    fun b o hb e => (Heap.get?_update_other _ _ (Ne.symm hb)).trans ((Heap.get?_update_other _ _ (Ne.symm hb)).trans e)
  have sz : (((s.heap.push { cls := .type "list", data := .seq ([] : List Value).toArray }).update s.heap.objs.size (Obj.mapSeq (·.push Value.none))).update s.heap.objs.size (Obj.mapSeq (·.pop))).objs.size = s.heap.objs.size + 1 := by
    rw [Heap.size_update, Heap.size_update, size_push']
  refine wpAny_pure ⟨plainId_quiet F.plain_extend_loop _, cb_loop (A := A) (s := s) (r := r) (h0 := ((s.heap.push { cls := .type "list", data := .seq ([] : List Value).toArray }).update s.heap.objs.size (Obj.mapSeq (·.push Value.none))).update s.heap.objs.size (Obj.mapSeq (·.pop))) hh ch hTI (Ne.symm nT) (Ne.symm nI) hn _ (fun h' acc c as k1 k2 k3 k4 k5 k6 => ?_)
    L.length 0 _ _ _ [] (by omega) (Nat.zero_le _) (st1.keep (fun o e => oth I o (Ne.symm nI) e) fun o e => oth T o (Ne.symm nT) e) (fun b o _ _ e => e) (Nat.le_refl _) (fun a ha => by cases ha) (by rw [sz]; exact Nat.lt_succ_of_lt hIs) (by rw [sz]; exact Nat.lt_succ_self _) g3 rfl rfl ⟨List.nodup_nil, fun j a hj => by simp at hj⟩⟩
  show wpAny _ A (load s.heap.objs.size >>= _) _ _ _
  refine wpAny_bind (wpAny_load k2 ?_)
  refine wpAny_pure ?_
  show Q acc.toList _
  rw [k6]
  refine hQ h' as (fun b o hb e => ?_) k3 k4 (fun a ha => by have := k5 a ha; rw [sz] at this; omega) (Nat.le_of_lt (Heap.lt_size k2))
  have hbs : b ≠ s.heap.objs.size := Nat.ne_of_lt (Heap.lt_size e)
  exact k1 b o hbs hb (oth b o hbs (Heap.get?_push_of_some _ e))
end
end CB
set_option Elab.async false
set_option linter.all false
set_option maxRecDepth 100000
set_option maxHeartbeats 4000000
/-! FN27: tuple(combinations(range(..), k)). -/
namespace CB
open PySem PySem.W PyProof.Rows
section
variable {prog : Program} {w : World} {A : Around} {E : Value → Shared → Prop} {s : Shared}
theorem new_tup {I T : Addr} {vs : List Value} {L : List (List Nat)} {r : Nat} {R : Value → Shared → Prop} (hh : A.handled = none) (ch : Chain vs.length r L) (hTI : T ≠ I) (hn : L.length ≤ sizeLine) (hst : CbSt s.heap I T vs L 0)
    (hQ : ∀ h' as, KeepBut I s.heap h' → as.length = L.length → Made h' vs L as → (∀ a ∈ as, s.heap.objs.size ≤ a) → s.heap.objs.size ≤ h'.objs.size → R (.ref h'.objs.size) { s with heap := h'.push { cls := .type "tuple", data := .seq (as.map Value.ref).toArray } }) :
    codeAny (model prog w) A (.call (.builtin "tuple.__new__") ⟨[.type "tuple", .ref I], []⟩) (wants R E) s := by
  refine codeAny_of_tree ?_
  show wpAny _ A.in1 (do checkBuiltinCall "tuple.__new__" ⟨[.type "tuple", .ref I], []⟩; again (.builtin "tuple.__new__" ⟨[.type "tuple", .ref I], []⟩)) _ _ s
  refine wpAny_bind (wpAny_of_eq (F.newCall_tuple_1 _) (wpAny_pure ⟨plainId_quiet F.plain_tuple_new _, codeAny_builtin F.entry_tuple_new ?_⟩))
  rw [Around.under_plainId F.plain_tuple_new _]
  have hsub := sub_tuple_self
  have hinit := init_tuple_lookup
  have hmh := madeHere_tuple
  have hTI2 := hst.typeIs
  have hh1 : A.in1.handled = none := hh
  wp_walk using wpAny_typeOf hTI2, cb_collect (A := A.in1) hh1 ch hTI hn hst
  intro h' as k1 k2 k3 k4 k5
  show wpAny _ _ (Builtin.Tuple.tupleExact (as.map Value.ref).toArray >>= fun v => ret v) _ _ _
  unfold Builtin.Tuple.tupleExact
  refine wpAny_bind (wpAny_newObj_type ?_ (by show (as.map Value.ref).toArray.size ≤ sizeLine; rw [List.size_toArray, List.length_map, k2]; exact hn))
  exact wpAny_pure (hQ h' as k1 k2 k3 k4 k5)
theorem call_tup {I T : Addr} {vs : List Value} {L : List (List Nat)} {r : Nat} {Q : Value → Shared → Prop} (hh : A.handled = none) (ch : Chain vs.length r L) (hTI : T ≠ I) (hn : L.length ≤ sizeLine) (hst : CbSt s.heap I T vs L 0)
    (hQ : ∀ h' as, KeepBut I s.heap h' → as.length = L.length → Made h' vs L as → (∀ a ∈ as, s.heap.objs.size ≤ a) → s.heap.objs.size ≤ h'.objs.size → Q (.ref h'.objs.size) { s with heap := h'.push { cls := .type "tuple", data := .seq (as.map Value.ref).toArray } }) :
    wpAny (model prog w) A (call (.type "tuple") [.ref I]) Q E s := by
  refine callType_codes (Q₁ := fun obj s1 => s1.TypeIs obj "tuple" ∧ Q obj s1) F.called_tuple (F.typeCall_tuple_1 _) F.entry_object_init
    (new_tup (A := A.in1) hh ch hTI hn hst fun h' as k1 k2 k3 k4 k5 => ⟨⟨_, Heap.get?_push_size _ rfl, rfl⟩, hQ h' as k1 k2 k3 k4 k5⟩) fun obj s1 h1 => ?_
  exact ⟨h1.1, F.args_object_init_2 obj _, object_init_meets F.called_tuple.init.lookup F.called_tuple.made (by decide) prog w A.in1 _ s1 ⟨h1.1, rfl, h1.2⟩⟩
/-- combinations(x, k): the pool, the object -/
theorem call_cb {x : Value} {k : Nat} {t : Tok} {Q : Value → Shared → Prop} (hk : k ≤ 1000)
    (h : wpAny (model prog w) A.in1.in1 (collect x) (fun vs s1 => vs.length ≤ sizeLine ∧ ∀ h', IsPool h' s1.heap.objs.size vs → IsCb h' (s1.heap.objs.size + 1) s1.heap.objs.size (if k > vs.length then 2 else 0) .none (List.range k) → (∀ b o, s1.heap.get? b = some o → h'.get? b = some o) → Q (.ref (s1.heap.objs.size + 1)) { s1 with heap := h' }) E s) :
    wpAny (model prog w) A (call (.type "itertools.combinations") [x, .int k t]) Q E s := by
  refine callType_newIn cb_called (by decide) (cb_tcall _ _) (cb_ncall _ _) (fun obj => F.args_object_init_3 obj _ _) cb_enew (new_cb prog w x k t hk) ?_
  show wpAny (model prog w) A.in1.in1 (collect x) _ _ _
  refine wpAny_mono h (fun vs s1 h => ?_) fun _ _ z => z
  have z : (poolH s1.heap vs).objs.size = s1.heap.objs.size + 1 := Heap.size_push ..
  have gI : (cbH s1.heap vs k).get? (poolH s1.heap vs).objs.size = some { cls := .type "itertools.combinations", dict := none, data := .fields (flds s1.heap.objs.size (if k > vs.length then 2 else 0) .none (List.range k)), slots := #[] } := Heap.get?_push_size _ rfl
  have gT : (cbH s1.heap vs k).get? s1.heap.objs.size = some { cls := .type "tuple", data := .seq vs.toArray } := Heap.get?_push_of_some _ (Heap.get?_push_size _ rfl)
  refine ⟨h.1, ?_⟩
  rw [z] at gI ⊢
  have hq := h.2 _ gT gI fun b o e => Heap.get?_push_of_some _ (Heap.get?_push_of_some _ e)
  show _ ∧ _
  exact ⟨⟨_, gI, rfl⟩, hq⟩
end
end CB
set_option Elab.async false
set_option linter.all false
set_option maxRecDepth 100000
set_option maxHeartbeats 4000000
/-! FN28: tuple(combinations(range(..), k)), over the layers. -/
namespace L2
open PySem PySem.W PySem.Spec PyProof.Rows
section
variable {X : Cx} {pins : List (Addr × Obj)} {σ : St} {H H2 : Hp} {s : Shared} {h' : Heap}
/-- records of ours have turned, many new objects are laid -/
theorem Inv.turnedAll {t' : Nat} {ch : List Addr} (I : Inv X pins σ H s) (k : ∀ b o, b ∉ ch → s.heap.get? b = some o → h'.get? b = some o) (hf : ∀ b ∈ ch, FpOk X pins H b) (sm : Same H H2)
    (nw : ∀ c u, H2 c = some u → H c = some u ∨ (s.heap.objs.size ≤ c ∧ ObjOk X.prog X.w H2 h' c u)) : Inv X pins σ H2 { s with heap := h', toks := t' } := by
  have nit : ∀ b u, H b = some u → b ∉ ch := fun b u e z => by
    have q := (hf b z).1
    rw [q] at e; cases e
  refine I.step (g' := s.gens) (d' := s.drawn) (ch := ch) (fun b hb => ⟨(hf b hb).2.2.2.1, (hf b hb).2.1, (hf b hb).2.2.2.2.1, (hf b hb).2.2.2.2.2⟩) (fun b o _ _ hc e _ => k b o hc e) (fun b o _ _ hc e _ => ⟨o.slots, k b o hc e⟩)
    (fun b o _ e n => ?_) (fun b o hc e => ⟨o, k b o hc e⟩) (fun b xs e => sm _ _ e) (fun b o u e => sm _ _ e) (fun b ps e => ⟨#[], ?_⟩) (fun m hm => ?_) (fun b u e => ?_) I.bare
  · cases q : H2 b with
    | none => rfl
    | some u =>
      rcases nw b u q with z | ⟨z, _⟩
      · rw [n] at z; cases z
      · exact absurd (Nat.lt_of_lt_of_le (Heap.lt_size e) z) (Nat.lt_irrefl _)
  · rw [sm _ _ e]; simp
  · obtain ⟨o, es, ep, ho, r⟩ := hm
    exact ⟨o, es, ep, k _ o (fun z => (hf _ z).2.1 rfl) ho, r⟩
  · rcases nw b u e with e | ⟨_, new⟩
    · refine (I.hok b u e).stay (fun c v hc q => k c v ?_ q) (fun c q => sm _ _ q) fun c xs q => sm _ _ q
      rcases hc with z | z
      · rw [z]; exact nit b u e
      · exact nit c _ z
    · exact new
/-- all rows of k of n indices, in order -/
structure Rows (n k : Nat) (L : List (List Nat)) : Prop where
  ch : CB.Chain n k L
  len : L.length ≤ sizeLine
  low : ∀ ix ∈ L, ∀ i ∈ ix, i < n
/-- range(..): the new object is the last one -/
def PRs (X : Cx) (e : Expr) (t : L2.St → Hp → (Int → Int → Hp → Prop) → Prop) : Prop := ∀ (pins : List (Addr × Obj)) (s : Shared) (σ : L2.St) (H : Hp) (Q : Int → Int → Hp → Prop), Inv X pins σ H s → t σ H Q →
  wpAny (model X.prog X.w) X.A (eval e X.env) (fun x s' => ∃ r a b t u v H', x = .ref r ∧ IsRange s'.heap r a b 1 t u v ∧ s'.heap.objs.size = r + 1 ∧ Inv X pins σ H' s' ∧ Q a b H') X.xe s
theorem prs_1 {a : Expr} {ta : TE} {p pos : Pos} (hg : Gl X "range") (hm : X.mg "range" = none) (ha : PE X a ta) (na : starEach [a] X.env = (false, eval a X.env) :: starEach [] X.env := by rfl) : PRs X (.Call (.Name "range" p) [a] [] pos) (tRg1 ta) := by
  intro pins s σ H Q I h
  refine Call_ (ld_blt I hg hm boot_range (PyProof.Rows.callWith_type1 (one_arg ha I h (fun v s2 x H2 I2 r q => ?_) na) na))
  obtain ⟨n, rfl, q⟩ := q
  obtain ⟨t, rfl⟩ := r
  exact call_range_1 ⟨_, 0, n, _, _, _, H2, rfl, IsRange.new _ _ _ _ _ _ _, size_push' _ _, I2.kept fun b u e => Heap.get?_push_of_some _ e, q⟩
def tTupCb (k : Nat) (te : L2.St → Hp → (Int → Int → Hp → Prop) → Prop) : TE := fun σ H Q => te σ H fun a b H1 => RgOk a b ∧ ∃ L, Rows (b - a).toNat k L ∧
  ∀ (H2 : Hp) (as : List Addr) (p : Addr), Same H1 H2 → as.length = L.length → (∀ (j : Nat) (c : Addr), as[j]? = some c → ∃ ix, L[j]? = some ix ∧ H1 c = none ∧ H2 c = some (.tup (ix.map fun (i : Nat) => V.int (a + (i : Int))))) → H2 p = none → Q (.ref p) (upd H2 p (.tup (as.map V.ref)))
theorem pe_tupCb {e : Expr} {te : L2.St → Hp → (Int → Int → Hp → Prop) → Prop} {x : Str} {k j : Nat} {p p2 pk pos pos2 : Pos} (hc : X.calm = true) (hk : k ≤ 1000) (hg : Gl X "tuple") (hm : X.mg "tuple" = none) (hgx : Gl X x) (hmx : X.mg x = some (.type "itertools.combinations")) (he : PRs X e te) (hdb : (x == ("__debug__" : Str)) = false := by decide)
    (na : starEach [e, .Constant (.int k) j pk] X.env = (false, eval e X.env) :: starEach [.Constant (.int k) j pk] X.env := by rfl) (nb : starEach [.Constant (.int k) j pk] X.env = (false, eval (.Constant (.int k) j pk) X.env) :: starEach [] X.env := by rfl) (hp : (backTo pos2 (starEach [.Constant (.int k) j pk] X.env)).any (·.1) = false := by rfl)
    (nc : starEach [.Call (.Name x p2) [e, .Constant (.int k) j pk] [] pos2] X.env = (false, eval (.Call (.Name x p2) [e, .Constant (.int k) j pk] [] pos2) X.env) :: starEach [] X.env := by rfl) :
    PE X (.Call (.Name "tuple" p) [.Call (.Name x p2) [e, .Constant (.int k) j pk] [] pos2] [] pos) (tTupCb k te) := by
  refine ⟨fun pins s σ H Q I h => ?_⟩
  refine Call_ (ld_blt I hg hm boot_tuple (PyProof.Rows.callWith_type1 (args_cons ?_ nc) nc))
  refine Call_ (ld_glob I hgx hmx (PyProof.Rows.callWith_type1 (args_cons (thn (he pins s σ H _ I h) fun xr s1 ⟨r, a, b, t, u, v, H1, ex, hr, sz, I1, ok, L, rows, q⟩ => args_cons (wpAny_Constant_int (args_nil ?_)) nb) na) na hp) hdb)
  subst ex
  obtain ⟨b1, b2, b3, b4, b5⟩ := ok
  have hh : X.A.in1.in1.handled = none := I1.ok.hd hc
  have hr2 : IsRange ({ s1 with toks := s1.toks + 1 } : Shared).heap r a b 1 t u v := hr
  refine CB.call_cb hk (collect_range (A := X.A.in1.in1) hh hr2 (small_one b1 b2 b3 b4) (rangeSize_nat a b) b5 fun h2 tk acc k2 hi => ⟨?_, fun h3 hP hC k3 => args_nil ?_⟩)
  · rw [Array.length_toList, hi.1, sizeLine_eq]
    omega
  dsimp only at hP hC k3 ⊢
  have k12 : ∀ b o, s1.heap.get? b = some o → h3.get? b = some o := fun b o e => k3 b o (k2 b o e)
  have hrs : r < h2.objs.size := Heap.lt_size (k2 r _ hr)
  have le12 : s1.heap.objs.size ≤ h2.objs.size := by rw [sz]; exact hrs
  have n1 : acc.toList.length = (b - a).toNat := by rw [Array.length_toList]; exact hi.1
  have ch : CB.Chain acc.toList.length k L := by rw [n1]; exact rows.ch
  have hTI : h2.objs.size ≠ h2.objs.size + 1 := Nat.ne_of_lt (Nat.lt_succ_self _)
  have st0 : CB.CbSt h3 (h2.objs.size + 1) h2.objs.size acc.toList L 0 := by
    refine ⟨hP, _, _, _, hC, ?_⟩
    have := ch.2
    by_cases z : k > acc.toList.length
    · rw [if_pos z] at this ⊢
      exact .inr (.inr ⟨rfl, rfl, this⟩)
    · rw [if_neg z] at this ⊢
      exact .inl ⟨rfl, rfl, this⟩
  refine CB.call_tup (I1.ok.hd hc) ch hTI rows.len st0 fun h4 as k4 l4 mk lo sz4 => ?_
  dsimp only at k4 lo sz4 ⊢
  have hIs1 : s1.heap.objs.size ≤ h2.objs.size + 1 := Nat.le_succ_of_le le12
  have fI : FpOk X pins H1 (h2.objs.size + 1) := I1.fpOk hIs1 (I1.hok.fresh hIs1)
  have h3s : h2.objs.size + 1 < h3.objs.size := Heap.lt_size hC
  have lo1 : ∀ c ∈ as, s1.heap.objs.size ≤ c := fun c hcm => Nat.le_trans hIs1 (Nat.le_trans (Nat.le_of_lt h3s) (lo c hcm))
  classical
  let H2 : Hp := fun c => if hcm : c ∈ as then (match L[as.idxOf c]? with | some ix => some (.tup (ix.map fun (i : Nat) => V.int (a + (i : Int)))) | none => none) else H1 c
  have at2 : ∀ (jj : Nat) (c : Addr), as[jj]? = some c → ∃ ix, L[jj]? = some ix ∧ H2 c = some (.tup (ix.map fun (i : Nat) => V.int (a + (i : Int)))) ∧ h4.get? c = some (CB.tupO acc.toList ix) := fun jj c hj => by
    obtain ⟨ix, e1, e2⟩ := mk.2 jj c hj
    have hjl : jj < as.length := (List.getElem?_eq_some_iff.mp hj).1
    have hcj : as[jj] = c := (List.getElem?_eq_some_iff.mp hj).2
    have hid : as.idxOf c = jj := by rw [← hcj]; exact mk.1.idxOf_getElem jj hjl
    refine ⟨ix, e1, ?_, e2⟩
    show (if hcm : c ∈ as then _ else _) = _
    rw [dif_pos (List.mem_of_getElem? hj), hid, e1]
  have vals : ∀ ix ∈ L, Vals (ix.map fun (i : Nat) => V.int (a + (i : Int))) (CB.outT acc.toList ix) := fun ix hix => by
    have low := rows.low ix hix
    have one : ∀ i < (b - a).toNat, RelV (V.int (a + (i : Int))) (acc.toList.toArray.getD i .none) := fun i hi' => by
      have hs : i < acc.size := by rw [hi.1]; exact hi'
      obtain ⟨tt, ett⟩ := hi.2 i _ (Array.getElem?_eq_getElem hs)
      have e1 : acc.toList.toArray.getD i .none = acc[i] := by
        rw [Array.toArray_toList, Array.getD, dif_pos hs]
        rfl
      rw [e1, ett, Int.mul_one]
      exact ⟨tt, rfl⟩
    unfold CB.outT
    clear hix
    induction ix with
    | nil => exact .nil
    | cons i ix ih => exact .cons (one i (low i List.mem_cons_self)) (ih fun i' h' => low i' (List.mem_cons_of_mem _ h'))
  have same : Same H1 H2 := fun c o e => by
    show (if hcm : c ∈ as then _ else _) = _
    rw [dif_neg (fun hcm => by
      have := I1.hok.fresh (lo1 c hcm)
      rw [e] at this
      cases this)]
    exact e
  have I4 : Inv X pins σ H2 { s1 with heap := h4, toks := tk } := I1.turnedAll (ch := [h2.objs.size + 1]) (fun c o hcm e => k4 c o (fun z => hcm (by rw [z]; exact List.mem_singleton_self _)) (k12 c o e)) (fun c hcm => by rw [List.mem_singleton.mp hcm]; exact fI) same (fun c u e => by
    by_cases hcm : c ∈ as
    · obtain ⟨jj, hj⟩ := List.mem_iff_getElem?.mp hcm
      obtain ⟨ix, e1, e2, e3⟩ := at2 jj c hj
      rw [e2] at e
      cases e
      have hix : ix ∈ L := List.mem_of_getElem? e1
      exact .inr ⟨lo1 c hcm, by rw [List.length_map]; have := (rows.ch.1 _ _ e1).2; unfold sizeLine; omega, _, vals ix hix, ⟨_, e3, rfl, 0, rfl⟩⟩
    · have e' : (if hcm : c ∈ as then (match L[as.idxOf c]? with | some ix => some (HO.tup (ix.map fun (i : Nat) => V.int (a + (i : Int)))) | none => none) else H1 c) = some u := e
      rw [dif_neg hcm] at e'
      exact .inl e')
  have fresh4 := I4.hok.fresh (Nat.le_refl h4.objs.size)
  refine ⟨.ref h4.objs.size, upd H2 h4.objs.size (.tup (as.map V.ref)), I4.laid (t' := tk) (fun c o e => Heap.get?_push_of_some _ e) (Nat.le_refl _) ⟨by rw [List.length_map, l4]; exact rows.len, _, vals_refs as, IsTup.new _ _⟩, rfl, ?_⟩
  refine q H2 as h4.objs.size same l4 (fun jj c hj => ?_) fresh4
  obtain ⟨ix, e1, e2, _⟩ := at2 jj c hj
  exact ⟨ix, e1, I1.hok.fresh (lo1 c (List.mem_of_getElem? hj)), e2⟩
end
end L2
set_option Elab.async false
set_option linter.all false
set_option maxRecDepth 100000
set_option maxHeartbeats 4000000
/-! FN29: tuple(combinations(range(n), 2)) as data; a datum taken as one of a wider kind. -/
namespace FN
open PySem PySem.Spec PyProof.Rows L2
/-- the pairs i < j < n, in order -/
def pairsL (n : Nat) : List (List Nat) := (List.range n).flatMap fun i => (List.range (n - 1 - i)).map fun d => [i, i + 1 + d]
def rowsB (n k : Nat) (L : List (List Nat)) : Bool := (List.range L.length).all (fun i => CB.nx n (L.getD i []) == L[i + 1]? && decide ((L.getD i []).length ≤ 1000)) && (if k > n then L == [] else L[0]? == some (List.range k)) && decide (L.length ≤ 1000) && L.all fun ix => ix.all fun i => decide (i < n)
theorem rows_of {n k : Nat} {L : List (List Nat)} (h : rowsB n k L = true) : Rows n k L := by
  unfold rowsB at h
  rw [Bool.and_eq_true, Bool.and_eq_true, Bool.and_eq_true] at h
  obtain ⟨⟨⟨h1, h2⟩, h3⟩, h4⟩ := h
  refine ⟨⟨fun i a e => ?_, ?_⟩, ?_, fun ix hx i hi => ?_⟩
  · have hl := (List.getElem?_eq_some_iff.mp e).1
    have q := List.all_eq_true.mp h1 i (List.mem_range.mpr hl)
    rw [Bool.and_eq_true] at q
    have ea : L.getD i [] = a := by rw [List.getD_eq_getElem?_getD, e]; rfl
    rw [ea] at q
    exact ⟨eq_of_beq q.1, of_decide_eq_true q.2⟩
  · split at h2
    · rename_i z
      rw [if_pos z]
      exact eq_of_beq h2
    · rename_i z
      rw [if_neg z]
      exact eq_of_beq h2
  · have := of_decide_eq_true h3
    rw [sizeLine_eq]
    omega
  · exact of_decide_eq_true (List.all_eq_true.mp (List.all_eq_true.mp h4 ix hx) i hi)
theorem pairs_rows : ∀ n ≤ 10, Rows n 2 (pairsL n) := by
  have h : ((List.range 11).all fun n => rowsB n 2 (pairsL n)) = true := by decide +kernel
  intro n hn
  exact rows_of (List.all_eq_true.mp h n (List.mem_range.mpr (by omega)))
/-- rows of indices as data -/
def rowsD (L : List (List Nat)) : List D := L.map fun ix => .tuple (ix.map fun (i : Nat) => .int (i : Int))
def fTupCb2 (m : Md) (fa : M D) : M D := fun ρ => bdo (fa ρ) fun x ρ1 => match rd m x ρ1 with
  | some (.int n) => if 0 ≤ n ∧ n ≤ 10 then some (.ok (.tuple (rowsD (pairsL n.toNat))) ρ1) else none
  | _ => none
section
variable {X : Cx} {W : WX} {b : Bool} {κ : List Kind} {pos p : Pos} {a : Expr} {fa : M D} {m : Md}
theorem fe_tupCb2 {x : Str} {j : Nat} {p p2 pk p3 pos pos2 pos3 : Pos} (hc : X.calm = true) (hg : Gl X "tuple") (hm : X.mg "tuple" = none) (hgr : Gl X "range") (hmr : X.mg "range" = none) (hmx : X.mg x = some (.type "itertools.combinations")) (ha : FV X W κ m a fa) (hgx : Gl X x := by rfl) (hdb : (x == ("__debug__" : Str)) = false := by decide)
    (n0 : starEach [a] X.env = (false, eval a X.env) :: starEach [] X.env := by rfl)
    (na : starEach [.Call (.Name "range" p3) [a] [] pos3, .Constant (.int 2) j pk] X.env = (false, eval (.Call (.Name "range" p3) [a] [] pos3) X.env) :: starEach [.Constant (.int 2) j pk] X.env := by rfl) (nb : starEach [.Constant (.int 2) j pk] X.env = (false, eval (.Constant (.int 2) j pk) X.env) :: starEach [] X.env := by rfl) (hp : (backTo pos2 (starEach [.Constant (.int 2) j pk] X.env)).any (·.1) = false := by rfl)
    (nc : starEach [.Call (.Name x p2) [.Call (.Name "range" p3) [a] [] pos3, .Constant (.int 2) j pk] [] pos2] X.env = (false, eval (.Call (.Name x p2) [.Call (.Name "range" p3) [a] [] pos3, .Constant (.int 2) j pk] [] pos2) X.env) :: starEach [] X.env := by rfl) :
    FV X W κ (.t (.v b)) (.Call (.Name "tuple" p) [.Call (.Name x p2) [.Call (.Name "range" p3) [a] [] pos3, .Constant (.int 2) j pk] [] pos2] [] pos) (fTupCb2 m fa) :=
  (pe_tupCb (k := 2) hc (by decide) hg hm hgx hmx (prs_1 hgr hmr ha n0) hdb na nb hp nc).imp fun σ H Q h => by
  obtain ⟨ρ, w, rfl, rel, post⟩ := h
  refine seqV (P := PostV (ctx X W) κ σ (.t (.v b)) w Q) rel post (fun z => z) (fun n d ρ' z => z) fun d ρ1 v w1 rel1 e1 t1 post1 => ?_
  cases q : rd m d ρ1 with
  | none =>
    rw [q] at post1
    exact post1.elim
  | some y =>
    rw [q] at post1
    cases y with
    | int n =>
      dsimp only at post1
      by_cases hn : 0 ≤ n ∧ n ≤ 10
      · rw [if_pos hn] at post1
        refine ⟨n, dp_int (rd_dp rel1 t1 q), ⟨by decide, by decide, by omega, by omega, by omega⟩, pairsL n.toNat, ?_, fun H2 as p' same len at2 np => ?_⟩
        · rw [Int.sub_zero]
          exact pairs_rows _ (by omega)
        · classical
          let F' : Hp := fun c => match w1.F c with
            | some o => some o
            | none => if w1.H c = none then H2 c else none
          have F1 : ∀ c o, w1.F c = some o → F' c = some o := fun c o e => by
            show (match w1.F c with | some o => some o | none => if w1.H c = none then H2 c else none) = _
            rw [e]
          have F2 : ∀ c, w1.F c = none → F' c = if w1.H c = none then H2 c else none := fun c e => by
            show (match w1.F c with | some o => some o | none => if w1.H c = none then H2 c else none) = _
            rw [e]
          have nF : ∀ c, w1.H c = none → w1.F c = none := fun c e => by
            cases z : w1.F c with
            | none => rfl
            | some o =>
              rw [rel1.same c o z] at e
              cases e
          have rel2 : Rel X.K κ ρ1 σ ⟨F', H2, w1.fp⟩ := by
            refine ⟨fun c o e => ?_, fun c hcf => ?_, fun c hcf z => ?_, rel1.fixed, rel1.slots.frame (fun c o e => F1 c o e) fun c o _ e => same c o e⟩
            · show H2 c = some o
              have e' : F' c = some o := e
              cases z : w1.F c with
              | some o2 =>
                rw [F1 c o2 z] at e'
                cases e'
                exact same _ _ (rel1.same c _ z)
              | none =>
                rw [F2 c z] at e'
                split at e'
                · exact e'
                · cases e'
            · show F' c = none
              rw [F2 c (rel1.frz c hcf), if_neg (rel1.live c hcf)]
            · have z' : H2 c = none := z
              cases y : w1.H c with
              | none => exact rel1.live c hcf y
              | some o =>
                rw [same c o y] at z'
                cases z'
          have ext2 : Ext w1 ⟨F', H2, w1.fp⟩ := by
            refine ⟨fun c o e => F1 c o e, fun c o e => ?_, fun c o e _ => same c o e, fun c h => .inl h⟩
            cases z : w1.F c with
            | some o2 =>
              have e' : F' c = some o := e
              rw [F1 c o2 z] at e'
              exact .inl e'
            | none =>
              have e' : F' c = some o := e
              rw [F2 c z] at e'
              split at e'
              · rename_i y
                exact .inr (.inr y)
              · cases e'
          have rs : RDs b X.K F' (as.map V.ref) (rowsD (pairsL n.toNat)) := by
            refine RDs.of_get (by unfold rowsD; rw [List.length_map, List.length_map, len]) fun i v d hv hd => ?_
            rw [List.getElem?_map] at hv
            unfold rowsD at hd
            rw [List.getElem?_map] at hd
            cases hj : as[i]? with
            | none =>
              rw [hj] at hv
              cases hv
            | some c =>
              rw [hj] at hv
              cases hv
              obtain ⟨ix, e1, e2, e3⟩ := at2 i c hj
              rw [e1] at hd
              cases hd
              refine .tup (xs := ix.map fun (i : Nat) => V.int (0 + (i : Int))) ?_ ?_
              · rw [F2 c (nF c e2), if_pos e2]
                exact e3
              · clear e1 e3
                induction ix with
                | nil => exact .nil
                | cons i ix ih =>
                  refine .cons ?_ ih
                  show RD b X.K F' (V.int (0 + (i : Int))) (.int (i : Int))
                  rw [Int.zero_add]
                  exact .int _
          exact fin_tup post1 rel2 (e1.trans ext2) rs np
      · rw [if_neg hn] at post1
        exact post1.elim
    | _ => exact post1.elim
/-- a datum without written tuples, as any datum -/
theorem fe_wide (ha : FV X W κ (.t (.v false)) a fa) : FV X W κ (.t (.v true)) a fa := ha.imp fun σ H Q h => by
  obtain ⟨ρ, w, rfl, rel, post⟩ := h
  refine ⟨ρ, w, rfl, rel, ?_⟩
  cases q : fa ρ with
  | none =>
    rw [q] at post
    exact post
  | some o =>
    rw [q] at post
    cases o with
    | err n d ρ' => exact post
    | ok d ρ' => exact fun v w' r e ⟨g, od, rest⟩ => post v w' r e ⟨g, RD.any od, rest⟩
end
/-! ### an owned list frozen between two statements -/
section
variable {K : PySem.W.Frag} {κ : List Kind} {ρ : Env} {σ : L2.St} {w : Wd} {i : Nat} {b : Bool}
theorem rel_frz (rel : Rel K κ ρ σ w) (hk : κ[i]? = some (.lst (.v b))) : ∃ w', w'.H = w.H ∧ Rel K (κ.set i (.v b)) ρ σ w' ∧ Ext w w' := by
  have hl := rel.slots.lengths
  have hi : i < κ.length := (List.getElem?_eq_some_iff.mp hk).1
  have fixed : ∀ (j : Nat) (u : V) (k : Kind), (κ.set i (.v b))[j]? = some (Kind.fix u k) → σ[j]? = some (some u) := fun j u k e => by
    by_cases h : i = j
    · subst h
      rw [List.getElem?_set_self hi] at e
      cases e
    · rw [List.getElem?_set_ne h] at e
      exact rel.fixed j u k e
  have hρ : i < ρ.length := by omega
  cases q : ρ[i]'hρ with
  | none =>
    have q' : ρ[i]? = some none := by rw [List.getElem?_eq_getElem hρ, q]
    exact ⟨w, rfl, ⟨rel.same, rel.frz, rel.live, fixed, rel.slots.rekind _ q'⟩, Ext.refl _⟩
  | some d =>
    have q' : ρ[i]? = some (some d) := by rw [List.getElem?_eq_getElem hρ, q]
    obtain ⟨v, f, g, ev, o, s, y1, y2, y3⟩ := rel.slots.out q' hk
    obtain ⟨a, xs, ds0, g', rfl, e2, eH, ga, _, _, od⟩ := o
    subst e2
    have rs := odl_rds od
    have nF : w.F a = none := rel.frz a (y2 a ga)
    have sF : Same w.F (upd w.F a (.lst xs)) := fun c u h => by rw [upd_ne (ne_of_none h nF)]; exact h
    have s2 := (s.frame (F' := upd w.F a (.lst xs)) (H' := w.H) sF fun _ _ _ z => z).put (i := i) (d := .list ds0) (k := .v b) (v := .ref a) (f := fun _ => False) (by omega) (RD.lst (b := b) (K := K) upd_same (rs.mono sF)) (fun _ z => z.elim)
    have e1 : (ρ.set i none).set i (some (.list ds0)) = ρ := by
      rw [List.set_set]
      refine List.ext_getElem? fun j => ?_
      by_cases h : i = j
      · subst h
        rw [List.getElem?_set_self hρ, q']
      · rw [List.getElem?_set_ne h]
    have e2 : σ.set i (some (.ref a)) = σ := by
      refine List.ext_getElem? fun j => ?_
      by_cases h : i = j
      · subst h
        rw [List.getElem?_set_self (by omega), ev]
      · rw [List.getElem?_set_ne h]
    rw [e1, e2] at s2
    refine ⟨⟨upd w.F a (.lst xs), w.H, g⟩, rfl, ⟨fun c u h => ?_, fun c h => ?_, fun c h => rel.live c (y3 c h), fixed, s2.mono fun c z => z.elim (fun z => z.elim) id⟩, ⟨sF, fun c u h => ?_, fun c u h _ => h, fun c h => .inl (y3 c h)⟩⟩
    · by_cases hc : c = a
      · subst hc
        have h' : upd w.F c (.lst xs) c = some u := h
        rw [upd_same] at h'
        rw [← h']
        exact eH
      · have h' : upd w.F a (.lst xs) c = some u := h
        rw [upd_ne hc] at h'
        exact rel.same c u h'
    · show upd w.F a (.lst xs) c = none
      rw [upd_ne (fun z => y1 a ga (by rw [← z]; exact h))]
      exact rel.frz c (y3 c h)
    · by_cases hc : c = a
      · exact .inr (.inl (by rw [hc]; exact y2 a ga))
      · have h' : upd w.F a (.lst xs) c = some u := h
        rw [upd_ne hc] at h'
        exact .inl h'
theorem fss_frz {X : Cx} {W : WX} {C : FC} {κ' κn : List Kind} {ss : List Stmt} {f : Env → Option Fl} (i : Nat) (hk : κ[i]? = some (.lst (.v b))) (he : κ.set i (.v b) = κ') (h : FSs X W C κ' κn ss f) : FSs X W C κ κn ss f := h.imp fun D' σ H z => by
  obtain ⟨ρ, w, rfl, rel, post⟩ := z
  obtain ⟨w', eH, rel', e⟩ := rel_frz rel hk
  subst he
  exact ⟨ρ, w', eH, rel', post.since e⟩
end
end FN
set_option Elab.async false
set_option linter.all false
set_option maxRecDepth 100000
set_option maxHeartbeats 4000000
/-! FN30: reading the mirrors of dicts, slices, loops (no program). -/
namespace FN
open PySem PySem.Spec PyProof.Rows L2
section
variable {α β : Type} {ρ : Env} {d : D} {fa fo fk fb : M D} {m : Md} {t neg b : Bool} {i j : Nat} {fr : M (List D)} {tt : M Bool} {f : Env → Option Fl}
@[simp] theorem u_fDGet : fDGet t m fo fk ρ = bnd (fo ρ) Out.err fun d ρ1 => bnd (fk ρ1) Out.err fun k ρ2 => match rdD m d ρ2, keyOf t k with
  | some ps, some ks => (dlook t ps ks).map fun v => .ok v ρ2
  | _, _ => none := (rfl)
@[simp] theorem u_fDIn : fDIn t neg m fk fo ρ = bnd (fk ρ) Out.err fun k ρ1 => bnd (fo ρ1) Out.err fun d ρ2 => match rdD m d ρ2, keyOf t k with
  | some ps, some ks => some (.ok (.bool (if neg then !(dlook t ps ks).isSome else (dlook t ps ks).isSome)) ρ2)
  | _, _ => none := (rfl)
@[simp] theorem u_fDGet1 : fDGet1 t m fo fk ρ = bnd (fo ρ) Out.err fun d ρ1 => match rdD m d ρ1 with
  | some _ => bnd (fk ρ1) Out.err fun k ρ2 => match rdD m d ρ2, keyOf t k with
    | some ps, some ks => some (.ok ((dlook t ps ks).getD .none) ρ2)
    | _, _ => none
  | none => none := (rfl)
@[simp] theorem u_sDPut : sDPut t i fk fa ρ = bnd (fa ρ) Fl.err fun d ρ1 => match ρ1[i]? with
  | some (some (.dict _)) => bnd (fk ρ1) Fl.err fun k ρ2 => match ρ2[i]?, keyOf t k with
    | some (some (.dict ps)), some ks => if ps.length < sizeLine then some (.nx (ρ2.set i (some (.dict (dput t ps k ks d))))) else none
    | _, _ => none
  | _ => none := (rfl)
@[simp] theorem u_fDisp : fDisp t fk fa ρ = bnd (fk ρ) Out.err fun k ρ1 => bnd (fa ρ1) Out.err fun v ρ2 => match keyOf t k with
  | some _ => some (.ok (.dict [(k, v)]) ρ2)
  | none => none := (rfl)
@[simp] theorem u_rdDr : rdD (.r i) d ρ = match ρ[i]? with
    | some (some (.dict ps)) => some ps
    | _ => none := (rfl)
@[simp] theorem u_fMove : fMove i ρ = match ρ[i]? with
  | some (some (.list ds)) => some (.ok (.list ds) (ρ.set i none))
  | _ => none := (rfl)
@[simp] theorem u_fTupCb2 : fTupCb2 m fa ρ = bnd (fa ρ) Out.err fun x ρ1 => match rd m x ρ1 with
  | some (.int n) => if 0 ≤ n ∧ n ≤ 10 then some (.ok (.tuple (rowsD (pairsL n.toNat))) ρ1) else none
  | _ => none := (rfl)
@[simp] theorem u_rRg1 : rRg1 m fa ρ = bnd (fa ρ) Out.err fun x ρ1 => match rd m x ρ1 with
  | some (.int j) => if okRg 0 j = true then some (.ok (rgD 0 j) ρ1) else none
  | _ => none := (rfl)
@[simp] theorem u_fLrg : fLrg fr ρ = bnd (fr ρ) Out.err fun ds ρ1 => some (.ok (.list ds) ρ1) := (rfl)
@[simp] theorem u_fTrg : fTrg fr ρ = bnd (fr ρ) Out.err fun ds ρ1 => some (.ok (.tuple ds) ρ1) := (rfl)
@[simp] theorem u_oNone : oNone ρ = some (.ok none ρ) := (rfl)
@[simp] theorem u_fCh {ma mb mc : Md} {o o' : D → D → Option D} {fc : M D} : fCh ma mb mc o o' fa fb fc ρ = bnd (fa ρ) Out.err fun x ρ1 => bnd (fb ρ1) Out.err fun y ρ2 => match rd ma x ρ2, rd mb y ρ2 with
  | some x', some y' => match o x' y' with
    | some (.bool true) => bnd (fc ρ2) Out.err fun z ρ3 => match rd mb y ρ3, rd mc z ρ3 with
      | some y', some z' => (o' y' z').map fun u => .ok u ρ3
      | _, _ => none
    | some (.bool false) => some (.ok (.bool false) ρ2)
    | _ => none
  | _, _ => none := (rfl)
@[simp] theorem dRev_l (ds : List D) : dRev (.list ds) = some (.list ds.reverse) := (rfl)
@[simp] theorem dRev_t (ds : List D) : dRev (.tuple ds) = some (.tuple ds.reverse) := (rfl)
@[simp] theorem dCut_t (ds : List D) (lo hi : Option Int) : dCut (.tuple ds) lo hi = some (.tuple (cutD ds lo hi)) := (rfl)
@[simp] theorem dCut_l (ds : List D) (lo hi : Option Int) : dCut (.list ds) lo hi = some (.list (cutD ds lo hi)) := (rfl)
@[simp] theorem dList_l (ds : List D) : dList (.list ds) = some (.list ds) := (rfl)
@[simp] theorem dList_t (ds : List D) : dList (.tuple ds) = some (.list ds) := (rfl)
@[simp] theorem dTuple_l (ds : List D) : dTuple (.list ds) = some (.tuple ds) := (rfl)
@[simp] theorem dTuple_t (ds : List D) : dTuple (.tuple ds) = some (.tuple ds) := (rfl)
@[simp] theorem u_oSome : oSome fa ρ = bnd (fa ρ) Out.err fun x ρ1 => match x with | .int i => some (.ok (some i) ρ1) | _ => none := (rfl)
end
theorem cut_to (ds : List D) (n : Nat) : cutD ds none (some (n : Int)) = ds.take n := by
  unfold cutD
  rw [HT.sIx_none, HT.sIx_nat]
  by_cases h : n ≤ ds.length
  · simp [Nat.min_eq_left h]
  · rw [Nat.min_eq_right (by omega), List.take_of_length_le (by simp : (ds.drop 0).length ≤ ds.length - 0), List.take_of_length_le (by omega), List.drop_zero]
theorem cut_from (ds : List D) (n : Nat) : cutD ds (some (n : Int)) none = ds.drop n := by
  unfold cutD
  rw [HT.sIx_none, HT.sIx_nat]
  by_cases h : n ≤ ds.length
  · rw [Nat.min_eq_left h]
    exact List.take_of_length_le (by simp)
  · rw [Nat.min_eq_right (by omega), List.drop_eq_nil_of_le (Nat.le_refl _), List.drop_eq_nil_of_le (by omega), List.take_nil]
theorem cut_mid (ds : List D) (i j : Nat) : cutD ds (some (i : Int)) (some (j : Int)) = (ds.drop i).take (j - i) := by
  unfold cutD
  rw [HT.sIx_nat, HT.sIx_nat]
  by_cases h : i ≤ ds.length
  · rw [Nat.min_eq_left h]
    by_cases h2 : j ≤ ds.length
    · rw [Nat.min_eq_left h2]
    · rw [Nat.min_eq_right (by omega), List.take_of_length_le (by simp), List.take_of_length_le (by simp; omega)]
  · rw [Nat.min_eq_right (by omega : ds.length ≤ i), List.drop_eq_nil_of_le (Nat.le_refl _), List.drop_eq_nil_of_le (by omega), List.take_nil, List.take_nil]
/-! ### sorted ints -/
theorem sort_ints (is : List Int) : (is.map PyData.int).mergeSort (PySem.W.dataLe false id) = (is.mergeSort fun a b => decide (a ≤ b)).map PyData.int := by
  refine (List.map_mergeSort (fun a _ b _ => ?_)).symm
  have := congrFun (congrFun (PySem.W.dataLe_int (fun b : Int => b)) a) b
  exact this.symm
theorem sortOk_ints (is : List Int) : SortOk (is.map PyData.int) := by
  refine ⟨fun d hd d' hd' => ?_, .inr fun d hd => ?_, fun d hd => ?_⟩
  · obtain ⟨i, _, rfl⟩ := List.mem_map.mp hd
    obtain ⟨j, _, rfl⟩ := List.mem_map.mp hd'
    rfl
  · obtain ⟨i, _, rfl⟩ := List.mem_map.mp hd
    exact ⟨nofun, fun xs => nofun⟩
  · obtain ⟨i, _, rfl⟩ := List.mem_map.mp hd
    show PyData.depth (.int i) ≤ 60
    unfold PyData.depth
    omega
open Classical in
theorem dSorted_t (is : List Int) : dSorted (.tuple (is.map .int)) = some (.list ((is.mergeSort fun a b => decide (a ≤ b)).map .int)) := by
  show (if SortOk (is.map PyData.int) then some (PyData.list ((is.map PyData.int).mergeSort (PySem.W.dataLe false id))) else none) = _
  rw [if_pos (sortOk_ints is), sort_ints]
open Classical in
theorem dSorted_l (is : List Int) : dSorted (.list (is.map .int)) = some (.list ((is.mergeSort fun a b => decide (a ≤ b)).map .int)) := by
  show (if SortOk (is.map PyData.int) then some (PyData.list ((is.map PyData.int).mergeSort (PySem.W.dataLe false id))) else none) = _
  rw [if_pos (sortOk_ints is), sort_ints]
/-! ### one statement after another -/
theorem seq_nx {f g : Env → Option Fl} {ρ ρ1 : Env} (h : f ρ = some (.nx ρ1)) : sSeq f g ρ = g ρ1 := by rw [u_sSeq, h]
theorem seq_ret {f g : Env → Option Fl} {ρ ρ1 : Env} {d : D} (h : f ρ = some (.ret d ρ1)) : sSeq f g ρ = some (.ret d ρ1) := by rw [u_sSeq, h]
theorem seq_err {f g : Env → Option Fl} {ρ ρ1 : Env} {d : D} {n : Str} (h : f ρ = some (.err n d ρ1)) : sSeq f g ρ = some (.err n d ρ1) := by rw [u_sSeq, h]
theorem run_ret {ks : List Kind} {kr : Kind} {n : Nat} {fb : Env → Option Fl} {ρ ρ1 os : Env} {d : D} (h : fb (ρ ++ List.replicate n none) = some (.ret d ρ1)) (ho : outs ks ρ1 = os) : runF ks kr n fb ρ = some (.ok d os) := by rw [u_runF, h, ← ho]
theorem run_err {ks : List Kind} {kr : Kind} {n : Nat} {fb : Env → Option Fl} {ρ ρ1 os : Env} {d : D} {c : Str} (h : fb (ρ ++ List.replicate n none) = some (.err c d ρ1)) (ho : outs ks ρ1 = os) : runF ks kr n fb ρ = some (.err c d os) := by rw [u_runF, h, ← ho]
/-! ### calls whose arguments change nothing -/
section
variable {g fa fb fc : M D} {ρ os : Env} {x y z v : D} {k1 k2 k3 : Kind} {n : Str}
theorem call_t1 (ha : fa ρ = some (.ok x ρ)) (hg : g [some x] = some (.ok v os)) : fCall [.t k1] (noErr g) (aCons fa aNil) ρ = some (.ok v ρ) := by
  rw [u_fCall]
  simp only [u_aCons, u_aNil, ha, u_ok, u_fillT, u_fill0, Option.map_some, u_noErr, hg, u_backT, u_back0]
  cases os <;> rfl
theorem call_t2 (ha : fa ρ = some (.ok x ρ)) (hb : fb ρ = some (.ok y ρ)) (hg : g [some x, some y] = some (.ok v os)) : fCall [.t k1, .t k2] (noErr g) (aCons fa (aCons fb aNil)) ρ = some (.ok v ρ) := by
  rw [u_fCall]
  simp only [u_aCons, u_aNil, ha, hb, u_ok, u_fillT, u_fill0, Option.map_some, u_noErr, hg]
  rcases os with _ | ⟨_, _ | ⟨_, _⟩⟩ <;> rfl
theorem call_t3 (ha : fa ρ = some (.ok x ρ)) (hb : fb ρ = some (.ok y ρ)) (hc : fc ρ = some (.ok z ρ)) (hg : g [some x, some y, some z] = some (.ok v os)) : fCall [.t k1, .t k2, .t k3] (noErr g) (aCons fa (aCons fb (aCons fc aNil))) ρ = some (.ok v ρ) := by
  rw [u_fCall]
  simp only [u_aCons, u_aNil, ha, hb, hc, u_ok, u_fillT, u_fill0, Option.map_some, u_noErr, hg]
  rcases os with _ | ⟨_, _ | ⟨_, _ | ⟨_, _⟩⟩⟩ <;> rfl
theorem call_t2x (ha : fa ρ = some (.ok x ρ)) (hb : fb ρ = some (.ok y ρ)) (hg : g [some x, some y] = some (.ok v os)) : fCall [.t k1, .t k2] g (aCons fa (aCons fb aNil)) ρ = some (.ok v ρ) := by
  rw [u_fCall]
  simp only [u_aCons, u_aNil, ha, hb, u_ok, u_fillT, u_fill0, Option.map_some, hg]
  rcases os with _ | ⟨_, _ | ⟨_, _⟩⟩ <;> rfl
theorem call_t2e (ha : fa ρ = some (.ok x ρ)) (hb : fb ρ = some (.ok y ρ)) (hg : g [some x, some y] = some (.err n v os)) : fCall [.t k1, .t k2] g (aCons fa (aCons fb aNil)) ρ = some (.err n v ρ) := by
  rw [u_fCall]
  simp only [u_aCons, u_aNil, ha, hb, u_ok, u_fillT, u_fill0, Option.map_some, hg]
end
/-! ### while loops by a falling measure -/
theorem wh_inv {t : M Bool} {b : Env → Option Fl} (I : Nat → Env → Prop) (E : Env → Prop) (h : ∀ n ρ, I n ρ → (∃ ρ1, t ρ = some (.ok false ρ1) ∧ E ρ1) ∨ ∃ ρ1 ρ2, t ρ = some (.ok true ρ1) ∧ b ρ1 = some (.nx ρ2) ∧ ∃ m < n, I m ρ2) : ∀ n ρ, I n ρ → ∃ ρ', sWh t b ρ = some (.nx ρ') ∧ E ρ' := by
  have key : ∀ n ρ, I n ρ → ∃ k ρ', whN t b k ρ = some (.nx ρ') ∧ E ρ' := by
    intro n
    induction n using Nat.strongRecOn with
    | ind n ih =>
      intro ρ hI
      rcases h n ρ hI with ⟨ρ1, e1, e⟩ | ⟨ρ1, ρ2, e1, e2, m, hm, hI2⟩
      · refine ⟨1, ρ1, ?_, e⟩
        unfold whN
        rw [e1]
        rfl
      · obtain ⟨k, ρ', e3, e⟩ := ih m hm ρ2 hI2
        refine ⟨k + 1, ρ', ?_, e⟩
        unfold whN
        rw [e1]
        simp only [u_ok, if_true, e2]
        exact e3
  intro n ρ hI
  obtain ⟨k, ρ', e1, e2⟩ := key n ρ hI
  exact ⟨ρ', sWh_of e1, e2⟩
end FN
set_option Elab.async false
set_option linter.all false
set_option maxRecDepth 100000
set_option maxHeartbeats 4000000
/-! FB1: a search in breadth, nodes in the order in which they are found (plain Lean). -/
namespace FB
section
variable {α δ : Type} [DecidableEq α]
abbrev Fo (α δ : Type) := List (α × List δ)
def look : Fo α δ → α → Option (List δ)
  | [], _ => none
  | q :: r, a => if q.1 = a then some q.2 else look r a
theorem look_mem : ∀ {K : Fo α δ} {a : α} {p : List δ}, look K a = some p → (a, p) ∈ K
  | [], _, _, h => by cases h
  | q :: r, a, p, h => by
    unfold look at h
    split at h
    · rename_i e
      cases h
      subst e
      exact List.mem_cons_self
    · exact List.mem_cons_of_mem _ (look_mem h)
theorem look_app : ∀ {K L : Fo α δ} {a : α}, look (K ++ L) a = match look K a with | some p => some p | none => look L a
  | [], L, a => rfl
  | q :: r, L, a => by
    show (if q.1 = a then some q.2 else look (r ++ L) a) = match (if q.1 = a then some q.2 else look r a) with | some p => some p | none => look L a
    by_cases h : q.1 = a
    · rw [if_pos h, if_pos h]
    · rw [if_neg h, if_neg h, look_app]
theorem look_isSome {K : Fo α δ} {a : α} : (look K a).isSome = true ↔ a ∈ K.map Prod.fst := by
  induction K with
  | nil => simp [look]
  | cons q r ih =>
    unfold look
    by_cases h : q.1 = a
    · rw [if_pos h]
      simp [h]
    · rw [if_neg h, ih, List.map_cons, List.mem_cons]
      exact ⟨.inr, fun z => z.elim (fun z => absurd z.symm h) id⟩
theorem look_nodup {K : Fo α δ} {a : α} {p : List δ} (n : (K.map Prod.fst).Nodup) (h : (a, p) ∈ K) : look K a = some p := by
  induction K with
  | nil => cases h
  | cons q r ih =>
    rw [List.map_cons, List.nodup_cons] at n
    unfold look
    rcases List.mem_cons.mp h with rfl | h
    · rw [if_pos rfl]
    · rw [if_neg (fun z => n.1 (by rw [z]; exact List.mem_map_of_mem (f := Prod.fst) h)), ih n.2 h]
theorem look_mono {K K' : Fo α δ} {a : α} {p : List δ} (h : K <+: K') (e : look K a = some p) : look K' a = some p := by
  obtain ⟨L, rfl⟩ := h
  rw [look_app, e]
/-- one neighbour -/
def add1 (p : List δ) (K : Fo α δ) (e : δ × α) : Fo α δ := if (look K e.2).isSome = true then K else K ++ [(e.2, p ++ [e.1])]
theorem add1_pre {p : List δ} {K : Fo α δ} {e : δ × α} : K <+: add1 p K e := by
  unfold add1
  split
  · exact List.prefix_rfl
  · exact List.prefix_append _ _
theorem add1_nodup {p : List δ} {K : Fo α δ} {e : δ × α} (n : (K.map Prod.fst).Nodup) : ((add1 p K e).map Prod.fst).Nodup := by
  unfold add1
  split
  · exact n
  · rename_i h
    rw [List.map_append, List.nodup_append]
    refine ⟨n, by simp, fun a ha b hb => ?_⟩
    rw [List.map_cons, List.map_nil, List.mem_singleton] at hb
    subst hb
    intro z
    subst z
    exact h (look_isSome.mpr ha)
theorem add1_has {p : List δ} {K : Fo α δ} {e : δ × α} : (look (add1 p K e) e.2).isSome = true := by
  unfold add1
  split
  · assumption
  · rw [look_isSome]
    simp
theorem fold_pre {p : List δ} : ∀ {es : List (δ × α)} {K : Fo α δ}, K <+: es.foldl (add1 p) K
  | [], K => List.prefix_rfl
  | e :: es, K => by
    rw [List.foldl_cons]
    exact add1_pre.trans fold_pre
theorem fold_nodup {p : List δ} : ∀ {es : List (δ × α)} {K : Fo α δ}, (K.map Prod.fst).Nodup → ((es.foldl (add1 p) K).map Prod.fst).Nodup
  | [], K, n => n
  | e :: es, K, n => by
    rw [List.foldl_cons]
    exact fold_nodup (add1_nodup n)
theorem pre_isSome {K K' : Fo α δ} {a : α} (h : K <+: K') (e : (look K a).isSome = true) : (look K' a).isSome = true := by
  obtain ⟨p, e⟩ := Option.isSome_iff_exists.mp e
  rw [look_mono h e]
  rfl
theorem fold_has {p : List δ} : ∀ {es : List (δ × α)} {K : Fo α δ} {e : δ × α}, e ∈ es → (look (es.foldl (add1 p) K) e.2).isSome = true
  | e :: es, K, e', h => by
    rw [List.foldl_cons]
    rcases List.mem_cons.mp h with rfl | h
    · exact pre_isSome fold_pre add1_has
    · exact fold_has h
theorem add1_all {P : α → Prop} {p : List δ} {K : Fo α δ} {e : δ × α} (hK : ∀ q ∈ K, P q.1) (he : P e.2) : ∀ q ∈ add1 p K e, P q.1 := by
  unfold add1
  split
  · exact hK
  · intro q hq
    rcases List.mem_append.mp hq with hq | hq
    · exact hK q hq
    · rw [List.mem_singleton.mp hq]
      exact he
theorem fold_all {P : α → Prop} {p : List δ} : ∀ {es : List (δ × α)} {K : Fo α δ}, (∀ q ∈ K, P q.1) → (∀ e ∈ es, P e.2) → ∀ q ∈ es.foldl (add1 p) K, P q.1
  | [], K, hK, _ => hK
  | e :: es, K, hK, he => by
    rw [List.foldl_cons]
    exact fold_all (add1_all hK (he e List.mem_cons_self)) fun e' h => he e' (List.mem_cons_of_mem _ h)
variable (nb : α → List (δ × α)) (one : α)
/-- all neighbours of a node with its path -/
def expand (K : Fo α δ) (q : α × List δ) : Fo α δ := (nb q.1).foldl (add1 q.2) K
/-- after t nodes are looked at -/
def found : Nat → Fo α δ
  | 0 => [(one, [])]
  | t + 1 => match (found t)[t]? with
    | some q => expand nb (found t) q
    | none => found t
variable {nb one}
theorem found_step {t : Nat} {q : α × List δ} (h : (found nb one t)[t]? = some q) : found nb one (t + 1) = expand nb (found nb one t) q := by
  show (match (found nb one t)[t]? with | some q => expand nb (found nb one t) q | none => found nb one t) = _
  rw [h]
theorem found_pre1 {t : Nat} : found nb one t <+: found nb one (t + 1) := by
  show _ <+: (match (found nb one t)[t]? with | some q => expand nb (found nb one t) q | none => found nb one t)
  split
  · exact fold_pre
  · exact List.prefix_rfl
theorem found_pre {s t : Nat} (h : s ≤ t) : found nb one s <+: found nb one t := by
  induction h with
  | refl => exact List.prefix_rfl
  | step _ ih => exact ih.trans found_pre1
theorem found_nodup : ∀ t, ((found nb one t).map Prod.fst).Nodup
  | 0 => by simp [found]
  | t + 1 => by
    show (List.map Prod.fst (match (found nb one t)[t]? with | some q => expand nb (found nb one t) q | none => found nb one t)).Nodup
    split
    · exact fold_nodup (found_nodup t)
    · exact found_nodup t
theorem found_all {P : α → Prop} (h1 : P one) (hn : ∀ a, P a → ∀ e ∈ nb a, P e.2) : ∀ t, ∀ q ∈ found nb one t, P q.1
  | 0, q, hq => by
    rw [List.mem_singleton.mp hq]
    exact h1
  | t + 1, q, hq => by
    have ih := found_all h1 hn t
    have hq' : q ∈ (match (found nb one t)[t]? with | some q => expand nb (found nb one t) q | none => found nb one t) := hq
    split at hq'
    · rename_i q0 e
      exact fold_all ih (hn _ (ih q0 (List.mem_of_getElem? e))) q hq'
    · exact ih q hq'
theorem found_get {s t : Nat} {q : α × List δ} (h : s ≤ t) {i : Nat} (e : (found nb one s)[i]? = some q) : (found nb one t)[i]? = some q := by
  obtain ⟨L, e2⟩ := found_pre (nb := nb) (one := one) h
  rw [← e2, List.getElem?_append_left (List.getElem?_eq_some_iff.mp e).1]
  exact e
theorem found_pos {t : Nat} : 0 < (found nb one t).length := by
  have := (found_pre (nb := nb) (one := one) (Nat.zero_le t)).length_le
  have z : (found nb one 0).length = 1 := rfl
  omega
/-- if node i was looked at, its neighbours are found -/
theorem found_has {i t : Nat} {q : α × List δ} (h : i < t) (e : (found nb one i)[i]? = some q) {x : δ × α} (hx : x ∈ nb q.1) : (look (found nb one t) x.2).isSome = true := by
  have := fold_has (p := q.2) (K := found nb one i) hx
  refine pre_isSome (found_pre h) ?_
  rw [found_step e]
  exact this
/-- distinct members of a list are no more than it has -/
theorem nodup_le : ∀ {l m : List α}, l.Nodup → (∀ a ∈ l, a ∈ m) → l.length ≤ m.length
  | [], m, _, _ => Nat.zero_le _
  | a :: l, m, n, h => by
    rw [List.nodup_cons] at n
    have ha := h a List.mem_cons_self
    have := nodup_le (l := l) (m := m.erase a) n.2 fun b hb => (List.mem_erase_of_ne (fun z => n.1 (by rw [← z]; exact hb))).mpr (h b (List.mem_cons_of_mem _ hb))
    rw [List.length_erase_of_mem ha] at this
    have := List.length_pos_of_mem ha
    rw [List.length_cons]
    omega
/-- the first time at which the goal is found -/
theorem first_time {other : α} {B : Nat} (hB : ∀ t, (found nb one t).length ≤ B) (reach : ∀ P : α → Prop, P one → (∀ a, P a → ∀ e ∈ nb a, P e.2) → P other) : ∃ T, T < B ∧ (∀ s < T, s < (found nb one s).length ∧ look (found nb one s) other = none) ∧ (look (found nb one T) other).isSome = true := by
  have big : ∀ t, (found nb one t).length ≤ t → (look (found nb one t) other).isSome = true := fun t ht => by
    refine reach (fun a => (look (found nb one t) a).isSome = true) ?_ fun a ha e he => ?_
    · refine pre_isSome (found_pre (Nat.zero_le t)) ?_
      simp [found, look]
    · obtain ⟨p, ep⟩ := Option.isSome_iff_exists.mp ha
      obtain ⟨i, hi⟩ := List.mem_iff_getElem?.mp (look_mem ep)
      have il := (List.getElem?_eq_some_iff.mp hi).1
      -- the node stood at its place when it was looked at
      have hq : (found nb one i)[i]? = some (a, p) := by
        by_cases z : i < (found nb one i).length
        · have := found_get (nb := nb) (one := one) (by omega : i ≤ t) (List.getElem?_eq_getElem z)
          rw [hi] at this
          rw [List.getElem?_eq_getElem z, this]
        · exfalso
          -- nothing was found from i on
          have st : ∀ k, found nb one (i + k) = found nb one i := by
            intro k
            induction k with
            | zero => rfl
            | succ k ih =>
              show (match (found nb one (i + k))[i + k]? with | some q => expand nb (found nb one (i + k)) q | none => found nb one (i + k)) = _
              rw [ih, List.getElem?_eq_none (by omega)]
          have := st (t - i)
          rw [show i + (t - i) = t by omega] at this
          rw [this] at il
          omega
      exact found_has (by omega) hq he
  have ex : ∃ t, (look (found nb one t) other).isSome = true := ⟨B, big B (hB B)⟩
  have : ∃ T, (look (found nb one T) other).isSome = true ∧ ∀ s < T, ¬ (look (found nb one s) other).isSome = true := by
    obtain ⟨t, ht⟩ := ex
    induction t using Nat.strongRecOn with
    | ind t ih =>
      by_cases z : ∃ s < t, (look (found nb one s) other).isSome = true
      · obtain ⟨s, hs, e⟩ := z
        exact ih s hs e
      · exact ⟨t, ht, fun s hs e => z ⟨s, hs, e⟩⟩
  obtain ⟨T, hT, least⟩ := this
  have low : ∀ s < T, s < (found nb one s).length ∧ look (found nb one s) other = none := fun s hs => by
    refine ⟨?_, ?_⟩
    · have := mt (big s) (least s hs)
      omega
    · have := least s hs
      cases q : look (found nb one s) other with
      | none => rfl
      | some p => rw [q] at this; exact absurd rfl this
  refine ⟨T, ?_, low, hT⟩
  cases T with
  | zero => exact Nat.lt_of_lt_of_le found_pos (hB 0)
  | succ T =>
    have h1 := (low T (by omega)).1
    -- one node more at least: the goal
    have h2 := (low T (by omega)).2
    have h3 : (found nb one T).length < (found nb one (T + 1)).length := by
      have h4 := (found_pre1 (nb := nb) (one := one) (t := T))
      rcases Nat.lt_or_ge (found nb one T).length (found nb one (T + 1)).length with z | z
      · exact z
      · rw [← h4.eq_of_length (Nat.le_antisymm h4.length_le z), h2] at hT
        cases hT
    have := hB (T + 1)
    omega
end
end FB
set_option Elab.async false
set_option linter.all false
set_option maxRecDepth 100000
set_option maxHeartbeats 4000000
/-! FB2: the mirror of shortest_row (one copy for each way to do a deed) keeps to FB1's search. -/
namespace FB
open PySem PySem.Spec PyProof.Rows L2 FN
section
variable {α δ : Type} [DecidableEq α]
/-- nodes and deeds as data -/
structure Enc (α δ : Type) where
  ea : α → D
  ka : α → List Key
  ed : δ → D
  key : ∀ a, keyOf true (ea a) = some (ka a)
  inj : ∀ a b, ka a = ka b → a = b
variable (E : Enc α δ)
def Enc.pa (p : List δ) : D := .tuple (p.map E.ed)
def Enc.dk (K : Fo α δ) : List (D × D) := K.map fun q => (E.ea q.1, E.pa q.2)
def Enc.ks (K : Fo α δ) : List D := K.map fun q => E.ea q.1
variable {E}
theorem Enc.ks_app (K L : Fo α δ) : E.ks (K ++ L) = E.ks K ++ E.ks L := by unfold Enc.ks; rw [List.map_append]
theorem Enc.ks_len (K : Fo α δ) : (E.ks K).length = K.length := by unfold Enc.ks; rw [List.length_map]
theorem Enc.dk_len (K : Fo α δ) : (E.dk K).length = K.length := by unfold Enc.dk; rw [List.length_map]
theorem Enc.look : ∀ (K : Fo α δ) (a : α), dlook true (E.dk K) (E.ka a) = (FB.look K a).map E.pa
  | [], a => rfl
  | q :: r, a => by
    show (if keyOf true (E.ea q.1) = some (E.ka a) then some (E.pa q.2) else dlook true (E.dk r) (E.ka a)) = (if q.1 = a then some q.2 else FB.look r a).map E.pa
    rw [E.key, Enc.look r a]
    by_cases h : q.1 = a
    · rw [if_pos (by rw [h]), if_pos h]
      rfl
    · rw [if_neg (fun z => h (E.inj _ _ (Option.some.inj z))), if_neg h]
theorem Enc.put {K : Fo α δ} {a : α} (p : List δ) (h : FB.look K a = none) : dput true (E.dk K) (E.ea a) (E.ka a) (E.pa p) = E.dk (K ++ [(a, p)]) := by
  unfold dput
  rw [Enc.look, h]
  show (if false = true then _ else _) = _
  rw [if_neg (by decide)]
  unfold Enc.dk
  rw [List.map_append]
  rfl
/-- the body of the walk over the deeds -/
def srBody (g : M D) : FN.Env → Option Fl :=
  (sSeq (sSet 9 (fCallL 3 [.t (.v false), .t (.v false)] (noErr g) (aCons (fVar 7) (aCons (fVar 8) aNil))))
  (sIf (fTst (fDIn true true (.r 4) (fVar 9) (fRef 4)))
  (sSeq (sDPut true 4 (fVar 9) (f2 (.t (.v false)) (.t (.v false)) dAdd (fDGet true (.r 4) (fRef 4) (fVar 7)) (fTup (aCons (fVar 8) aNil))))
  (sDrop (fMt 5 oApp (fVar 9))))
  sNx))
noncomputable def srB (g : M D) : FN.Env → Option Fl :=
  (sSeq (sPar3 4 5 6 (aCons (fDisp true (fVar 0) (fTup aNil)) (aCons (fLst (aCons (fVar 0) aNil)) (aCons (fC (.int 0)) aNil))))
  (sSeq (sWh (tAndF (fTst (f2 (.t (.v false)) (.t (.v false)) dLt (fVar 6) (f1 (.r 5) dLen (fRef 5)))) (fTst (fDIn true true (.r 4) (fVar 1) (fRef 4))))
  (sSeq (sSet 7 (f2 (.r 5) (.t (.v false)) dIx (fRef 5) (fVar 6)))
  (sSeq (sAug 6 dAug (fC (.int 1)))
  (sFor (iSeq (fVar 2)) (gNm 8) (srBody g)))))
  (sRet (fDGet1 true (.r 4) (fRef 4) (fVar 1)))))
noncomputable def srM (g : M D) : M D := runF [(.v false), (.v false), (.v false), (.tok .non)] (.v false) 6 (srB g)
variable (E)
def srEnv (one other : α) (ds tk : D) (K : Fo α δ) (n : Int) (l x8 x9 : Option D) : FN.Env := [some (E.ea one), some (E.ea other), some ds, some tk, some (.dict (E.dk K)), some (.list (E.ks K)), some (.int n), l, x8, x9]
variable {E}
theorem sr_body {g : M D} {one other a : α} {ds tk : D} {K : Fo α δ} {n : Int} {p : List δ} {d : δ} {b : α} {x9 : Option D} (hg : g [some (E.ea a), some (E.ed d)] = some (.ok (E.ea b) [none, none])) (hp : FB.look K a = some p) (hl : p.length < 1000000) (hK : K.length < 1000000) :
    ∃ x9', srBody g (srEnv E one other ds tk K n (some (E.ea a)) (some (E.ed d)) x9) = some (.nx (srEnv E one other ds tk (add1 p K (d, b)) n (some (E.ea a)) (some (E.ed d)) x9')) := by
  refine ⟨some (E.ea b), ?_⟩
  have sz : (1000000 : Nat) < sizeLine := by rw [sizeLine_eq]; omega
  have c1 : noErr g [some (E.ea a), some (E.ed d)] = some (.ok (E.ea b) [none, none]) := by rw [u_noErr, hg]
  unfold srBody srEnv
  rw [u_sSeq, u_sSet, u_fCallL]
  simp only [List.getElem?_cons_succ, List.getElem?_cons_zero]
  rw [u_fCall]
  simp only [u_aCons, u_fVar, List.getElem?_cons_succ, List.getElem?_cons_zero, u_ok, u_aNil, u_fillT, u_fill0, Option.map_some, c1, u_backT, u_back0, List.set_cons_succ, List.set_cons_zero]
  rw [u_sIf, u_fTst, u_fDIn]
  simp only [u_fVar, u_fRef, List.getElem?_cons_succ, List.getElem?_cons_zero, u_ok, u_rdDr, E.key, Enc.look]
  unfold add1
  cases q : FB.look K b with
  | some pb =>
    simp
  | none =>
    simp only [Option.map_none, Option.isSome_none, Bool.not_false, if_true, Bool.false_eq_true, if_false]
    rw [u_sSeq, u_sDPut, u_f2, u_fDGet]
    simp only [u_fVar, u_fRef, List.getElem?_cons_succ, List.getElem?_cons_zero, u_ok, u_rdDr, E.key, Enc.look, hp, Option.map_some, u_fTup, u_aCons, u_aNil, List.length_cons, List.length_nil]
    have e1 : (0 + 1 ≤ sizeLine) = True := eq_true (by omega)
    have e2 : dAdd (E.pa p) (.tuple [E.ed d]) = some (E.pa (p ++ [d])) := by
      show (if (p.map E.ed).length + [E.ed d].length ≤ sizeLine then some (PyData.tuple (p.map E.ed ++ [E.ed d])) else none) = _
      rw [if_pos (by rw [List.length_map]; simp; omega)]
      unfold Enc.pa
      rw [List.map_append]
      rfl
    have e3 : ((E.dk K).length < sizeLine) = True := eq_true (by rw [Enc.dk_len]; omega)
    simp only [e1, if_true, u_ok, u_rdv, e2, Option.map_some, e3, Enc.put _ q, List.set_cons_succ, List.set_cons_zero, u_fVar, List.getElem?_cons_succ, List.getElem?_cons_zero, E.key]
    rw [u_sDrop, u_fMt]
    simp only [u_fVar, List.getElem?_cons_succ, List.getElem?_cons_zero, u_ok]
    have e4 : oApp (E.ks K) (E.ea b) = some (.none, E.ks (K ++ [(b, p ++ [d])])) := by
      show (if (E.ks K).length < sizeLine then some (PyData.none, E.ks K ++ [E.ea b]) else none) = _
      rw [if_pos (by rw [Enc.ks_len]; omega), Enc.ks_app]
      rfl
    simp only [e4, Option.map_some, u_ok, List.set_cons_succ, List.set_cons_zero]
theorem sr_for {g : M D} {one other a : α} {ds tk : D} {n : Int} {p : List δ} {f : α → δ → α} {B : Nat} (hB : B ≤ 1000000) (hl : p.length < 1000000) : ∀ (l : List δ) (K : Fo α δ) (x8 x9 : Option D), (∀ d ∈ l, g [some (E.ea a), some (E.ed d)] = some (.ok (E.ea (f a d)) [none, none])) → FB.look K a = some p → ((l.map fun d => (d, f a d)).foldl (add1 p) K).length < B →
    ∃ x8' x9', forL (gNm 8) (srBody g) (l.map E.ed) (srEnv E one other ds tk K n (some (E.ea a)) x8 x9) = some (.nx (srEnv E one other ds tk ((l.map fun d => (d, f a d)).foldl (add1 p) K) n (some (E.ea a)) x8' x9'))
  | [], K, x8, x9, _, _, _ => ⟨x8, x9, rfl⟩
  | d :: l, K, x8, x9, hg, hp, hK => by
    simp only [List.map_cons, List.foldl_cons] at hK ⊢
    have pre := (add1_pre (p := p) (K := K) (e := (d, f a d)))
    have h1 := (pre.trans (fold_pre (p := p) (es := l.map fun d => (d, f a d)))).length_le
    obtain ⟨x9', e⟩ := sr_body (one := one) (other := other) (ds := ds) (tk := tk) (n := n) (x9 := x9) (hg d List.mem_cons_self) hp hl (by omega)
    obtain ⟨y8, y9, e2⟩ := sr_for hB hl l (add1 p K (d, f a d)) (some (E.ed d)) x9' (fun d' h => hg d' (List.mem_cons_of_mem _ h)) (look_mono pre hp) hK
    refine ⟨y8, y9, ?_⟩
    show (match gNm 8 (E.ed d) (srEnv E one other ds tk K n (some (E.ea a)) x8 x9) with
      | some ρ1 => (match srBody g ρ1 with
        | some (.nx ρ2) => forL (gNm 8) (srBody g) (l.map E.ed) ρ2
        | some (.ct ρ2) => forL (gNm 8) (srBody g) (l.map E.ed) ρ2
        | some (.bk ρ2) => some (.nx ρ2)
        | o => o)
      | none => none) = _
    have e0 : gNm 8 (E.ed d) (srEnv E one other ds tk K n (some (E.ea a)) x8 x9) = some (srEnv E one other ds tk K n (some (E.ea a)) (some (E.ed d)) x9) := rfl
    rw [e0]
    simp only [e]
    exact e2
/-- paths are no longer than the walk -/
theorem found_path {nb : α → List (δ × α)} {one : α} : ∀ t, ∀ q ∈ found nb one t, q.2.length ≤ t
  | 0, q, hq => by
    rw [List.mem_singleton.mp hq]
    exact Nat.le_refl _
  | t + 1, q, hq => by
    have ih := found_path (nb := nb) (one := one) t
    have hq' : q ∈ (match (found nb one t)[t]? with | some q => expand nb (found nb one t) q | none => found nb one t) := hq
    split at hq'
    · rename_i q0 e
      have h0 := ih q0 (List.mem_of_getElem? e)
      have key : ∀ (es : List (δ × α)) (K : Fo α δ), (∀ q ∈ K, q.2.length ≤ t + 1) → ∀ q ∈ es.foldl (add1 q0.2) K, q.2.length ≤ t + 1 := by
        intro es
        induction es with
        | nil => exact fun K h => h
        | cons e es ih2 =>
          intro K h
          rw [List.foldl_cons]
          refine ih2 _ fun q hq => ?_
          unfold add1 at hq
          split at hq
          · exact h q hq
          · rcases List.mem_append.mp hq with hq | hq
            · exact h q hq
            · rw [List.mem_singleton.mp hq]
              simp
              omega
      exact key _ _ (fun q hq => Nat.le_succ_of_le (ih q hq)) q hq'
    · exact Nat.le_succ_of_le (ih q hq')
/-- what the search finds: the path at the first time at which the goal is found -/
structure Goal (nb : α → List (δ × α)) (one other : α) (B T : Nat) (p : List δ) : Prop where
  low : ∀ s < T, s < (found nb one s).length ∧ look (found nb one s) other = none
  at_ : look (found nb one T) other = some p
  lt : T < B
  len : ∀ t, (found nb one t).length < B
theorem e_sr {g : M D} {f : α → δ → α} {deeds : List δ} {P : α → Prop} {one other : α} {B T : Nat} {p : List δ} (hB : B ≤ 1000000) (hP : P one) (hn : ∀ a, P a → ∀ d ∈ deeds, P (f a d)) (hg : ∀ a, P a → ∀ d ∈ deeds, g [some (E.ea a), some (E.ed d)] = some (.ok (E.ea (f a d)) [none, none])) (G : Goal (fun a => deeds.map fun d => (d, f a d)) one other B T p) (tk : D) :
    srM g [some (E.ea one), some (E.ea other), some (.tuple (deeds.map E.ed)), some tk] = some (.ok (E.pa p) [none, none, none, some tk]) := by
  have sz : (1000000 : Nat) < sizeLine := by rw [sizeLine_eq]; omega
  have all := found_all (nb := fun a => deeds.map fun d => (d, f a d)) (one := one) (P := P) hP (fun a ha e he => by
    obtain ⟨d, hd, rfl⟩ := List.mem_map.mp he
    exact hn a ha d hd)
  unfold srM
  rw [u_runF]
  unfold srB
  rw [u_sSeq]
  have s1 : sPar3 4 5 6 (aCons (fDisp true (fVar 0) (fTup aNil)) (aCons (fLst (aCons (fVar 0) aNil)) (aCons (fC (.int 0)) aNil))) ([some (E.ea one), some (E.ea other), some (.tuple (deeds.map E.ed)), some tk] ++ List.replicate 6 none) = some (.nx (srEnv E one other (.tuple (deeds.map E.ed)) tk (found (fun a => deeds.map fun d => (d, f a d)) one 0) ((0 : Nat) : Int) none none none)) := by
    have z0 : (0 ≤ sizeLine) = True := eq_true (by omega)
    have z1 : (0 + 1 ≤ sizeLine) = True := eq_true (by omega)
    simp only [u_sPar3, u_aCons, u_fDisp, u_fVar, u_fTup, u_aNil, u_fLst, u_fC, u_ok, List.replicate, List.cons_append, List.nil_append, List.getElem?_cons_zero, List.length_nil, List.length_cons, E.key, z0, z1, if_true, List.set_cons_succ, List.set_cons_zero]
    rfl
  rw [s1]
  simp only
  obtain ⟨ρ', e2, l', x8', x9', t', et, eρ⟩ := wh_inv (t := tAndF (fTst (f2 (.t (.v false)) (.t (.v false)) dLt (fVar 6) (f1 (.r 5) dLen (fRef 5)))) (fTst (fDIn true true (.r 4) (fVar 1) (fRef 4))))
    (b := (sSeq (sSet 7 (f2 (.r 5) (.t (.v false)) dIx (fRef 5) (fVar 6))) (sSeq (sAug 6 dAug (fC (.int 1))) (sFor (iSeq (fVar 2)) (gNm 8) (srBody g)))))
    (fun k ρ => ∃ t l x8 x9, k + t = T ∧ ρ = srEnv E one other (.tuple (deeds.map E.ed)) tk (found (fun a => deeds.map fun d => (d, f a d)) one t) ((t : Nat) : Int) l x8 x9)
    (fun ρ => ∃ l x8 x9 t, t = T ∧ ρ = srEnv E one other (.tuple (deeds.map E.ed)) tk (found (fun a => deeds.map fun d => (d, f a d)) one t) ((t : Nat) : Int) l x8 x9)
    (fun k ρ ⟨t, l, x8, x9, ek, eρ⟩ => by
      subst eρ
      have test : (tAndF (fTst (f2 (.t (.v false)) (.t (.v false)) dLt (fVar 6) (f1 (.r 5) dLen (fRef 5)))) (fTst (fDIn true true (.r 4) (fVar 1) (fRef 4)))) (srEnv E one other (.tuple (deeds.map E.ed)) tk (found (fun a => deeds.map fun d => (d, f a d)) one t) ((t : Nat) : Int) l x8 x9) = some (.ok (decide (t < (found (fun a => deeds.map fun d => (d, f a d)) one t).length) && !(look (found (fun a => deeds.map fun d => (d, f a d)) one t) other).isSome) (srEnv E one other (.tuple (deeds.map E.ed)) tk (found (fun a => deeds.map fun d => (d, f a d)) one t) ((t : Nat) : Int) l x8 x9)) := by
        unfold srEnv
        simp only [u_tAnd, u_fTst, u_f2, u_f1, u_fVar, u_fRef, u_rdr, u_rdv, u_ok, List.getElem?_cons_succ, List.getElem?_cons_zero, dLen_l, Option.map_some, dLt_ii, Enc.ks_len, u_fDIn, u_rdDr, E.key, Enc.look, Option.isSome_map, if_true]
        by_cases z : t < (found (fun a => deeds.map fun d => (d, f a d)) one t).length
        · have z' : ((t : Nat) : Int) < (((found (fun a => deeds.map fun d => (d, f a d)) one t).length : Nat) : Int) := by omega
          rw [decide_eq_true z, decide_eq_true z']
          simp
        · have z' : ¬ ((t : Nat) : Int) < (((found (fun a => deeds.map fun d => (d, f a d)) one t).length : Nat) : Int) := by omega
          rw [decide_eq_false z, decide_eq_false z']
          simp
      by_cases hT : t = T
      · left
        refine ⟨srEnv E one other (.tuple (deeds.map E.ed)) tk (found (fun a => deeds.map fun d => (d, f a d)) one t) ((t : Nat) : Int) l x8 x9, ?_, l, x8, x9, t, hT, rfl⟩
        rw [test, hT, G.at_]
        simp
      · right
        obtain ⟨h1, h2⟩ := G.low t (by omega)
        have hq := List.getElem?_eq_getElem h1
        have hp2 : look (found (fun a => deeds.map fun d => (d, f a d)) one t) (found (fun a => deeds.map fun d => (d, f a d)) one t)[t].1 = some (found (fun a => deeds.map fun d => (d, f a d)) one t)[t].2 := look_nodup (found_nodup t) (List.getElem_mem h1)
        have hpl := found_path t _ (List.getElem_mem h1)
        have hst := found_step hq
        have hlen := G.len (t + 1)
        rw [hst] at hlen
        have ha := all t _ (List.getElem_mem h1)
        obtain ⟨y8, y9, ef⟩ := sr_for (g := g) (one := one) (other := other) (ds := .tuple (deeds.map E.ed)) (tk := tk) (n := ((t : Nat) : Int) + 1) (f := f) hB (by have := G.lt; omega) deeds (found (fun a => deeds.map fun d => (d, f a d)) one t) x8 x9 (hg _ ha) hp2 hlen
        refine ⟨srEnv E one other (.tuple (deeds.map E.ed)) tk (found (fun a => deeds.map fun d => (d, f a d)) one t) ((t : Nat) : Int) l x8 x9, srEnv E one other (.tuple (deeds.map E.ed)) tk (found (fun a => deeds.map fun d => (d, f a d)) one (t + 1)) (((t + 1 : Nat)) : Int) (some (E.ea (found (fun a => deeds.map fun d => (d, f a d)) one t)[t].1)) y8 y9, ?_, ?_, k - 1, by omega, t + 1, _, y8, y9, by omega, rfl⟩
        · rw [test, h2, decide_eq_true h1]
          rfl
        · have ei : dIx (.list (E.ks (found (fun a => deeds.map fun d => (d, f a d)) one t))) (.int ((t : Nat) : Int)) = some (E.ea (found (fun a => deeds.map fun d => (d, f a d)) one t)[t].1) := by
            rw [dIx_l, FN.atI_nat]
            unfold Enc.ks
            rw [List.getElem?_map, hq]
            rfl
          have ea : dAug (.int ((t : Nat) : Int)) (.int 1) = some (.int (((t : Nat) : Int) + 1)) := rfl
          have s2 : sSet 7 (f2 (.r 5) (.t (.v false)) dIx (fRef 5) (fVar 6)) (srEnv E one other (.tuple (deeds.map E.ed)) tk (found (fun a => deeds.map fun d => (d, f a d)) one t) ((t : Nat) : Int) l x8 x9) = some (.nx (srEnv E one other (.tuple (deeds.map E.ed)) tk (found (fun a => deeds.map fun d => (d, f a d)) one t) ((t : Nat) : Int) (some (E.ea (found (fun a => deeds.map fun d => (d, f a d)) one t)[t].1)) x8 x9)) := by
            unfold srEnv
            simp only [u_sSet, u_f2, u_fRef, u_fVar, u_rdr, u_rdv, u_ok, List.getElem?_cons_succ, List.getElem?_cons_zero, ei, Option.map_some, List.set_cons_succ, List.set_cons_zero]
          have s3 : sAug 6 dAug (fC (.int 1)) (srEnv E one other (.tuple (deeds.map E.ed)) tk (found (fun a => deeds.map fun d => (d, f a d)) one t) ((t : Nat) : Int) (some (E.ea (found (fun a => deeds.map fun d => (d, f a d)) one t)[t].1)) x8 x9) = some (.nx (srEnv E one other (.tuple (deeds.map E.ed)) tk (found (fun a => deeds.map fun d => (d, f a d)) one t) (((t : Nat) : Int) + 1) (some (E.ea (found (fun a => deeds.map fun d => (d, f a d)) one t)[t].1)) x8 x9)) := by
            unfold srEnv
            simp only [u_sAug, u_fC, u_ok, List.getElem?_cons_succ, List.getElem?_cons_zero, ea, Option.map_some, List.set_cons_succ, List.set_cons_zero]
          rw [u_sSeq, s2]
          simp only
          rw [u_sSeq, s3]
          simp only
          rw [u_sFor]
          have s4 : iSeq (fVar 2) (srEnv E one other (.tuple (deeds.map E.ed)) tk (found (fun a => deeds.map fun d => (d, f a d)) one t) (((t : Nat) : Int) + 1) (some (E.ea (found (fun a => deeds.map fun d => (d, f a d)) one t)[t].1)) x8 x9) = some (.ok (deeds.map E.ed) (srEnv E one other (.tuple (deeds.map E.ed)) tk (found (fun a => deeds.map fun d => (d, f a d)) one t) (((t : Nat) : Int) + 1) (some (E.ea (found (fun a => deeds.map fun d => (d, f a d)) one t)[t].1)) x8 x9)) := by
            unfold srEnv
            simp only [u_iSeq, u_fVar, List.getElem?_cons_succ, List.getElem?_cons_zero, u_ok]
          rw [s4]
          simp only [u_ok]
          rw [ef, hst]
          rfl) T _ ⟨0, none, none, none, by omega, rfl⟩
  rw [u_sSeq, e2]
  subst et eρ
  unfold srEnv
  simp only [u_sRet, u_fDGet1, u_fRef, u_fVar, u_rdDr, u_ok, List.getElem?_cons_succ, List.getElem?_cons_zero, E.key, Enc.look, G.at_, Option.map_some, Option.getD_some]
  rfl
end
end FB
set_option Elab.async false
set_option linter.all false
set_option maxRecDepth 100000
set_option maxHeartbeats 4000000
namespace K76
open PySem PySem.Spec PyProof.Rows L2 FN
def topS (i : Nat) : Stmt := PySem.Challenge.pw_choirstands_k76_turned_stretches.main.body.getD i (.Pass ⟨0, 0, 0, 0⟩)
structure Bt (mg : Str → Option Value) : Prop where
  «all» : mg "all" = none
  «bool» : mg "bool" = none
  «int» : mg "int" = none
  «isinstance» : mg "isinstance" = none
  «len» : mg "len" = none
  «list» : mg "list" = none
  «max» : mg "max" = none
  «min» : mg "min" = none
  «range» : mg "range" = none
  «sorted» : mg "sorted" = none
  «str» : mg "str" = none
  «tuple» : mg "tuple" = none
  «zip» : mg "zip" = none
structure Cs (mg : Str → Option Value) : Prop where
  MOST_SINGERS : ∃ u, mg "MOST_SINGERS" = some u ∧ RelV (.int 10) u
structure Er (P : Program) (K : PySem.W.Frag) (mg : Str → Option Value) (DE fI C_StandError C_InvalidLine : Addr) : Prop where
  T : ErrTxt P K mg DE fI
  m_StandError : mg "StandError" = some (.ref C_StandError)
  m_InvalidLine : mg "InvalidLine" = some (.ref C_InvalidLine)
  c_InvalidLine : ErrCls K DE fI C_InvalidLine
  x_InvalidLine : XfC K C_InvalidLine
  e_InvalidLine : ExcC K C_InvalidLine
  k_InvalidLine : PySem.W.kitOne K (.ref C_InvalidLine) (.ref C_StandError) = some true
  h_InvalidLine_InvalidLine : PySem.W.exmOne K (.ref C_InvalidLine) (.ref C_InvalidLine) = some true
def sel_InvalidLine (n : Str) : Option Bool := if n = "InvalidLine" then some true else none
theorem selk_InvalidLine {P : Program} {K : PySem.W.Frag} {mg : Str → Option Value} {DE fI C_StandError C_InvalidLine : Addr} (ER : Er P K mg DE fI C_StandError C_InvalidLine) : Sel K mg (.ref C_InvalidLine) (RE K C_StandError) sel_InvalidLine := by
  intro n b h Ca hm
  unfold sel_InvalidLine at h
  split at h
  · rename_i e
    subst e
    rw [ER.m_InvalidLine] at hm
    cases hm
    cases h
    exact ⟨ER.x_InvalidLine, ER.c_InvalidLine.no, ER.h_InvalidLine_InvalidLine, ER.e_InvalidLine, ER.k_InvalidLine⟩
  · cases h
section
variable {P : Program} {w : World} {K : PySem.W.Frag} {mg : Str → Option Value} {base : Heap} {DE fI C_StandError C_InvalidLine : Addr}
abbrev s_is_integer : Stmt := topS 5
abbrev N_is_integer : List Str := ["value"]
theorem sc_is_integer : FnScope N_is_integer ["value"] (defScope s_is_integer) := ⟨rfl, rfl, rfl, by decide +kernel, rfl, by decide +kernel, by decide +kernel⟩
noncomputable def b_is_integer : FN.Env → Option Fl :=
  (sRet (fAnd (f1b (.t (.v true)) isInt (fVar 0)) (fNot (f1b (.t (.v true)) isBool (fVar 0)))))
noncomputable def m_is_integer : M D := runF [(.v true)] (.v true) 0 b_is_integer
theorem ok_is_integer (B : Bt mg) (a : At K mg "is_integer" s_is_integer ["value"])  : Kn P w K mg base CX0 1 "is_integer" ["value"] (spF K mg [(.v true)] (.v true) (noErr m_is_integer)) := by
  refine fn_ok0 (κl := []) a sc_is_integer rfl ⟨True.intro, True.intro⟩ True.intro rfl fun f cdv A outer s H vs E hv hr => ?_
  match vs, hv with
  | [v0], _ =>
  refine ⟨[(.v true)], (RetK.oth rfl RetK.nil), ?_⟩
  show FSs _ _ _ [(.v true)] _ _ _
  exact (fss_one (fs_ret (κn := _) (fe_and (fe_isi isi_int (by exact rfl) B.isinstance (fe_var 0) (cls1 (by exact rfl) B.int (by decide +kernel))) (fe_one (fe_not (k := true) (fe_isi isi_bool (by exact rfl) B.isinstance (fe_var 0) (cls1 (by exact rfl) B.bool (by decide +kernel)))))) (RetK.oth rfl RetK.nil)))
abbrev s_is_between : Stmt := topS 6
abbrev N_is_between : List Str := ["value", "low", "high"]
theorem sc_is_between : FnScope N_is_between ["value", "low", "high"] (defScope s_is_between) := ⟨rfl, rfl, rfl, by decide +kernel, rfl, by decide +kernel, by decide +kernel⟩
noncomputable def b_is_between : FN.Env → Option Fl :=
  (sRet (fAnd (fCall [.t (.v true)] (noErr m_is_integer) (aCons (fVar 0) aNil)) (fAnd (f2 (.t (.v true)) (.t (.v true)) dLe (fVar 1) (fVar 0)) (fOr (f2 (.t (.v true)) (.t (.v true)) dIs (fVar 2) (fC .none)) (f2 (.t (.v true)) (.t (.v true)) dLe (fVar 0) (fVar 2))))))
noncomputable def m_is_between : M D := runF [(.v true), (.v true), (.v true)] (.v true) 0 b_is_between
theorem ok_is_between (B : Bt mg) (a : At K mg "is_between" s_is_between ["value", "low", "high"]) (G_is_integer : Kn P w K mg base CX0 1 "is_integer" ["value"] (spF K mg [(.v true)] (.v true) (noErr m_is_integer))) : Kn P w K mg base CX0 2 "is_between" ["value", "low", "high"] (spF K mg [(.v true), (.v true), (.v true)] (.v true) (noErr m_is_between)) := by
  refine fn_ok0 (κl := []) a sc_is_between rfl ⟨True.intro, True.intro, True.intro, True.intro⟩ True.intro rfl fun f cdv A outer s H vs E hv hr => ?_
  match vs, hv with
  | [v0, v1, v2], _ =>
  refine ⟨[(.v true), (.v true), (.v true)], (RetK.oth rfl (RetK.oth rfl (RetK.oth rfl RetK.nil))), ?_⟩
  show FSs _ _ _ [(.v true), (.v true), (.v true)] _ _ _
  exact (fss_one (fs_ret (κn := _) (fe_and (fe_fn G_is_integer (hr.mono (by decide)) (Fits.t (nofix_ne True.intro) Fits.nil) (fa_cons (fe_var 0) fa_nil)) (fe_and (fe_cmp op_le s_le (fe_var 1) (fe_var 0) (nomark _)) (fe_one (fe_or (fe_cmp op_isA s_is (fe_var 2) fe_non (nomark _)) (fe_one (fe_cmp op_le s_le (fe_var 0) (fe_var 2) (nomark _))))))) (RetK.oth rfl (RetK.oth rfl (RetK.oth rfl RetK.nil)))))
abbrev s_is_tuple : Stmt := topS 7
abbrev N_is_tuple : List Str := ["value", "low", "high"]
theorem sc_is_tuple : FnScope N_is_tuple ["value", "low", "high"] (defScope s_is_tuple) := ⟨rfl, rfl, rfl, by decide +kernel, rfl, by decide +kernel, by decide +kernel⟩
noncomputable def b_is_tuple : FN.Env → Option Fl :=
  (sRet (fAnd (f1b (.t (.v true)) isTuple (fVar 0)) (fCh (.t (.v true)) (.t (.v true)) (.t (.v true)) dLe dLe (fVar 1) (f1 (.t (.v true)) dLen (fVar 0)) (fVar 2))))
noncomputable def m_is_tuple : M D := runF [(.v true), (.v true), (.v true)] (.v true) 0 b_is_tuple
theorem ok_is_tuple (B : Bt mg) (a : At K mg "is_tuple" s_is_tuple ["value", "low", "high"])  : Kn P w K mg base CX0 1 "is_tuple" ["value", "low", "high"] (spF K mg [(.v true), (.v true), (.v true)] (.v true) (noErr m_is_tuple)) := by
  refine fn_ok0 (κl := []) a sc_is_tuple rfl ⟨True.intro, True.intro, True.intro, True.intro⟩ True.intro rfl fun f cdv A outer s H vs E hv hr => ?_
  match vs, hv with
  | [v0, v1, v2], _ =>
  refine ⟨[(.v true), (.v true), (.v true)], (RetK.oth rfl (RetK.oth rfl (RetK.oth rfl RetK.nil))), ?_⟩
  show FSs _ _ _ [(.v true), (.v true), (.v true)] _ _ _
  exact (fss_one (fs_ret (κn := _) (fe_and (fe_isi isi_tuple (by exact rfl) B.isinstance (fe_var 0) (cls1 (by exact rfl) B.tuple (by decide +kernel))) (fe_one (fe_ch op_le s_le op_le s_le (fe_var 1) (fe_len (by exact rfl) B.len (fe_var 0)) (fe_var 2)))) (RetK.oth rfl (RetK.oth rfl (RetK.oth rfl RetK.nil)))))
abbrev s_are_integers : Stmt := topS 8
abbrev N_are_integers : List Str := ["value", "low", "high", "item"]
theorem sc_are_integers : FnScope N_are_integers ["value", "low", "high"] (defScope s_are_integers) := ⟨rfl, rfl, rfl, by decide +kernel, rfl, by decide +kernel, by decide +kernel⟩
noncomputable def b_are_integers : FN.Env → Option Fl :=
  (sRet (fAnd (f1b (.t (.v true)) isTuple (fVar 0)) (f1 (.t (.v true)) dAll (fLc [3] (iSeq (fVar 0)) (gNm 3) tYesF (fCall [.t (.v true), .t (.v true), .t (.v true)] (noErr m_is_between) (aCons (fVar 3) (aCons (fVar 1) (aCons (fVar 2) aNil))))))))
noncomputable def m_are_integers : M D := runF [(.v true), (.v true), (.v true)] (.v true) 1 b_are_integers
theorem ok_are_integers (B : Bt mg) (a : At K mg "are_integers" s_are_integers ["value", "low", "high"]) (G_is_between : Kn P w K mg base CX0 2 "is_between" ["value", "low", "high"] (spF K mg [(.v true), (.v true), (.v true)] (.v true) (noErr m_is_between))) : Kn P w K mg base CX0 3 "are_integers" ["value", "low", "high"] (spF K mg [(.v true), (.v true), (.v true)] (.v true) (noErr m_are_integers)) := by
  refine fn_ok0 (κl := [(.v true)]) a sc_are_integers rfl ⟨True.intro, True.intro, True.intro, True.intro⟩ ⟨True.intro, True.intro⟩ rfl fun f cdv A outer s H vs E hv hr => ?_
  match vs, hv with
  | [v0, v1, v2], _ =>
  refine ⟨[(.v true), (.v true), (.v true), (.v true)], (RetK.oth rfl (RetK.oth rfl (RetK.oth rfl RetK.nil))), ?_⟩
  show FSs _ _ _ [(.v true), (.v true), (.v true), (.v true)] _ _ _
  exact (fss_one (fs_ret (κn := _) (fe_and (fe_isi isi_tuple (by exact rfl) B.isinstance (fe_var 0) (cls1 (by exact rfl) B.tuple (by decide +kernel))) (fe_one (fe_all rfl (by exact rfl) B.all (fe_lc (kd := (.v _)) (own := [("item", 3)]) (sl := [3]) rfl rfl sc_are_integers.nd (fi_seq (fe_var 0)) (blkOk_by (N := N_are_integers) (sc := defScope s_are_integers) (by decide +kernel)) (by repeat (first | exact True.intro | refine And.intro True.intro ?_)) (by decide) (fun _ _ _ _ _ => (fg_nameK (i := 3) sc_are_integers.nd)) (fun _ _ _ _ _ => fts_nil) (fun _ _ _ _ _ => (fe_fn G_is_between (hr.mono (by decide)) (Fits.t (nofix_ne True.intro) (Fits.t (nofix_ne True.intro) (Fits.t (nofix_ne True.intro) Fits.nil))) (fa_cons (fe_var 3) (fa_cons (fe_var 1) (fa_cons (fe_var 2) fa_nil))))))))) (RetK.oth rfl (RetK.oth rfl (RetK.oth rfl RetK.nil)))))
abbrev s_reversed_by : Stmt := topS 11
abbrev N_reversed_by : List Str := ["line", "pair", "i", "j"]
theorem sc_reversed_by : FnScope N_reversed_by ["line", "pair"] (defScope s_reversed_by) := ⟨rfl, rfl, rfl, by decide +kernel, rfl, by decide +kernel, by decide +kernel⟩
noncomputable def b_reversed_by : FN.Env → Option Fl :=
  (sSeq (sAsg (gTp (gsCons (gNm 2) (gsCons (gNm 3) gsNil))) (fVar 1))
  (sRet (f2 (.t (.v false)) (.t (.v false)) dAdd (f2 (.t (.v false)) (.t (.v false)) dAdd (f3 (.t (.v false)) (fVar 0) oNone (oSome (fVar 2))) (f1 (.t (.v false)) dRev (f3 (.t (.v false)) (fVar 0) (oSome (fVar 2)) (oSome (f2 (.t (.v false)) (.t (.v false)) dAdd (fVar 3) (fC (.int 1))))))) (f3 (.t (.v false)) (fVar 0) (oSome (f2 (.t (.v false)) (.t (.v false)) dAdd (fVar 3) (fC (.int 1)))) oNone))))
noncomputable def m_reversed_by : M D := runF [(.v false), (.v false)] (.v false) 2 b_reversed_by
theorem ok_reversed_by (B : Bt mg) (a : At K mg "reversed_by" s_reversed_by ["line", "pair"])  : Kn P w K mg base CX0 1 "reversed_by" ["line", "pair"] (spF K mg [(.v false), (.v false)] (.v false) (noErr m_reversed_by)) := by
  refine fn_ok0 (κl := [(.v false), (.v false)]) a sc_reversed_by rfl ⟨True.intro, True.intro, True.intro⟩ ⟨True.intro, True.intro, True.intro⟩ rfl fun f cdv A outer s H vs E hv hr => ?_
  match vs, hv with
  | [v0, v1], _ =>
  refine ⟨[(.v false), (.v false), (.v false), (.v false)], (RetK.oth rfl (RetK.oth rfl RetK.nil)), ?_⟩
  show FSs _ _ _ [(.v false), (.v false), (.v false), (.v false)] _ _ _
  exact (fss_cons (fs_asg (fe_var 1) (fg_tup rfl (gs_lenS (gs_lenS gs_len0)) (fgs_cons (fg_nameK (i := 2) sc_reversed_by.nd) (fgs_cons (fg_nameK (i := 3) sc_reversed_by.nd) fgs_nil))))
    (fss_one (fs_ret (κn := _) (fe_add (fe_add (fe_sl (fe_var 0) fo_none (fo_some (k := false) (fe_var 2))) (fe_rev (fe_sl (fe_var 0) (fo_some (k := false) (fe_var 2)) (fo_some (k := false) (fe_add (fe_var 3) fe_int))))) (fe_sl (fe_var 0) (fo_some (k := false) (fe_add (fe_var 3) fe_int)) fo_none)) (RetK.oth rfl (RetK.oth rfl RetK.nil)))))
abbrev s_shortest_row__reversed_by : Stmt := topS 10
abbrev N_shortest_row__reversed_by : List Str := ["one", "other", "deeds", "done", "came", "waiting", "at", "line", "deed", "there"]
theorem sc_shortest_row__reversed_by : FnScope N_shortest_row__reversed_by ["one", "other", "deeds", "done"] (defScope s_shortest_row__reversed_by) := ⟨rfl, rfl, rfl, by decide +kernel, rfl, by decide +kernel, by decide +kernel⟩
noncomputable def b_shortest_row__reversed_by : FN.Env → Option Fl :=
  (sSeq (sPar3 4 5 6 (aCons (fDisp true (fVar 0) (fTup aNil)) (aCons (fLst (aCons (fVar 0) aNil)) (aCons (fC (.int 0)) aNil))))
  (sSeq (sWh (tAndF (fTst (f2 (.t (.v false)) (.t (.v false)) dLt (fVar 6) (f1 (.r 5) dLen (fRef 5)))) (fTst (fDIn true true (.r 4) (fVar 1) (fRef 4))))
  (sSeq (sSet 7 (f2 (.r 5) (.t (.v false)) dIx (fRef 5) (fVar 6)))
  (sSeq (sAug 6 dAug (fC (.int 1)))
  (sFor (iSeq (fVar 2)) (gNm 8)
  (sSeq (sSet 9 (fCallL 3 [.t (.v false), .t (.v false)] (noErr m_reversed_by) (aCons (fVar 7) (aCons (fVar 8) aNil))))
  (sIf (fTst (fDIn true true (.r 4) (fVar 9) (fRef 4)))
  (sSeq (sDPut true 4 (fVar 9) (f2 (.t (.v false)) (.t (.v false)) dAdd (fDGet true (.r 4) (fRef 4) (fVar 7)) (fTup (aCons (fVar 8) aNil))))
  (sDrop (fMt 5 oApp (fVar 9))))
  sNx))))))
  (sRet (fDGet1 true (.r 4) (fRef 4) (fVar 1)))))
noncomputable def m_shortest_row__reversed_by : M D := runF [(.v false), (.v false), (.v false), (.tok .non)] (.v false) 6 b_shortest_row__reversed_by
theorem ok_shortest_row__reversed_by (B : Bt mg) (a : At K mg "shortest_row" s_shortest_row__reversed_by ["one", "other", "deeds", "done"]) {f_reversed_by : Addr} (hm_reversed_by : mg "reversed_by" = some (.ref f_reversed_by)) (G_reversed_by : Kn P w K mg base CX0 1 "reversed_by" ["line", "pair"] (spF K mg [(.v false), (.v false)] (.v false) (noErr m_reversed_by))) : Kn P w K mg base CX0 2 "shortest_row" ["one", "other", "deeds", "done"] (spF K mg [(.v false), (.v false), (.v false), (.tok (.ref f_reversed_by))] (.v false) (noErr m_shortest_row__reversed_by)) := by
  have e : m_shortest_row__reversed_by = runF [(.v false), (.v false), (.v false), (.tok (.ref f_reversed_by))] (.v false) 6 b_shortest_row__reversed_by := runF_keep (by rfl) _ _ _
  rw [e]
  refine fn_ok0 (κl := [(.dT false), (.lst (.v false)), (.v false), (.v false), (.v false), (.v false)]) a sc_shortest_row__reversed_by rfl ⟨True.intro, True.intro, True.intro, True.intro, True.intro⟩ ⟨True.intro, True.intro, True.intro, True.intro, True.intro, True.intro, True.intro⟩ rfl fun f cdv A outer s H vs E hv hr => ?_
  match vs, hv with
  | [v0, v1, v2, v3], _ =>
  refine ⟨[(.v false), (.v false), (.v false), .fix v3 (.tok (.ref f_reversed_by)), (.dT false), (.lst (.v false)), (.v false), (.v false), (.v false), (.v false)], (RetK.oth rfl (RetK.oth rfl (RetK.oth rfl (RetK.own rfl RetK.nil)))), ?_⟩
  show FSs _ _ _ [(.v false), (.v false), (.v false), .fix v3 (.tok (.ref f_reversed_by)), (.dT false), (.lst (.v false)), (.v false), (.v false), (.v false), (.v false)] _ _ _
  exact (fss_cons (fs_parK3 (i := 4) (j := 5) (l := 6) rfl sc_shortest_row__reversed_by.nd (fa_cons (fe_dispT hr.units (fe_var 0) (fe_tup (k := false) fa_nil)) (fa_cons (fe_lst (k := false) (kd := (.lst (.v false))) (fa_cons (fe_var 0) fa_nil)) (fa_cons fe_int fa_nil))))
    (fss_cons (fs_while PassesOwn.never (ft_w (fw_and (ft_cmp op_lt s_lt (fe_var 6) (fe_len (by exact rfl) B.len (fe_ref 5)) (nomark _)) (fw_and1 (ft_dnin (t := true) hr.units (fe_var 1) (fe_ref 4) (by rfl)))))
    (fss_cons (fs_setK (i := 7) (fe_ix (fe_ref 5) (fe_var 6)) sc_shortest_row__reversed_by.nd)
    (fss_cons (fs_aug (i := 6) (iop_add.or iop_add_str) s_aug fe_int sc_shortest_row__reversed_by.nd)
    (fss_one (fs_for PassesOwn.never rfl (fi_seq (fe_var 2)) (fg_nameK (i := 8) sc_shortest_row__reversed_by.nd)
    (fss_cons (fs_setK (i := 9) (fe_fnL (i := 3) G_reversed_by hm_reversed_by (by exact rfl) (hr.mono (by decide)) (Fits.t (nofix_ne True.intro) (Fits.t (nofix_ne True.intro) Fits.nil)) (fa_cons (fe_var 7) (fa_cons (fe_var 8) fa_nil))) sc_shortest_row__reversed_by.nd)
    (fss_one (fs_if (ft_dnin (t := true) hr.units (fe_var 9) (fe_ref 4) (by rfl))
    (fss_cons (fs_dput (t := true) (i := 4) hr.units (fe_ref 4) (fe_var 9) (fe_add (fe_dget (t := true) hr.units (fe_ref 4) (fe_var 7)) (fe_tup (k := false) (fa_cons (fe_var 8) fa_nil))))
    (fss_one (fs_expr (fe_append (i := 5) rfl (fe_ref 5) (fe_var 9)))))
    fss_nil))))))))
    (fss_one (fs_ret (κn := _) (fe_dget1 (t := true) hr.units (fe_ref 4) (fe_var 1) ⟨by rfl, by rfl, by rfl, by rfl⟩) (RetK.oth rfl (RetK.oth rfl (RetK.oth rfl (RetK.own rfl RetK.nil))))))))
abbrev s_row_of_turns : Stmt := topS 12
abbrev N_row_of_turns : List Str := ["one", "other"]
theorem sc_row_of_turns : FnScope N_row_of_turns ["one", "other"] (defScope s_row_of_turns) := ⟨rfl, rfl, rfl, by decide +kernel, rfl, by decide +kernel, by decide +kernel⟩
noncomputable def b_row_of_turns : FN.Env → Option Fl :=
  (sRet (fCall [.t (.v false), .t (.v false), .t (.v false), .t (.tok .non)] (noErr m_shortest_row__reversed_by) (aCons (fVar 0) (aCons (fVar 1) (aCons (fTupCb2 (.t (.v false)) (f1 (.t (.v false)) dLen (fVar 0))) (aCons fTok aNil))))))
noncomputable def m_row_of_turns : M D := runF [(.v false), (.v false)] (.v false) 0 b_row_of_turns
theorem ok_row_of_turns (B : Bt mg) (a : At K mg "row_of_turns" s_row_of_turns ["one", "other"]) (XC : mg "combinations" = some (.type "itertools.combinations")) {f_reversed_by : Addr} (hm_reversed_by : mg "reversed_by" = some (.ref f_reversed_by)) (G_shortest_row__reversed_by : Kn P w K mg base CX0 2 "shortest_row" ["one", "other", "deeds", "done"] (spF K mg [(.v false), (.v false), (.v false), (.tok (.ref f_reversed_by))] (.v false) (noErr m_shortest_row__reversed_by))) : Kn P w K mg base CX0 3 "row_of_turns" ["one", "other"] (spF K mg [(.v false), (.v false)] (.v false) (noErr m_row_of_turns)) := by
  refine fn_ok0 (κl := []) a sc_row_of_turns rfl ⟨True.intro, True.intro, True.intro⟩ True.intro rfl fun f cdv A outer s H vs E hv hr => ?_
  match vs, hv with
  | [v0, v1], _ =>
  refine ⟨[(.v false), (.v false)], (RetK.oth rfl (RetK.oth rfl RetK.nil)), ?_⟩
  show FSs _ _ _ [(.v false), (.v false)] _ _ _
  exact (fss_one (fs_ret (κn := _) (fe_sh (fe_fn G_shortest_row__reversed_by (hr.mono (by decide)) (Fits.t (nofix_ne True.intro) (Fits.t (nofix_ne True.intro) (Fits.t (nofix_ne True.intro) (Fits.t (nofix_ne True.intro) Fits.nil)))) (fa_cons (fe_var 0) (fa_cons (fe_var 1) (fa_cons (fe_tupCb2 rfl (by exact rfl) B.tuple (by exact rfl) B.range XC (fe_len (by exact rfl) B.len (fe_var 0))) (fa_cons (fe_tok hm_reversed_by) fa_nil)))))) (RetK.oth rfl (RetK.oth rfl RetK.nil))))
abbrev s_is_a_line : Stmt := topS 15
abbrev N_is_a_line : List Str := ["value"]
theorem sc_is_a_line : FnScope N_is_a_line ["value"] (defScope s_is_a_line) := ⟨rfl, rfl, rfl, by decide +kernel, rfl, by decide +kernel, by decide +kernel⟩
noncomputable def b_is_a_line : FN.Env → Option Fl :=
  (sSeq (sIf (tOrF (tNotF (fTru (.t (.v true)) (fCall [.t (.v true), .t (.v true), .t (.v true)] (noErr m_is_tuple) (aCons (fVar 0) (aCons (fC (.int 1)) (aCons (fC (.int 10)) aNil)))))) (tNotF (fTru (.t (.v true)) (fCall [.t (.v true), .t (.v true), .t (.v true)] (noErr m_are_integers) (aCons (fVar 0) (aCons (fC (.int 0)) (aCons (fC .none) aNil)))))))
  (sRet (fC (.bool false)))
  sNx)
  (sRet (f2 (.t (.v true)) (.t (.v true)) dEq (f1 (.t (.v true)) dSorted (fVar 0)) (fLrg (rRg1 (.t (.v true)) (f1 (.t (.v true)) dLen (fVar 0)))))))
noncomputable def m_is_a_line : M D := runF [(.v true)] (.v true) 0 b_is_a_line
theorem ok_is_a_line (B : Bt mg) (a : At K mg "is_a_line" s_is_a_line ["value"]) (CN : Cs mg) (G_are_integers : Kn P w K mg base CX0 3 "are_integers" ["value", "low", "high"] (spF K mg [(.v true), (.v true), (.v true)] (.v true) (noErr m_are_integers))) (G_is_tuple : Kn P w K mg base CX0 1 "is_tuple" ["value", "low", "high"] (spF K mg [(.v true), (.v true), (.v true)] (.v true) (noErr m_is_tuple))) : Kn P w K mg base CX0 4 "is_a_line" ["value"] (spF K mg [(.v true)] (.v true) (noErr m_is_a_line)) := by
  refine fn_ok0 (κl := []) a sc_is_a_line rfl ⟨True.intro, True.intro⟩ True.intro rfl fun f cdv A outer s H vs E hv hr => ?_
  match vs, hv with
  | [v0], _ =>
  refine ⟨[(.v true)], (RetK.oth rfl RetK.nil), ?_⟩
  show FSs _ _ _ [(.v true)] _ _ _
  exact (fss_cons (fs_if (ft_w (fw_or (ft_not (ft_tru (fe_fn G_is_tuple (hr.mono (by decide)) (Fits.t (nofix_ne True.intro) (Fits.t (nofix_ne True.intro) (Fits.t (nofix_ne True.intro) Fits.nil))) (fa_cons (fe_var 0) (fa_cons fe_int (fa_cons (fe_cst CN.MOST_SINGERS (fun _ => .int _)) fa_nil)))))) (fw_or1 (ft_not (ft_tru (fe_fn G_are_integers (hr.mono (by decide)) (Fits.t (nofix_ne True.intro) (Fits.t (nofix_ne True.intro) (Fits.t (nofix_ne True.intro) Fits.nil))) (fa_cons (fe_var 0) (fa_cons fe_int (fa_cons fe_non fa_nil)))))))))
    (fss_one (fs_ret (κn := _) fe_bl (RetK.oth rfl RetK.nil)))
    fss_nil)
    (fss_one (fs_ret (κn := _) (fe_cmp (op_eqD hr.units) s_eq (fe_sorted (kd := (.v _)) rfl hr.units (by exact rfl) B.sorted (fe_var 0)) (fe_listRg (kd := (.v _)) rfl rfl (by exact rfl) B.list (frg_1 (by exact rfl) B.range (fe_len (by exact rfl) B.len (fe_var 0)))) (nomark _)) (RetK.oth rfl RetK.nil))))
abbrev s_need_lines : Stmt := topS 16
abbrev N_need_lines : List Str := ["one", "other"]
theorem sc_need_lines : FnScope N_need_lines ["one", "other"] (defScope s_need_lines) := ⟨rfl, rfl, rfl, by decide +kernel, rfl, by decide +kernel, by decide +kernel⟩
noncomputable def b_need_lines : FN.Env → Option Fl :=
  (sSeq (sIf (tNotF (fTru (.t (.v true)) (fCall [.t (.v true)] (noErr m_is_a_line) (aCons (fVar 0) aNil))))
  (sRaise "InvalidLine" (fVar 0))
  sNx)
  (sIf (tOrF (tNotF (fTru (.t (.v true)) (fCall [.t (.v true)] (noErr m_is_a_line) (aCons (fVar 1) aNil)))) (fTst (f2 (.t (.v false)) (.t (.v false)) dNe (f1 (.t (.v false)) dLen (fVar 1)) (f1 (.t (.v false)) dLen (fVar 0)))))
  (sRaise "InvalidLine" (fVar 1))
  sNx))
noncomputable def m_need_lines : M D := runF [(.v false), (.v false)] (.v false) 0 b_need_lines
theorem ok_need_lines (B : Bt mg) (a : At K mg "need_lines" s_need_lines ["one", "other"]) (ER : Er P K mg DE fI C_StandError C_InvalidLine) (G_is_a_line : Kn P w K mg base CX0 4 "is_a_line" ["value"] (spF K mg [(.v true)] (.v true) (noErr m_is_a_line))) : Kn P w K mg base (L2.CX P w) 5 "need_lines" ["one", "other"] (spF K mg [(.v false), (.v false)] (.v false) m_need_lines) := by
  refine fn_okX (κl := []) a sc_need_lines rfl ⟨True.intro, True.intro, True.intro⟩ True.intro rfl fun f cdv A outer s H vs E hv hr => ?_
  match vs, hv with
  | [v0, v1], _ =>
  refine ⟨[(.v false), (.v false)], (RetK.oth rfl (RetK.oth rfl RetK.nil)), ?_⟩
  show FSs _ _ _ [(.v false), (.v false)] _ _ _
  exact (fss_cons (fs_if (ft_not (ft_tru (fe_fn G_is_a_line (hr.mono (by decide)) (Fits.t (nofix_ne True.intro) Fits.nil) (fa_cons (fe_wide (fe_var 0)) fa_nil))))
    (fss_one (fs_raise (b := false) ER.T ER.c_InvalidLine ER.m_InvalidLine rfl (hr.mono (by decide)) (takes_of rfl rfl rfl rfl) (fe_var 0)))
    fss_nil)
    (fss_one (fs_if (ft_w (fw_or (ft_not (ft_tru (fe_fn G_is_a_line (hr.mono (by decide)) (Fits.t (nofix_ne True.intro) Fits.nil) (fa_cons (fe_wide (fe_var 1)) fa_nil)))) (fw_or1 (ft_cmp (op_neD hr.units) s_ne (fe_len (by exact rfl) B.len (fe_var 1)) (fe_len (by exact rfl) B.len (fe_var 0)) (nomark _)))))
    (fss_one (fs_raise (b := false) ER.T ER.c_InvalidLine ER.m_InvalidLine rfl (hr.mono (by decide)) (takes_of rfl rfl rfl rfl) (fe_var 1)))
    fss_nil)))
abbrev s_turns : Stmt := topS 17
abbrev N_turns : List Str := ["one", "other"]
theorem sc_turns : FnScope N_turns ["one", "other"] (defScope s_turns) := ⟨rfl, rfl, rfl, by decide +kernel, rfl, by decide +kernel, by decide +kernel⟩
noncomputable def b_turns : FN.Env → Option Fl :=
  (sSeq (sDrop (fCall [.t (.v false), .t (.v false)] m_need_lines (aCons (fVar 0) (aCons (fVar 1) aNil))))
  (sRet (fCall [.t (.v false), .t (.v false)] (noErr m_row_of_turns) (aCons (fVar 0) (aCons (fVar 1) aNil)))))
noncomputable def m_turns : M D := runF [(.v false), (.v false)] (.v false) 0 b_turns
theorem ok_turns (B : Bt mg) (a : At K mg "turns" s_turns ["one", "other"]) (G_need_lines : Kn P w K mg base (L2.CX P w) 5 "need_lines" ["one", "other"] (spF K mg [(.v false), (.v false)] (.v false) m_need_lines)) (G_row_of_turns : Kn P w K mg base CX0 3 "row_of_turns" ["one", "other"] (spF K mg [(.v false), (.v false)] (.v false) (noErr m_row_of_turns))) : Kn P w K mg base (L2.CX P w) 6 "turns" ["one", "other"] (spF K mg [(.v false), (.v false)] (.v false) m_turns) := by
  refine fn_okX (κl := []) a sc_turns rfl ⟨True.intro, True.intro, True.intro⟩ True.intro rfl fun f cdv A outer s H vs E hv hr => ?_
  match vs, hv with
  | [v0, v1], _ =>
  refine ⟨[(.v false), (.v false)], (RetK.oth rfl (RetK.oth rfl RetK.nil)), ?_⟩
  show FSs _ _ _ [(.v false), (.v false)] _ _ _
  exact (fss_cons (fs_expr (fe_fnX G_need_lines (takes_of rfl rfl rfl rfl) (hr.mono (by decide)) (Fits.t (nofix_ne True.intro) (Fits.t (nofix_ne True.intro) Fits.nil)) (fa_cons (fe_var 0) (fa_cons (fe_var 1) fa_nil))))
    (fss_one (fs_ret (κn := _) (fe_fn G_row_of_turns (hr.mono (by decide)) (Fits.t (nofix_ne True.intro) (Fits.t (nofix_ne True.intro) Fits.nil)) (fa_cons (fe_var 0) (fa_cons (fe_var 1) fa_nil))) (RetK.oth rfl (RetK.oth rfl RetK.nil)))))
abbrev s_L_bag : Stmt := topS 19
abbrev N_L_bag : List Str := ["script", "k", "cell"]
theorem sc_L_bag : FnScope N_L_bag ["script", "k"] (defScope s_L_bag) := ⟨rfl, rfl, rfl, by decide +kernel, rfl, by decide +kernel, by decide +kernel⟩
noncomputable def b_L_bag : FN.Env → Option Fl :=
  (sSeq (sSet 2 (fIf (fTst (f2 (.t (.v true)) (.t (.v true)) dLt (fVar 1) (f1 (.r 0) dLen (fRef 0)))) (f2 (.t (.v true)) (.t (.v true)) dMod (f1 (.t (.v true)) dInt (f2 (.r 0) (.t (.v true)) dIx (fRef 0) (fVar 1))) (f2 (.t (.v true)) (.t (.v true)) dPow (fC (.int 10)) (fC (.int 60)))) (f2 (.t (.v true)) (.t (.v true)) dAdd (f2 (.t (.v true)) (.t (.v true)) dMul (fC (.int 41)) (fVar 1)) (fC (.int 7)))))
  (sRet (fLst (aCons (f2 (.t (.v true)) (.t (.v true)) dMax2 (fC (.int 0)) (f2 (.t (.v true)) (.t (.v true)) dSub (fVar 2) (f2 (.t (.v true)) (.t (.v true)) dPow (fC (.int 10)) (fC (.int 18))))) (aCons (f2 (.t (.v true)) (.t (.v true)) dAdd (f2 (.t (.v true)) (.t (.v true)) dMod (f1 (.t (.v true)) dInt (fVar 2)) (fC (.int 1000003))) (f2 (.t (.v true)) (.t (.v true)) dMul (fC (.int 31)) (fVar 1))) (aCons (fC (.int 0)) aNil))))))
noncomputable def m_L_bag : M D := runF [.scr, (.v true)] (.lst (.v true)) 1 b_L_bag
theorem ok_L_bag (B : Bt mg) (a : At K mg "_law_bag" s_L_bag ["script", "k"])  : Kn P w K mg base CX0 1 "_law_bag" ["script", "k"] (spF K mg [.scr, (.v true)] (.lst (.v true)) (noErr m_L_bag)) := by
  refine fn_ok0 (κl := [(.v true)]) a sc_L_bag rfl ⟨True.intro, True.intro, True.intro⟩ ⟨True.intro, True.intro⟩ rfl fun f cdv A outer s H vs E hv hr => ?_
  match vs, hv with
  | [v0, v1], _ =>
  refine ⟨[.fix v0 .scr, (.v true), (.v true)], (RetK.own rfl (RetK.oth rfl RetK.nil)), ?_⟩
  show FSs _ _ _ [.fix v0 .scr, (.v true), (.v true)] _ _ _
  exact (fss_cons (fs_setK (i := 2) (fe_if (ft_cmp op_lt s_lt (fe_var 1) (fe_len (by exact rfl) B.len (fe_ref 0)) (nomark _)) (fe_op op_mod s_mod (fe_int1 (by exact rfl) B.int (fe_ixS (fe_ref 0) (fe_var 1))) (fe_op op_pow s_pow fe_int fe_int)) (fe_add (fe_mul fe_int (fe_var 1)) fe_int)) sc_L_bag.nd)
    (fss_one (fs_ret (κn := _) (fe_lst (k := true) (kd := (.lst (.v true))) (fa_cons (fe_max2 rfl (by exact rfl) B.max fe_int (fe_op op_sub s_sub (fe_var 2) (fe_op op_pow s_pow fe_int fe_int))) (fa_cons (fe_add (fe_op op_mod s_mod (fe_int1 (by exact rfl) B.int (fe_var 2)) fe_int) (fe_mul fe_int (fe_var 1))) (fa_cons fe_int fa_nil)))) (RetK.own rfl (RetK.oth rfl RetK.nil)))))
abbrev s_L_take : Stmt := topS 20
abbrev N_L_take : List Str := ["bag", "many", "mixed", "digit"]
theorem sc_L_take : FnScope N_L_take ["bag", "many"] (defScope s_L_take) := ⟨rfl, rfl, rfl, by decide +kernel, rfl, by decide +kernel, by decide +kernel⟩
noncomputable def b_L_take : FN.Env → Option Fl :=
  (sSeq (sIf (fTst (f2 (.t (.v true)) (.t (.v true)) dGt (f2 (.r 0) (.t (.v true)) dIx (fRef 0) (fC (.int 0))) (fC (.int 0))))
  (sSeq (sSet 3 (f2 (.t (.v true)) (.t (.v true)) dMod (f1 (.t (.v true)) dInt (f2 (.r 0) (.t (.v true)) dIx (fRef 0) (fC (.int 0)))) (fVar 1)))
  (sSeq (sPut 0 (fC (.int 0)) (f2 (.t (.v true)) (.t (.v true)) dDiv (f2 (.r 0) (.t (.v true)) dIx (fRef 0) (fC (.int 0))) (fVar 1)))
  (sRet (fVar 3))))
  sNx)
  (sSeq (sPut 0 (fC (.int 2)) (f2 (.t (.v true)) (.t (.v true)) dAdd (f2 (.r 0) (.t (.v true)) dIx (fRef 0) (fC (.int 2))) (fC (.int 1))))
  (sSeq (sSet 2 (f2 (.t (.v true)) (.t (.v true)) dMod (f1 (.t (.v true)) dInt (f2 (.t (.v true)) (.t (.v true)) dAdd (f2 (.t (.v true)) (.t (.v true)) dPow (f2 (.t (.v true)) (.t (.v true)) dAdd (f2 (.r 0) (.t (.v true)) dIx (fRef 0) (fC (.int 1))) (f2 (.t (.v true)) (.t (.v true)) dMul (fC (.int 7919)) (f2 (.r 0) (.t (.v true)) dIx (fRef 0) (fC (.int 2))))) (fC (.int 3))) (f2 (.r 0) (.t (.v true)) dIx (fRef 0) (fC (.int 2))))) (f2 (.t (.v true)) (.t (.v true)) dAdd (f2 (.t (.v true)) (.t (.v true)) dPow (fC (.int 10)) (fC (.int 28))) (fC (.int 331)))))
  (sSeq (sSet 2 (f2 (.t (.v true)) (.t (.v true)) dMod (f1 (.t (.v true)) dInt (f2 (.t (.v true)) (.t (.v true)) dAdd (f2 (.t (.v true)) (.t (.v true)) dAdd (f2 (.t (.v true)) (.t (.v true)) dMul (fVar 2) (fVar 2)) (f2 (.t (.v true)) (.t (.v true)) dMul (fC (.int 104729)) (f2 (.r 0) (.t (.v true)) dIx (fRef 0) (fC (.int 1))))) (f2 (.r 0) (.t (.v true)) dIx (fRef 0) (fC (.int 2))))) (f2 (.t (.v true)) (.t (.v true)) dAdd (f2 (.t (.v true)) (.t (.v true)) dPow (fC (.int 10)) (fC (.int 27))) (fC (.int 103)))))
  (sRet (f2 (.t (.v true)) (.t (.v true)) dMod (f1 (.t (.v true)) dInt (f2 (.t (.v true)) (.t (.v true)) dDiv (fVar 2) (fC (.int 15485863)))) (fVar 1)))))))
noncomputable def m_L_take : M D := runF [(.lst (.v true)), (.v true)] (.v false) 2 b_L_take
theorem ok_L_take (B : Bt mg) (a : At K mg "_law_take" s_L_take ["bag", "many"])  : Kn P w K mg base CX0 1 "_law_take" ["bag", "many"] (spF K mg [(.lst (.v true)), (.v true)] (.v false) (noErr m_L_take)) := by
  refine fn_ok0 (κl := [(.v true), (.v false)]) a sc_L_take rfl ⟨True.intro, True.intro, True.intro⟩ ⟨True.intro, True.intro, True.intro⟩ rfl fun f cdv A outer s H vs E hv hr => ?_
  match vs, hv with
  | [v0, v1], _ =>
  refine ⟨[.fix v0 (.lst (.v true)), (.v true), (.v true), (.v false)], (RetK.own rfl (RetK.oth rfl RetK.nil)), ?_⟩
  show FSs _ _ _ [.fix v0 (.lst (.v true)), (.v true), (.v true), (.v false)] _ _ _
  exact (fss_cons (fs_if (ft_cmp op_gt s_gt (fe_ix (fe_ref 0) fe_int) fe_int (nomark _))
    (fss_cons (fs_setK (i := 3) (fe_op op_mod s_mod (fe_int1 (by exact rfl) B.int (fe_ix (fe_ref 0) fe_int)) (fe_var 1)) sc_L_take.nd)
    (fss_cons (fs_put (bi := true) (i := 0) rfl (fe_ref 0) fe_int (fe_op op_fdivW s_div (fe_ix (fe_ref 0) fe_int) (fe_var 1)))
    (fss_one (fs_ret (κn := _) (fe_var 3) (RetK.own rfl (RetK.oth rfl RetK.nil))))))
    fss_nil)
    (fss_cons (fs_put (bi := true) (i := 0) rfl (fe_ref 0) fe_int (fe_add (fe_ix (fe_ref 0) fe_int) fe_int))
    (fss_cons (fs_setK (i := 2) (fe_op op_mod s_mod (fe_int1 (by exact rfl) B.int (fe_add (fe_op op_pow s_pow (fe_add (fe_ix (fe_ref 0) fe_int) (fe_mul fe_int (fe_ix (fe_ref 0) fe_int))) fe_int) (fe_ix (fe_ref 0) fe_int))) (fe_add (fe_op op_pow s_pow fe_int fe_int) fe_int)) sc_L_take.nd)
    (fss_cons (fs_setK (i := 2) (fe_op op_mod s_mod (fe_int1 (by exact rfl) B.int (fe_add (fe_add (fe_mul (fe_var 2) (fe_var 2)) (fe_mul fe_int (fe_ix (fe_ref 0) fe_int))) (fe_ix (fe_ref 0) fe_int))) (fe_add (fe_op op_pow s_pow fe_int fe_int) fe_int)) sc_L_take.nd)
    (fss_one (fs_ret (κn := _) (fe_op op_mod s_mod (fe_int1 (by exact rfl) B.int (fe_op op_fdivW s_div (fe_var 2) fe_int)) (fe_var 1)) (RetK.own rfl (RetK.oth rfl RetK.nil))))))))
abbrev s_L_one_of : Stmt := topS 21
abbrev N_L_one_of : List Str := ["bag", "items"]
theorem sc_L_one_of : FnScope N_L_one_of ["bag", "items"] (defScope s_L_one_of) := ⟨rfl, rfl, rfl, by decide +kernel, rfl, by decide +kernel, by decide +kernel⟩
noncomputable def b_L_one_of : FN.Env → Option Fl :=
  (sRet (f2 (.t (.v false)) (.t (.v false)) dIx (fVar 1) (fCall [.r 0, .t (.v true)] (noErr m_L_take) (aCons (fRef 0) (aCons (f1 (.t (.v false)) dLen (fVar 1)) aNil)))))
noncomputable def m_L_one_of : M D := runF [(.lst (.v true)), (.v false)] (.v false) 0 b_L_one_of
theorem ok_L_one_of (B : Bt mg) (a : At K mg "_law_one_of" s_L_one_of ["bag", "items"]) (G_L_take : Kn P w K mg base CX0 1 "_law_take" ["bag", "many"] (spF K mg [(.lst (.v true)), (.v true)] (.v false) (noErr m_L_take))) : Kn P w K mg base CX0 2 "_law_one_of" ["bag", "items"] (spF K mg [(.lst (.v true)), (.v false)] (.v false) (noErr m_L_one_of)) := by
  refine fn_ok0 (κl := []) a sc_L_one_of rfl ⟨True.intro, True.intro, True.intro⟩ True.intro rfl fun f cdv A outer s H vs E hv hr => ?_
  match vs, hv with
  | [v0, v1], _ =>
  refine ⟨[.fix v0 (.lst (.v true)), (.v false)], (RetK.own rfl (RetK.oth rfl RetK.nil)), ?_⟩
  show FSs _ _ _ [.fix v0 (.lst (.v true)), (.v false)] _ _ _
  exact (fss_one (fs_ret (κn := _) (fe_ix (fe_var 1) (fe_fn G_L_take (hr.mono (by decide)) (Fits.r (by first | exact .inl ⟨rfl, nofix_ne True.intro⟩ | exact .inr ⟨_, rfl, nofix_ne True.intro⟩) (Fits.t (nofix_ne True.intro) Fits.nil)) (fa_cons (fe_ref 0) (fa_cons (fe_wide (fe_len (by exact rfl) B.len (fe_var 1))) fa_nil)))) (RetK.own rfl (RetK.oth rfl RetK.nil))))
abbrev s_L_shuffled : Stmt := topS 22
abbrev N_L_shuffled : List Str := ["bag", "items", "turn", "left", "found"]
theorem sc_L_shuffled : FnScope N_L_shuffled ["bag", "items"] (defScope s_L_shuffled) := ⟨rfl, rfl, rfl, by decide +kernel, rfl, by decide +kernel, by decide +kernel⟩
noncomputable def b_L_shuffled : FN.Env → Option Fl :=
  (sSeq (sPar 3 4 (aCons (f1 (.t (.v false)) dList (fVar 1)) (aCons (fLst aNil) aNil)))
  (sSeq (sFor (iRg1 (.t (.v false)) (f1 (.r 3) dLen (fRef 3))) (gNm 2)
  (sDrop (fMt 4 oApp (fMt 3 oPopAt (fCall [.r 0, .t (.v true)] (noErr m_L_take) (aCons (fRef 0) (aCons (f1 (.r 3) dLen (fRef 3)) aNil)))))))
  (sRet (f1 (.r 4) dTuple (fRef 4)))))
noncomputable def m_L_shuffled : M D := runF [(.lst (.v true)), (.v false)] (.v false) 3 b_L_shuffled
theorem ok_L_shuffled (B : Bt mg) (a : At K mg "_law_shuffled" s_L_shuffled ["bag", "items"]) (G_L_take : Kn P w K mg base CX0 1 "_law_take" ["bag", "many"] (spF K mg [(.lst (.v true)), (.v true)] (.v false) (noErr m_L_take))) : Kn P w K mg base CX0 2 "_law_shuffled" ["bag", "items"] (spF K mg [(.lst (.v true)), (.v false)] (.v false) (noErr m_L_shuffled)) := by
  refine fn_ok0 (κl := [(.v false), (.lst (.v false)), (.lst (.v false))]) a sc_L_shuffled rfl ⟨True.intro, True.intro, True.intro⟩ ⟨True.intro, True.intro, True.intro, True.intro⟩ rfl fun f cdv A outer s H vs E hv hr => ?_
  match vs, hv with
  | [v0, v1], _ =>
  refine ⟨[.fix v0 (.lst (.v true)), (.v false), (.v false), (.lst (.v false)), (.lst (.v false))], (RetK.own rfl (RetK.oth rfl RetK.nil)), ?_⟩
  show FSs _ _ _ [.fix v0 (.lst (.v true)), (.v false), (.v false), (.lst (.v false)), (.lst (.v false))] _ _ _
  exact (fss_cons (fs_parK (i := 3) (j := 4) rfl sc_L_shuffled.nd (fa_cons (fe_list (kd := (.lst (.v false))) rfl (by exact rfl) B.list (fe_var 1)) (fa_cons (fe_lst (k := false) (kd := (.lst (.v false))) fa_nil) fa_nil)))
    (fss_cons (fs_for PassesOwn.never rfl (fi_range1 (by exact rfl) B.range (fe_len (by exact rfl) B.len (fe_ref 3))) (fg_nameK (i := 2) sc_L_shuffled.nd)
    (fss_one (fs_expr (fe_append (i := 4) rfl (fe_ref 4) (fe_popAt (i := 3) rfl (fe_ref 3) (fe_fn G_L_take (hr.mono (by decide)) (Fits.r (by first | exact .inl ⟨rfl, nofix_ne True.intro⟩ | exact .inr ⟨_, rfl, nofix_ne True.intro⟩) (Fits.t (nofix_ne True.intro) Fits.nil)) (fa_cons (fe_ref 0) (fa_cons (fe_wide (fe_len (by exact rfl) B.len (fe_ref 3))) fa_nil))))))))
    (fss_one (fs_ret (κn := _) (fe_tuple (by exact rfl) B.tuple (fe_ref 4)) (RetK.own rfl (RetK.oth rfl RetK.nil))))))
abbrev s_L_same : Stmt := topS 23
abbrev N_L_same : List Str := ["got", "due", "one", "other"]
theorem sc_L_same : FnScope N_L_same ["got", "due"] (defScope s_L_same) := ⟨rfl, rfl, rfl, by decide +kernel, rfl, by decide +kernel, by decide +kernel⟩
noncomputable def b_L_same (rec : M D) : FN.Env → Option Fl :=
  (sSeq (sIf (fTru (.t (.v true)) (f1b (.t (.v true)) (fun d => isTuple d || isList d) (fVar 1)))
  (sSeq (sIf (tOrF (fTst (f2 (.t (.v true)) (.t (.v true)) dNe (f1b (.t (.v true)) isTuple (fVar 1)) (f1b (.t (.v true)) isTuple (fVar 0)))) (fTst (f2 (.t (.v true)) (.t (.v true)) dNe (f1b (.t (.v true)) isList (fVar 1)) (f1b (.t (.v true)) isList (fVar 0)))))
  (sRet (fC (.bool false)))
  sNx)
  (sRet (fAnd (f2 (.t (.v true)) (.t (.v true)) dEq (f1 (.t (.v true)) dLen (fVar 0)) (f1 (.t (.v true)) dLen (fVar 1))) (f1 (.t (.v true)) dAll (fLc [2, 3] (iZip (fVar 0) (fVar 1)) (gTp (gsCons (gNm 2) (gsCons (gNm 3) gsNil))) tYesF (fCall [.t (.v true), .t (.v true)] (noErr rec) (aCons (fVar 2) (aCons (fVar 3) aNil))))))))
  sNx)
  (sSeq (sIf (tOrF (fTst (f2 (.t (.v true)) (.t (.v true)) dIs (fVar 1) (fC .none))) (fTru (.t (.v true)) (f1b (.t (.v true)) isBool (fVar 1))))
  (sRet (fIf (fTst (f2 (.t (.v true)) (.t (.v true)) dIs (fVar 1) (fC .none))) (f2 (.t (.v true)) (.t (.v true)) dIs (fVar 0) (fC .none)) (fAnd (f1b (.t (.v true)) isBool (fVar 0)) (f2 (.t (.v true)) (.t (.v true)) dEq (fVar 0) (fVar 1)))))
  sNx)
  (sSeq (sIf (tOrF (fTru (.t (.v true)) (f1b (.t (.v true)) isBool (fVar 0))) (fTst (f2 (.t (.v true)) (.t (.v true)) dNe (f1b (.t (.v true)) isInt (fVar 1)) (f1b (.t (.v true)) isInt (fVar 0)))))
  (sRet (fC (.bool false)))
  sNx)
  (sRet (fAnd (f2 (.t (.v true)) (.t (.v true)) dEq (f1b (.t (.v true)) isStr (fVar 1)) (f1b (.t (.v true)) isStr (fVar 0))) (f2 (.t (.v true)) (.t (.v true)) dEq (fVar 0) (fVar 1)))))))
noncomputable def m_L_same : Nat → M D
  | 0 => fun _ => none
  | n + 1 => runF [(.v true), (.v true)] (.v true) 2 (b_L_same (m_L_same n))
theorem ok_L_same (B : Bt mg) (a : At K mg "_law_same" s_L_same ["got", "due"])  : ∀ n : Nat, Kn P w K mg base CX0 (1 + n) "_law_same" ["got", "due"] (spF K mg [(.v true), (.v true)] (.v true) (noErr (m_L_same n))) := by
  intro n
  induction n with
  | zero => exact kn_none a fun _ => rfl
  | succ n ih =>
  show Kn P w K mg base CX0 ((1 + n) + 1) "_law_same" ["got", "due"] (spF K mg [(.v true), (.v true)] (.v true) (noErr (runF [(.v true), (.v true)] (.v true) 2 (b_L_same (m_L_same n)))))
  refine fn_ok0 (κl := [(.v true), (.v true)]) a sc_L_same rfl ⟨True.intro, True.intro, True.intro⟩ ⟨True.intro, True.intro, True.intro⟩ rfl fun f cdv A outer s H vs E hv hr => ?_
  match vs, hv with
  | [v0, v1], _ =>
  refine ⟨[(.v true), (.v true), (.v true), (.v true)], (RetK.oth rfl (RetK.oth rfl RetK.nil)), ?_⟩
  show FSs _ _ _ [(.v true), (.v true), (.v true), (.v true)] _ _ _
  exact (fss_cons (fs_if (ft_tru (fe_isi2 isi_tuple isi_list (by exact rfl) B.isinstance (fe_var 1) (cls1 (by exact rfl) B.tuple (by decide +kernel)) (cls1 (by exact rfl) B.list (by decide +kernel))))
    (fss_cons (fs_if (ft_w (fw_or (ft_cmp (op_neD hr.units) s_ne (fe_isi isi_tuple (by exact rfl) B.isinstance (fe_var 1) (cls1 (by exact rfl) B.tuple (by decide +kernel))) (fe_isi isi_tuple (by exact rfl) B.isinstance (fe_var 0) (cls1 (by exact rfl) B.tuple (by decide +kernel))) (nomark _)) (fw_or1 (ft_cmp (op_neD hr.units) s_ne (fe_isi isi_list (by exact rfl) B.isinstance (fe_var 1) (cls1 (by exact rfl) B.list (by decide +kernel))) (fe_isi isi_list (by exact rfl) B.isinstance (fe_var 0) (cls1 (by exact rfl) B.list (by decide +kernel))) (nomark _)))))
    (fss_one (fs_ret (κn := _) fe_bl (RetK.oth rfl (RetK.oth rfl RetK.nil))))
    fss_nil)
    (fss_one (fs_ret (κn := _) (fe_and (fe_cmp (op_eqD hr.units) s_eq (fe_len (by exact rfl) B.len (fe_var 0)) (fe_len (by exact rfl) B.len (fe_var 1)) (nomark _)) (fe_one (fe_all rfl (by exact rfl) B.all (fe_lc (kd := (.v _)) (own := [("one", 2), ("other", 3)]) (sl := [2, 3]) rfl rfl sc_L_same.nd (fi_zip (by exact rfl) B.zip (fe_var 0) (fe_var 1)) (blkOk_by (N := N_L_same) (sc := defScope s_L_same) (by decide +kernel)) (by repeat (first | exact True.intro | refine And.intro True.intro ?_)) (by decide) (fun _ _ _ _ _ => (fg_tup rfl (gs_lenS (gs_lenS gs_len0)) (fgs_cons (fg_nameK (i := 2) sc_L_same.nd) (fgs_cons (fg_nameK (i := 3) sc_L_same.nd) fgs_nil)))) (fun _ _ _ _ _ => fts_nil) (fun _ _ _ _ _ => (fe_fn ih (hr.mono (by omega)) (Fits.t (nofix_ne True.intro) (Fits.t (nofix_ne True.intro) Fits.nil)) (fa_cons (fe_var 2) (fa_cons (fe_var 3) fa_nil)))))))) (RetK.oth rfl (RetK.oth rfl RetK.nil)))))
    fss_nil)
    (fss_cons (fs_if (ft_w (fw_or (ft_cmp op_isA s_is (fe_var 1) fe_non (nomark _)) (fw_or1 (ft_tru (fe_isi isi_bool (by exact rfl) B.isinstance (fe_var 1) (cls1 (by exact rfl) B.bool (by decide +kernel)))))))
    (fss_one (fs_ret (κn := _) (fe_if (ft_cmp op_isA s_is (fe_var 1) fe_non (nomark _)) (fe_cmp op_isA s_is (fe_var 0) fe_non (nomark _)) (fe_and (fe_isi isi_bool (by exact rfl) B.isinstance (fe_var 0) (cls1 (by exact rfl) B.bool (by decide +kernel))) (fe_one (fe_cmp (op_eqD hr.units) s_eq (fe_var 0) (fe_var 1) (nomark _))))) (RetK.oth rfl (RetK.oth rfl RetK.nil))))
    fss_nil)
    (fss_cons (fs_if (ft_w (fw_or (ft_tru (fe_isi isi_bool (by exact rfl) B.isinstance (fe_var 0) (cls1 (by exact rfl) B.bool (by decide +kernel)))) (fw_or1 (ft_cmp (op_neD hr.units) s_ne (fe_isi isi_int (by exact rfl) B.isinstance (fe_var 1) (cls1 (by exact rfl) B.int (by decide +kernel))) (fe_isi isi_int (by exact rfl) B.isinstance (fe_var 0) (cls1 (by exact rfl) B.int (by decide +kernel))) (nomark _)))))
    (fss_one (fs_ret (κn := _) fe_bl (RetK.oth rfl (RetK.oth rfl RetK.nil))))
    fss_nil)
    (fss_one (fs_ret (κn := _) (fe_and (fe_cmp (op_eqD hr.units) s_eq (fe_isi isi_str (by exact rfl) B.isinstance (fe_var 1) (cls1 (by exact rfl) B.str (by decide +kernel))) (fe_isi isi_str (by exact rfl) B.isinstance (fe_var 0) (cls1 (by exact rfl) B.str (by decide +kernel))) (nomark _)) (fe_one (fe_cmp (op_eqD hr.units) s_eq (fe_var 0) (fe_var 1) (nomark _)))) (RetK.oth rfl (RetK.oth rfl RetK.nil)))))))
abbrev s_L_is_int : Stmt := topS 24
abbrev N_L_is_int : List Str := ["value", "low", "high"]
theorem sc_L_is_int : FnScope N_L_is_int ["value", "low", "high"] (defScope s_L_is_int) := ⟨rfl, rfl, rfl, by decide +kernel, rfl, by decide +kernel, by decide +kernel⟩
noncomputable def b_L_is_int : FN.Env → Option Fl :=
  (sRet (fAnd (f1b (.t (.v true)) isInt (fVar 0)) (fAnd (fNot (f1b (.t (.v true)) isBool (fVar 0))) (fCh (.t (.v true)) (.t (.v true)) (.t (.v true)) dLe dLe (fVar 1) (fVar 0) (fVar 2)))))
noncomputable def m_L_is_int : M D := runF [(.v true), (.v true), (.v true)] (.v true) 0 b_L_is_int
theorem ok_L_is_int (B : Bt mg) (a : At K mg "_law_is_int" s_L_is_int ["value", "low", "high"])  : Kn P w K mg base CX0 1 "_law_is_int" ["value", "low", "high"] (spF K mg [(.v true), (.v true), (.v true)] (.v true) (noErr m_L_is_int)) := by
  refine fn_ok0 (κl := []) a sc_L_is_int rfl ⟨True.intro, True.intro, True.intro, True.intro⟩ True.intro rfl fun f cdv A outer s H vs E hv hr => ?_
  match vs, hv with
  | [v0, v1, v2], _ =>
  refine ⟨[(.v true), (.v true), (.v true)], (RetK.oth rfl (RetK.oth rfl (RetK.oth rfl RetK.nil))), ?_⟩
  show FSs _ _ _ [(.v true), (.v true), (.v true)] _ _ _
  exact (fss_one (fs_ret (κn := _) (fe_and (fe_isi isi_int (by exact rfl) B.isinstance (fe_var 0) (cls1 (by exact rfl) B.int (by decide +kernel))) (fe_and (fe_not (k := true) (fe_isi isi_bool (by exact rfl) B.isinstance (fe_var 0) (cls1 (by exact rfl) B.bool (by decide +kernel)))) (fe_one (fe_ch op_le s_le op_le s_le (fe_var 1) (fe_var 0) (fe_var 2))))) (RetK.oth rfl (RetK.oth rfl (RetK.oth rfl RetK.nil)))))
abbrev s_L_odd : Stmt := topS 25
abbrev N_L_odd : List Str := ["bag", "odd"]
theorem sc_L_odd : FnScope N_L_odd ["bag"] (defScope s_L_odd) := ⟨rfl, rfl, rfl, by decide +kernel, rfl, by decide +kernel, by decide +kernel⟩
noncomputable def b_L_odd : FN.Env → Option Fl :=
  (sSeq (sSet 1 (fLst (aCons (fC .none) (aCons (fC (.bool true)) (aCons (fC (.bool false)) (aCons (f1 (.t (.v false)) dNeg (fC (.int 1))) (aCons (f2 (.t (.v false)) (.t (.v false)) dPow (fC (.int 10)) (fC (.int 40))) (aCons (fC (.str ("0" : Str))) (aCons (fC (.str ("" : Str))) (aCons (fTup aNil) (aCons (fLst aNil) (aCons (fTup (aCons (fC (.int 0)) aNil)) (aCons (fTup (aCons (fTup aNil) aNil)) (aCons (fTup (aCons (fC .none) aNil)) (aCons (fC (.str ("x" : Str))) (aCons (fTup (aCons (fC (.bool true)) (aCons (fC (.int 1)) aNil))) (aCons (fC (.int 1)) aNil)))))))))))))))))
  (sRet (fCall [.r 0, .t (.v false)] (noErr m_L_one_of) (aCons (fRef 0) (aCons (f2 (.t (.v false)) (.t (.v false)) dAdd (fVar 1) (fLst (aCons (fTup (aCons (fTup (aCons (fC (.int 0)) (aCons (fC (.int 1)) aNil))) aNil)) (aCons (fLst (aCons (fTup (aCons (fC (.int 0)) (aCons (fC (.int 1)) aNil))) aNil)) aNil)))) aNil)))))
noncomputable def m_L_odd : M D := runF [(.lst (.v true))] (.v false) 1 b_L_odd
theorem ok_L_odd (B : Bt mg) (a : At K mg "_law_odd" s_L_odd ["bag"]) (G_L_one_of : Kn P w K mg base CX0 2 "_law_one_of" ["bag", "items"] (spF K mg [(.lst (.v true)), (.v false)] (.v false) (noErr m_L_one_of))) : Kn P w K mg base CX0 3 "_law_odd" ["bag"] (spF K mg [(.lst (.v true))] (.v false) (noErr m_L_odd)) := by
  refine fn_ok0 (κl := [(.v false)]) a sc_L_odd rfl ⟨True.intro, True.intro⟩ ⟨True.intro, True.intro⟩ rfl fun f cdv A outer s H vs E hv hr => ?_
  match vs, hv with
  | [v0], _ =>
  refine ⟨[.fix v0 (.lst (.v true)), (.v false)], (RetK.own rfl RetK.nil), ?_⟩
  show FSs _ _ _ [.fix v0 (.lst (.v true)), (.v false)] _ _ _
  exact (fss_cons (fs_setK (i := 1) (fe_lst (k := false) (kd := (.v _)) (fa_cons fe_non (fa_cons fe_bl (fa_cons fe_bl (fa_cons (fe_neg fe_int) (fa_cons (fe_op op_pow s_pow fe_int fe_int) (fa_cons fe_str (fa_cons fe_str (fa_cons (fe_tup (k := false) fa_nil) (fa_cons (fe_lst (k := false) (kd := (.v _)) fa_nil) (fa_cons (fe_tup (k := false) (fa_cons fe_int fa_nil)) (fa_cons (fe_tup (k := false) (fa_cons (fe_tup (k := false) fa_nil) fa_nil)) (fa_cons (fe_tup (k := false) (fa_cons fe_non fa_nil)) (fa_cons fe_str (fa_cons (fe_tup (k := false) (fa_cons fe_bl (fa_cons fe_int fa_nil))) (fa_cons fe_int fa_nil)))))))))))))))) sc_L_odd.nd)
    (fss_one (fs_ret (κn := _) (fe_fn G_L_one_of (hr.mono (by decide)) (Fits.r (by first | exact .inl ⟨rfl, nofix_ne True.intro⟩ | exact .inr ⟨_, rfl, nofix_ne True.intro⟩) (Fits.t (nofix_ne True.intro) Fits.nil)) (fa_cons (fe_ref 0) (fa_cons (fe_add (fe_var 1) (fe_lst (k := false) (kd := (.v _)) (fa_cons (fe_tup (k := false) (fa_cons (fe_tup (k := false) (fa_cons fe_int (fa_cons fe_int fa_nil))) fa_nil)) (fa_cons (fe_lst (k := false) (kd := (.v _)) (fa_cons (fe_tup (k := false) (fa_cons fe_int (fa_cons fe_int fa_nil))) fa_nil)) fa_nil)))) fa_nil))) (RetK.own rfl RetK.nil))))
abbrev s_L_put : Stmt := topS 26
abbrev N_L_put : List Str := ["items", "at", "item"]
theorem sc_L_put : FnScope N_L_put ["items", "at", "item"] (defScope s_L_put) := ⟨rfl, rfl, rfl, by decide +kernel, rfl, by decide +kernel, by decide +kernel⟩
noncomputable def b_L_put : FN.Env → Option Fl :=
  (sRet (f2 (.t (.v false)) (.t (.v false)) dAdd (f2 (.t (.v false)) (.t (.v false)) dAdd (f3 (.t (.v false)) (fVar 0) oNone (oSome (fVar 1))) (fTup (aCons (fVar 2) aNil))) (f3 (.t (.v false)) (fVar 0) (oSome (f2 (.t (.v false)) (.t (.v false)) dAdd (fVar 1) (fC (.int 1)))) oNone)))
noncomputable def m_L_put : M D := runF [(.v false), (.v false), (.v false)] (.v false) 0 b_L_put
theorem ok_L_put (B : Bt mg) (a : At K mg "_law_put" s_L_put ["items", "at", "item"])  : Kn P w K mg base CX0 1 "_law_put" ["items", "at", "item"] (spF K mg [(.v false), (.v false), (.v false)] (.v false) (noErr m_L_put)) := by
  refine fn_ok0 (κl := []) a sc_L_put rfl ⟨True.intro, True.intro, True.intro, True.intro⟩ True.intro rfl fun f cdv A outer s H vs E hv hr => ?_
  match vs, hv with
  | [v0, v1, v2], _ =>
  refine ⟨[(.v false), (.v false), (.v false)], (RetK.oth rfl (RetK.oth rfl (RetK.oth rfl RetK.nil))), ?_⟩
  show FSs _ _ _ [(.v false), (.v false), (.v false)] _ _ _
  exact (fss_one (fs_ret (κn := _) (fe_add (fe_add (fe_sl (fe_var 0) fo_none (fo_some (k := false) (fe_var 1))) (fe_tup (k := false) (fa_cons (fe_var 2) fa_nil))) (fe_sl (fe_var 0) (fo_some (k := false) (fe_add (fe_var 1) fe_int)) fo_none)) (RetK.oth rfl (RetK.oth rfl (RetK.oth rfl RetK.nil)))))
abbrev s_L_bent : Stmt := topS 27
abbrev N_L_bent : List Str := ["bag", "value", "at", "to", "way", "rows"]
theorem sc_L_bent : FnScope N_L_bent ["bag", "value"] (defScope s_L_bent) := ⟨rfl, rfl, rfl, by decide +kernel, rfl, by decide +kernel, by decide +kernel⟩
noncomputable def b_L_bent (rec : M D) : FN.Env → Option Fl :=
  (sSeq (sIf (tNotF (fTru (.t (.v false)) (f1b (.t (.v false)) isTuple (fVar 1))))
  (sRet (fVar 1))
  sNx)
  (sSeq (sPar3 2 3 4 (aCons (fCall [.r 0, .t (.v true)] (noErr m_L_take) (aCons (fRef 0) (aCons (f2 (.t (.v false)) (.t (.v false)) dAdd (f1 (.t (.v false)) dLen (fVar 1)) (fC (.int 1))) aNil))) (aCons (fCall [.r 0, .t (.v true)] (noErr m_L_take) (aCons (fRef 0) (aCons (f2 (.t (.v false)) (.t (.v false)) dAdd (f1 (.t (.v false)) dLen (fVar 1)) (fC (.int 1))) aNil))) (aCons (fCall [.r 0, .t (.v true)] (noErr m_L_take) (aCons (fRef 0) (aCons (fC (.int 9)) aNil))) aNil))))
  (sSeq (sIf (tOrF (fTst (f2 (.t (.v false)) (.t (.v false)) dLt (fVar 4) (fC (.int 4)))) (fTst (f2 (.t (.v false)) (.t (.v false)) dEq (fVar 1) (fTup aNil))))
  (sSeq (sSet 5 (fLst (aCons (f2 (.t (.v false)) (.t (.v false)) dAdd (f3 (.t (.v false)) (fVar 1) oNone (oSome (fVar 2))) (f3 (.t (.v false)) (fVar 1) (oSome (f2 (.t (.v false)) (.t (.v false)) dAdd (fVar 2) (fC (.int 1)))) oNone)) (aCons (f2 (.t (.v false)) (.t (.v false)) dAdd (f2 (.t (.v false)) (.t (.v false)) dAdd (f3 (.t (.v false)) (fVar 1) oNone (oSome (fVar 2))) (f3 (.t (.v false)) (fVar 1) (oSome (fVar 2)) (oSome (f2 (.t (.v false)) (.t (.v false)) dAdd (fVar 2) (fC (.int 1)))))) (f3 (.t (.v false)) (fVar 1) (oSome (fVar 2)) oNone)) (aCons (f1 (.t (.v false)) dRev (fVar 1)) aNil)))))
  (sRet (f2 (.t (.v false)) (.t (.v false)) dIx (f2 (.t (.v false)) (.t (.v false)) dAdd (fVar 5) (fLst (aCons (f2 (.t (.v false)) (.t (.v false)) dAdd (fVar 1) (fTup (aCons (fCall [.r 0] (noErr m_L_odd) (aCons (fRef 0) aNil)) aNil))) aNil))) (f2 (.t (.v false)) (.t (.v false)) dMod (f1 (.t (.v false)) dInt (fVar 4)) (fC (.int 4))))))
  sNx)
  (sSeq (sPar 2 3 (aCons (f2 (.t (.v false)) (.t (.v false)) dMod (f1 (.t (.v false)) dInt (fVar 2)) (f1 (.t (.v false)) dLen (fVar 1))) (aCons (f2 (.t (.v false)) (.t (.v false)) dMod (f1 (.t (.v false)) dInt (fVar 3)) (f1 (.t (.v false)) dLen (fVar 1))) aNil)))
  (sSeq (sIf (fTst (f2 (.t (.v false)) (.t (.v false)) dEq (fVar 4) (fC (.int 4))))
  (sRet (f1 (.t (.v false)) dList (fVar 1)))
  sNx)
  (sSeq (sIf (fTst (f2 (.t (.v false)) (.t (.v false)) dEq (fVar 4) (fC (.int 5))))
  (sRet (fCall [.t (.v false), .t (.v false), .t (.v false)] (noErr m_L_put) (aCons (fVar 1) (aCons (fVar 2) (aCons (fCall [.r 0] (noErr m_L_odd) (aCons (fRef 0) aNil)) aNil)))))
  sNx)
  (sSeq (sIf (fTst (f2 (.t (.v false)) (.t (.v false)) dEq (fVar 4) (fC (.int 6))))
  (sRet (fCall [.t (.v false), .t (.v false), .t (.v false)] (noErr m_L_put) (aCons (fCall [.t (.v false), .t (.v false), .t (.v false)] (noErr m_L_put) (aCons (fVar 1) (aCons (fVar 2) (aCons (f2 (.t (.v false)) (.t (.v false)) dIx (fVar 1) (fVar 3)) aNil)))) (aCons (fVar 3) (aCons (f2 (.t (.v false)) (.t (.v false)) dIx (fVar 1) (fVar 2)) aNil)))))
  sNx)
  (sSeq (sIf (fTru (.t (.v false)) (f1b (.t (.v false)) isTuple (f2 (.t (.v false)) (.t (.v false)) dIx (fVar 1) (fVar 2))))
  (sRet (fCall [.t (.v false), .t (.v false), .t (.v false)] (noErr m_L_put) (aCons (fVar 1) (aCons (fVar 2) (aCons (fCall [.r 0, .t (.v false)] (noErr rec) (aCons (fRef 0) (aCons (f2 (.t (.v false)) (.t (.v false)) dIx (fVar 1) (fVar 2)) aNil))) aNil)))))
  sNx)
  (sRet (fCall [.t (.v false), .t (.v false), .t (.v false)] (noErr m_L_put) (aCons (fVar 1) (aCons (fVar 2) (aCons (fCall [.r 0, .t (.v true)] (noErr m_L_take) (aCons (fRef 0) (aCons (fC (.int 9)) aNil))) aNil)))))))))))))
noncomputable def m_L_bent : Nat → M D
  | 0 => fun _ => none
  | n + 1 => runF [(.lst (.v true)), (.v false)] (.v false) 4 (b_L_bent (m_L_bent n))
theorem ok_L_bent (B : Bt mg) (a : At K mg "_law_bent" s_L_bent ["bag", "value"]) (G_L_odd : Kn P w K mg base CX0 3 "_law_odd" ["bag"] (spF K mg [(.lst (.v true))] (.v false) (noErr m_L_odd))) (G_L_put : Kn P w K mg base CX0 1 "_law_put" ["items", "at", "item"] (spF K mg [(.v false), (.v false), (.v false)] (.v false) (noErr m_L_put))) (G_L_take : Kn P w K mg base CX0 1 "_law_take" ["bag", "many"] (spF K mg [(.lst (.v true)), (.v true)] (.v false) (noErr m_L_take))) : ∀ n : Nat, Kn P w K mg base CX0 (4 + n) "_law_bent" ["bag", "value"] (spF K mg [(.lst (.v true)), (.v false)] (.v false) (noErr (m_L_bent n))) := by
  intro n
  induction n with
  | zero => exact kn_none a fun _ => rfl
  | succ n ih =>
  show Kn P w K mg base CX0 ((4 + n) + 1) "_law_bent" ["bag", "value"] (spF K mg [(.lst (.v true)), (.v false)] (.v false) (noErr (runF [(.lst (.v true)), (.v false)] (.v false) 4 (b_L_bent (m_L_bent n)))))
  refine fn_ok0 (κl := [(.v false), (.v false), (.v false), (.v false)]) a sc_L_bent rfl ⟨True.intro, True.intro, True.intro⟩ ⟨True.intro, True.intro, True.intro, True.intro, True.intro⟩ rfl fun f cdv A outer s H vs E hv hr => ?_
  match vs, hv with
  | [v0, v1], _ =>
  refine ⟨[.fix v0 (.lst (.v true)), (.v false), (.v false), (.v false), (.v false), (.v false)], (RetK.own rfl (RetK.oth rfl RetK.nil)), ?_⟩
  show FSs _ _ _ [.fix v0 (.lst (.v true)), (.v false), (.v false), (.v false), (.v false), (.v false)] _ _ _
  exact (fss_cons (fs_if (ft_not (ft_tru (fe_isi isi_tuple (by exact rfl) B.isinstance (fe_var 1) (cls1 (by exact rfl) B.tuple (by decide +kernel)))))
    (fss_one (fs_ret (κn := _) (fe_var 1) (RetK.own rfl (RetK.oth rfl RetK.nil))))
    fss_nil)
    (fss_cons (fs_parK3 (i := 2) (j := 3) (l := 4) rfl sc_L_bent.nd (fa_cons (fe_fn G_L_take (hr.mono (by omega)) (Fits.r (by first | exact .inl ⟨rfl, nofix_ne True.intro⟩ | exact .inr ⟨_, rfl, nofix_ne True.intro⟩) (Fits.t (nofix_ne True.intro) Fits.nil)) (fa_cons (fe_ref 0) (fa_cons (fe_wide (fe_add (fe_len (by exact rfl) B.len (fe_var 1)) fe_int)) fa_nil))) (fa_cons (fe_fn G_L_take (hr.mono (by omega)) (Fits.r (by first | exact .inl ⟨rfl, nofix_ne True.intro⟩ | exact .inr ⟨_, rfl, nofix_ne True.intro⟩) (Fits.t (nofix_ne True.intro) Fits.nil)) (fa_cons (fe_ref 0) (fa_cons (fe_wide (fe_add (fe_len (by exact rfl) B.len (fe_var 1)) fe_int)) fa_nil))) (fa_cons (fe_fn G_L_take (hr.mono (by omega)) (Fits.r (by first | exact .inl ⟨rfl, nofix_ne True.intro⟩ | exact .inr ⟨_, rfl, nofix_ne True.intro⟩) (Fits.t (nofix_ne True.intro) Fits.nil)) (fa_cons (fe_ref 0) (fa_cons (fe_wide fe_int) fa_nil))) fa_nil))))
    (fss_cons (fs_if (ft_w (fw_or (ft_cmp op_lt s_lt (fe_var 4) fe_int (nomark _)) (fw_or1 (ft_cmp (op_eqD hr.units) s_eq (fe_var 1) (fe_tup (k := false) fa_nil) (nomark _)))))
    (fss_cons (fs_setK (i := 5) (fe_lst (k := false) (kd := (.v _)) (fa_cons (fe_add (fe_sl (fe_var 1) fo_none (fo_some (k := false) (fe_var 2))) (fe_sl (fe_var 1) (fo_some (k := false) (fe_add (fe_var 2) fe_int)) fo_none)) (fa_cons (fe_add (fe_add (fe_sl (fe_var 1) fo_none (fo_some (k := false) (fe_var 2))) (fe_sl (fe_var 1) (fo_some (k := false) (fe_var 2)) (fo_some (k := false) (fe_add (fe_var 2) fe_int)))) (fe_sl (fe_var 1) (fo_some (k := false) (fe_var 2)) fo_none)) (fa_cons (fe_rev (fe_var 1)) fa_nil)))) sc_L_bent.nd)
    (fss_one (fs_ret (κn := _) (fe_ix (fe_add (fe_var 5) (fe_lst (k := false) (kd := (.v _)) (fa_cons (fe_add (fe_var 1) (fe_tup (k := false) (fa_cons (fe_fn G_L_odd (hr.mono (by omega)) (Fits.r (by first | exact .inl ⟨rfl, nofix_ne True.intro⟩ | exact .inr ⟨_, rfl, nofix_ne True.intro⟩) Fits.nil) (fa_cons (fe_ref 0) fa_nil)) fa_nil))) fa_nil))) (fe_op op_mod s_mod (fe_int1 (by exact rfl) B.int (fe_var 4)) fe_int)) (RetK.own rfl (RetK.oth rfl RetK.nil)))))
    fss_nil)
    (fss_cons (fs_parK (i := 2) (j := 3) rfl sc_L_bent.nd (fa_cons (fe_op op_mod s_mod (fe_int1 (by exact rfl) B.int (fe_var 2)) (fe_len (by exact rfl) B.len (fe_var 1))) (fa_cons (fe_op op_mod s_mod (fe_int1 (by exact rfl) B.int (fe_var 3)) (fe_len (by exact rfl) B.len (fe_var 1))) fa_nil)))
    (fss_cons (fs_if (ft_cmp (op_eqD hr.units) s_eq (fe_var 4) fe_int (nomark _))
    (fss_one (fs_ret (κn := _) (fe_list (kd := (.v _)) rfl (by exact rfl) B.list (fe_var 1)) (RetK.own rfl (RetK.oth rfl RetK.nil))))
    fss_nil)
    (fss_cons (fs_if (ft_cmp (op_eqD hr.units) s_eq (fe_var 4) fe_int (nomark _))
    (fss_one (fs_ret (κn := _) (fe_fn G_L_put (hr.mono (by omega)) (Fits.t (nofix_ne True.intro) (Fits.t (nofix_ne True.intro) (Fits.t (nofix_ne True.intro) Fits.nil))) (fa_cons (fe_var 1) (fa_cons (fe_var 2) (fa_cons (fe_fn G_L_odd (hr.mono (by omega)) (Fits.r (by first | exact .inl ⟨rfl, nofix_ne True.intro⟩ | exact .inr ⟨_, rfl, nofix_ne True.intro⟩) Fits.nil) (fa_cons (fe_ref 0) fa_nil)) fa_nil)))) (RetK.own rfl (RetK.oth rfl RetK.nil))))
    fss_nil)
    (fss_cons (fs_if (ft_cmp (op_eqD hr.units) s_eq (fe_var 4) fe_int (nomark _))
    (fss_one (fs_ret (κn := _) (fe_fn G_L_put (hr.mono (by omega)) (Fits.t (nofix_ne True.intro) (Fits.t (nofix_ne True.intro) (Fits.t (nofix_ne True.intro) Fits.nil))) (fa_cons (fe_fn G_L_put (hr.mono (by omega)) (Fits.t (nofix_ne True.intro) (Fits.t (nofix_ne True.intro) (Fits.t (nofix_ne True.intro) Fits.nil))) (fa_cons (fe_var 1) (fa_cons (fe_var 2) (fa_cons (fe_ix (fe_var 1) (fe_var 3)) fa_nil)))) (fa_cons (fe_var 3) (fa_cons (fe_ix (fe_var 1) (fe_var 2)) fa_nil)))) (RetK.own rfl (RetK.oth rfl RetK.nil))))
    fss_nil)
    (fss_cons (fs_if (ft_tru (fe_isi isi_tuple (by exact rfl) B.isinstance (fe_ix (fe_var 1) (fe_var 2)) (cls1 (by exact rfl) B.tuple (by decide +kernel))))
    (fss_one (fs_ret (κn := _) (fe_fn G_L_put (hr.mono (by omega)) (Fits.t (nofix_ne True.intro) (Fits.t (nofix_ne True.intro) (Fits.t (nofix_ne True.intro) Fits.nil))) (fa_cons (fe_var 1) (fa_cons (fe_var 2) (fa_cons (fe_fn ih (hr.mono (by omega)) (Fits.r (by first | exact .inl ⟨rfl, nofix_ne True.intro⟩ | exact .inr ⟨_, rfl, nofix_ne True.intro⟩) (Fits.t (nofix_ne True.intro) Fits.nil)) (fa_cons (fe_ref 0) (fa_cons (fe_ix (fe_var 1) (fe_var 2)) fa_nil))) fa_nil)))) (RetK.own rfl (RetK.oth rfl RetK.nil))))
    fss_nil)
    (fss_one (fs_ret (κn := _) (fe_fn G_L_put (hr.mono (by omega)) (Fits.t (nofix_ne True.intro) (Fits.t (nofix_ne True.intro) (Fits.t (nofix_ne True.intro) Fits.nil))) (fa_cons (fe_var 1) (fa_cons (fe_var 2) (fa_cons (fe_fn G_L_take (hr.mono (by omega)) (Fits.r (by first | exact .inl ⟨rfl, nofix_ne True.intro⟩ | exact .inr ⟨_, rfl, nofix_ne True.intro⟩) (Fits.t (nofix_ne True.intro) Fits.nil)) (fa_cons (fe_ref 0) (fa_cons (fe_wide fe_int) fa_nil))) fa_nil)))) (RetK.own rfl (RetK.oth rfl RetK.nil))))))))))))
abbrev s_L_is_line : Stmt := topS 28
abbrev N_L_is_line : List Str := ["n", "value", "one"]
theorem sc_L_is_line : FnScope N_L_is_line ["n", "value"] (defScope s_L_is_line) := ⟨rfl, rfl, rfl, by decide +kernel, rfl, by decide +kernel, by decide +kernel⟩
noncomputable def b_L_is_line : FN.Env → Option Fl :=
  (sSeq (sIf (tOrF (tNotF (fTru (.t (.v true)) (f1b (.t (.v true)) isTuple (fVar 1)))) (tOrF (fTst (f2 (.t (.v true)) (.t (.v true)) dNe (f1 (.t (.v true)) dLen (fVar 1)) (fVar 0))) (tNotF (fTru (.t (.v true)) (f1 (.t (.v true)) dAll (fLc [2] (iSeq (fVar 1)) (gNm 2) tYesF (fCall [.t (.v true), .t (.v true), .t (.v true)] (noErr m_L_is_int) (aCons (fVar 2) (aCons (fC (.int 0)) (aCons (f2 (.t (.v true)) (.t (.v true)) dSub (fVar 0) (fC (.int 1))) aNil))))))))))
  (sRet (fC (.bool false)))
  sNx)
  (sRet (f2 (.t (.v true)) (.t (.v true)) dEq (f1 (.t (.v true)) dSorted (fVar 1)) (fLrg (rRg1 (.t (.v true)) (fVar 0))))))
noncomputable def m_L_is_line : M D := runF [(.v true), (.v true)] (.v true) 1 b_L_is_line
theorem ok_L_is_line (B : Bt mg) (a : At K mg "_law_is_line" s_L_is_line ["n", "value"]) (G_L_is_int : Kn P w K mg base CX0 1 "_law_is_int" ["value", "low", "high"] (spF K mg [(.v true), (.v true), (.v true)] (.v true) (noErr m_L_is_int))) : Kn P w K mg base CX0 2 "_law_is_line" ["n", "value"] (spF K mg [(.v true), (.v true)] (.v true) (noErr m_L_is_line)) := by
  refine fn_ok0 (κl := [(.v true)]) a sc_L_is_line rfl ⟨True.intro, True.intro, True.intro⟩ ⟨True.intro, True.intro⟩ rfl fun f cdv A outer s H vs E hv hr => ?_
  match vs, hv with
  | [v0, v1], _ =>
  refine ⟨[(.v true), (.v true), (.v true)], (RetK.oth rfl (RetK.oth rfl RetK.nil)), ?_⟩
  show FSs _ _ _ [(.v true), (.v true), (.v true)] _ _ _
  exact (fss_cons (fs_if (ft_w (fw_or (ft_not (ft_tru (fe_isi isi_tuple (by exact rfl) B.isinstance (fe_var 1) (cls1 (by exact rfl) B.tuple (by decide +kernel))))) (fw_or (ft_cmp (op_neD hr.units) s_ne (fe_len (by exact rfl) B.len (fe_var 1)) (fe_var 0) (nomark _)) (fw_or1 (ft_not (ft_tru (fe_all rfl (by exact rfl) B.all (fe_lc (kd := (.v _)) (own := [("one", 2)]) (sl := [2]) rfl rfl sc_L_is_line.nd (fi_seq (fe_var 1)) (blkOk_by (N := N_L_is_line) (sc := defScope s_L_is_line) (by decide +kernel)) (by repeat (first | exact True.intro | refine And.intro True.intro ?_)) (by decide) (fun _ _ _ _ _ => (fg_nameK (i := 2) sc_L_is_line.nd)) (fun _ _ _ _ _ => fts_nil) (fun _ _ _ _ _ => (fe_fn G_L_is_int (hr.mono (by decide)) (Fits.t (nofix_ne True.intro) (Fits.t (nofix_ne True.intro) (Fits.t (nofix_ne True.intro) Fits.nil))) (fa_cons (fe_var 2) (fa_cons fe_int (fa_cons (fe_op op_sub s_sub (fe_var 0) fe_int) fa_nil)))))))))))))
    (fss_one (fs_ret (κn := _) fe_bl (RetK.oth rfl (RetK.oth rfl RetK.nil))))
    fss_nil)
    (fss_one (fs_ret (κn := _) (fe_cmp (op_eqD hr.units) s_eq (fe_sorted (kd := (.v _)) rfl hr.units (by exact rfl) B.sorted (fe_var 1)) (fe_listRg (kd := (.v _)) rfl rfl (by exact rfl) B.list (frg_1 (by exact rfl) B.range (fe_var 0))) (nomark _)) (RetK.oth rfl (RetK.oth rfl RetK.nil)))))
abbrev s_L_turned : Stmt := topS 29
abbrev N_L_turned : List Str := ["line", "i", "j"]
theorem sc_L_turned : FnScope N_L_turned ["line", "i", "j"] (defScope s_L_turned) := ⟨rfl, rfl, rfl, by decide +kernel, rfl, by decide +kernel, by decide +kernel⟩
noncomputable def b_L_turned : FN.Env → Option Fl :=
  (sRet (f2 (.t (.v false)) (.t (.v false)) dAdd (f2 (.t (.v false)) (.t (.v false)) dAdd (f3 (.t (.v false)) (fVar 0) oNone (oSome (fVar 1))) (f1 (.t (.v false)) dRev (f3 (.t (.v false)) (fVar 0) (oSome (fVar 1)) (oSome (f2 (.t (.v false)) (.t (.v false)) dAdd (fVar 2) (fC (.int 1))))))) (f3 (.t (.v false)) (fVar 0) (oSome (f2 (.t (.v false)) (.t (.v false)) dAdd (fVar 2) (fC (.int 1)))) oNone)))
noncomputable def m_L_turned : M D := runF [(.v false), (.v false), (.v false)] (.v false) 0 b_L_turned
theorem ok_L_turned (B : Bt mg) (a : At K mg "_law_turned" s_L_turned ["line", "i", "j"])  : Kn P w K mg base CX0 1 "_law_turned" ["line", "i", "j"] (spF K mg [(.v false), (.v false), (.v false)] (.v false) (noErr m_L_turned)) := by
  refine fn_ok0 (κl := []) a sc_L_turned rfl ⟨True.intro, True.intro, True.intro, True.intro⟩ True.intro rfl fun f cdv A outer s H vs E hv hr => ?_
  match vs, hv with
  | [v0, v1, v2], _ =>
  refine ⟨[(.v false), (.v false), (.v false)], (RetK.oth rfl (RetK.oth rfl (RetK.oth rfl RetK.nil))), ?_⟩
  show FSs _ _ _ [(.v false), (.v false), (.v false)] _ _ _
  exact (fss_one (fs_ret (κn := _) (fe_add (fe_add (fe_sl (fe_var 0) fo_none (fo_some (k := false) (fe_var 1))) (fe_rev (fe_sl (fe_var 0) (fo_some (k := false) (fe_var 1)) (fo_some (k := false) (fe_add (fe_var 2) fe_int))))) (fe_sl (fe_var 0) (fo_some (k := false) (fe_add (fe_var 2) fe_int)) fo_none)) (RetK.oth rfl (RetK.oth rfl (RetK.oth rfl RetK.nil)))))
abbrev s_L_first : Stmt := topS 30
abbrev N_L_first : List Str := ["one", "other", "places", "i", "known", "level", "later", "line", "j", "behind"]
theorem sc_L_first : FnScope N_L_first ["one", "other"] (defScope s_L_first) := ⟨rfl, rfl, rfl, by decide +kernel, rfl, by decide +kernel, by decide +kernel⟩
noncomputable def b_L_first : FN.Env → Option Fl :=
  (sSeq (sSet 2 (fLst aNil))
  (sSeq (sFor (iRg1 (.t (.v false)) (f1 (.t (.v false)) dLen (fVar 0))) (gNm 3)
  (sDrop (fMt 2 oExt (fLc [8] (iRg2 (.t (.v false)) (.t (.v false)) (f2 (.t (.v false)) (.t (.v false)) dAdd (fVar 3) (fC (.int 1))) (f1 (.t (.v false)) dLen (fVar 0))) (gNm 8) tYesF (fTup (aCons (fVar 3) (aCons (fVar 8) aNil)))))))
  (sSeq (sPar 4 5 (aCons (fDisp true (fVar 0) (fTup aNil)) (aCons (fLst (aCons (fVar 0) aNil)) aNil)))
  (sSeq (sWh (fTst (fDIn true true (.r 4) (fVar 1) (fRef 4)))
  (sSeq (sSet 6 (fLst aNil))
  (sSeq (sFor (iSeq (fVar 5)) (gNm 7)
  (sFor (iSeq (fVar 2)) (gTp (gsCons (gNm 3) (gsCons (gNm 8) gsNil)))
  (sSeq (sSet 9 (fCall [.t (.v false), .t (.v false), .t (.v false)] (noErr m_L_turned) (aCons (fVar 7) (aCons (fVar 3) (aCons (fVar 8) aNil)))))
  (sIf (fTst (fDIn true true (.r 4) (fVar 9) (fRef 4)))
  (sSeq (sDPut true 4 (fVar 9) (f2 (.t (.v false)) (.t (.v false)) dAdd (fDGet true (.r 4) (fRef 4) (fVar 7)) (fTup (aCons (fTup (aCons (fVar 3) (aCons (fVar 8) aNil))) aNil))))
  (sDrop (fMt 6 oApp (fVar 9))))
  sNx))))
  (sSet 5 (fMove 6)))))
  (sRet (fDGet true (.r 4) (fRef 4) (fVar 1)))))))
noncomputable def m_L_first : M D := runF [(.v false), (.v false)] (.v false) 8 b_L_first
theorem ok_L_first (B : Bt mg) (a : At K mg "_law_first" s_L_first ["one", "other"]) (G_L_turned : Kn P w K mg base CX0 1 "_law_turned" ["line", "i", "j"] (spF K mg [(.v false), (.v false), (.v false)] (.v false) (noErr m_L_turned))) : Kn P w K mg base CX0 2 "_law_first" ["one", "other"] (spF K mg [(.v false), (.v false)] (.v false) (noErr m_L_first)) := by
  refine fn_ok0 (κl := [(.lst (.v false)), (.v false), (.dT false), (.v false), (.lst (.v false)), (.v false), (.v false), (.v false)]) a sc_L_first rfl ⟨True.intro, True.intro, True.intro⟩ ⟨True.intro, True.intro, True.intro, True.intro, True.intro, True.intro, True.intro, True.intro, True.intro⟩ rfl fun f cdv A outer s H vs E hv hr => ?_
  match vs, hv with
  | [v0, v1], _ =>
  refine ⟨[(.v false), (.v false), (.lst (.v false)), (.v false), (.dT false), (.v false), (.lst (.v false)), (.v false), (.v false), (.v false)], (RetK.oth rfl (RetK.oth rfl RetK.nil)), ?_⟩
  show FSs _ _ _ [(.v false), (.v false), (.lst (.v false)), (.v false), (.dT false), (.v false), (.lst (.v false)), (.v false), (.v false), (.v false)] _ _ _
  exact (fss_cons (fs_setK (i := 2) (fe_lst (k := false) (kd := (.lst (.v false))) fa_nil) sc_L_first.nd)
    (fss_cons (fs_for PassesOwn.never rfl (fi_range1 (by exact rfl) B.range (fe_len (by exact rfl) B.len (fe_var 0))) (fg_nameK (i := 3) sc_L_first.nd)
    (fss_one (fs_expr (fe_extend (i := 2) rfl (fe_ref 2) (fe_lc (kd := (.v _)) (own := [("j", 8)]) (sl := [8]) rfl rfl sc_L_first.nd (fi_range2 (by exact rfl) B.range (fe_add (fe_var 3) fe_int) (fe_len (by exact rfl) B.len (fe_var 0))) (blkOk_by (N := N_L_first) (sc := defScope s_L_first) (by decide +kernel)) (by repeat (first | exact True.intro | refine And.intro True.intro ?_)) (by decide) (fun _ _ _ _ _ => (fg_nameK (i := 8) sc_L_first.nd)) (fun _ _ _ _ _ => fts_nil) (fun _ _ _ _ _ => (fe_tup (k := false) (fa_cons (fe_var 3) (fa_cons (fe_var 8) fa_nil)))))))))
    (fss_frz 2 rfl rfl (fss_cons (fs_parK (i := 4) (j := 5) rfl sc_L_first.nd (fa_cons (fe_dispT hr.units (fe_var 0) (fe_tup (k := false) fa_nil)) (fa_cons (fe_lst (k := false) (kd := (.v _)) (fa_cons (fe_var 0) fa_nil)) fa_nil)))
    (fss_cons (fs_while PassesOwn.never (ft_dnin (t := true) hr.units (fe_var 1) (fe_ref 4) (by rfl))
    (fss_cons (fs_setK (i := 6) (fe_lst (k := false) (kd := (.lst (.v false))) fa_nil) sc_L_first.nd)
    (fss_cons (fs_for PassesOwn.never rfl (fi_seq (fe_var 5)) (fg_nameK (i := 7) sc_L_first.nd)
    (fss_one (fs_for PassesOwn.never rfl (fi_seq (fe_var 2)) (fg_tup rfl (gs_lenS (gs_lenS gs_len0)) (fgs_cons (fg_nameK (i := 3) sc_L_first.nd) (fgs_cons (fg_nameK (i := 8) sc_L_first.nd) fgs_nil)))
    (fss_cons (fs_setK (i := 9) (fe_fn G_L_turned (hr.mono (by decide)) (Fits.t (nofix_ne True.intro) (Fits.t (nofix_ne True.intro) (Fits.t (nofix_ne True.intro) Fits.nil))) (fa_cons (fe_var 7) (fa_cons (fe_var 3) (fa_cons (fe_var 8) fa_nil)))) sc_L_first.nd)
    (fss_one (fs_if (ft_dnin (t := true) hr.units (fe_var 9) (fe_ref 4) (by rfl))
    (fss_cons (fs_dput (t := true) (i := 4) hr.units (fe_ref 4) (fe_var 9) (fe_add (fe_dget (t := true) hr.units (fe_ref 4) (fe_var 7)) (fe_tup (k := false) (fa_cons (fe_tup (k := false) (fa_cons (fe_var 3) (fa_cons (fe_var 8) fa_nil))) fa_nil))))
    (fss_one (fs_expr (fe_append (i := 6) rfl (fe_ref 6) (fe_var 9)))))
    fss_nil))))))
    (fss_one (fs_setK (i := 5) (fe_move 6) sc_L_first.nd)))))
    (fss_one (fs_ret (κn := _) (fe_dget (t := true) hr.units (fe_ref 4) (fe_var 1)) (RetK.oth rfl (RetK.oth rfl RetK.nil)))))))))
abbrev s_L_error : Stmt := topS 31
abbrev N_L_error : List Str := ["one", "other", "found", "e"]
theorem sc_L_error : FnScope N_L_error ["one", "other"] (defScope s_L_error) := ⟨rfl, rfl, rfl, by decide +kernel, rfl, by decide +kernel, by decide +kernel⟩
noncomputable def b_L_error : FN.Env → Option Fl :=
  (sSeq (sSet 2 (fLst aNil))
  (sSeq (sTry sel_InvalidLine 3
  (sDrop (fCall [.t (.v false), .t (.v false)] m_turns (aCons (fVar 0) (aCons (fVar 1) aNil))))
  (sSet 2 (fLst (aCons (fXv 3) aNil))))
  (sRet (fVar 2))))
noncomputable def m_L_error : M D := runF [(.v false), (.v false)] (.v true) 2 b_L_error
theorem ok_L_error (B : Bt mg) (a : At K mg "_law_error" s_L_error ["one", "other"]) (ER : Er P K mg DE fI C_StandError C_InvalidLine) (G_turns : Kn P w K mg base (L2.CX P w) 6 "turns" ["one", "other"] (spF K mg [(.v false), (.v false)] (.v false) m_turns)) : Kn P w K mg base CX0 7 "_law_error" ["one", "other"] (spF K mg [(.v false), (.v false)] (.v true) (noErr m_L_error)) := by
  refine fn_ok0 (κl := [(.v true), (.v true)]) a sc_L_error rfl ⟨True.intro, True.intro, True.intro⟩ ⟨True.intro, True.intro, True.intro⟩ rfl fun f cdv A outer s H vs E hv hr => ?_
  match vs, hv with
  | [v0, v1], _ =>
  refine ⟨[(.v false), (.v false), (.v true), (.v true)], (RetK.oth rfl (RetK.oth rfl RetK.nil)), ?_⟩
  show FSs _ _ _ [(.v false), (.v false), (.v true), (.v true)] _ _ _
  exact (fss_cons (fs_setK (i := 2) (fe_lst (k := true) (kd := (.v _)) fa_nil) sc_L_error.nd)
    (fss_cons (fs_try (k := (.v true)) (κs := [(.v false), (.v false), (.v true), (.v true)]) (i := 3) (selk_InvalidLine ER) ⟨by exact rfl, by decide, .inl ER.m_InvalidLine⟩ takesF sc_L_error.nd
    (fun _ _ _ tk1 _ => (fss_one (fs_expr (fe_fnX G_turns tk1 (hr.mono (by decide)) (Fits.t (nofix_ne True.intro) (Fits.t (nofix_ne True.intro) Fits.nil)) (fa_cons (fe_var 0) (fa_cons (fe_var 1) fa_nil))))))
    (fun _ _ _ _ _ hz hf => (fss_one (fs_setK (i := 2) (fe_lst (k := true) (kd := (.v _)) (fa_cons (fe_xv (i := 3) hz hf) fa_nil)) sc_L_error.nd))))
    (fss_one (fs_ret (κn := _) (fe_var 2) (RetK.oth rfl (RetK.oth rfl RetK.nil))))))
abbrev s_L_right : Stmt := topS 32
abbrev N_L_right : List Str := ["bag", "n", "one", "other", "bad", "longer", "due"]
theorem sc_L_right : FnScope N_L_right ["bag"] (defScope s_L_right) := ⟨rfl, rfl, rfl, by decide +kernel, rfl, by decide +kernel, by decide +kernel⟩
noncomputable def b_L_right : FN.Env → Option Fl :=
  (sSeq (sSet 1 (fIf (fTst (f2 (.t (.v false)) (.t (.v false)) dGt (fCall [.r 0, .t (.v true)] (noErr m_L_take) (aCons (fRef 0) (aCons (fC (.int 5)) aNil))) (fC (.int 0)))) (f2 (.t (.v false)) (.t (.v false)) dAdd (fC (.int 1)) (fCall [.r 0, .t (.v true)] (noErr m_L_take) (aCons (fRef 0) (aCons (fC (.int 5)) aNil)))) (fC (.int 6))))
  (sSeq (sSet 2 (fCall [.r 0, .t (.v false)] (noErr m_L_shuffled) (aCons (fRef 0) (aCons (fLrg (rRg1 (.t (.v false)) (fVar 1))) aNil))))
  (sSeq (sFor (iSeq (fLst (aCons (fVar 2) (aCons (f1 (.t (.v false)) dRev (fVar 2)) (aCons (fCall [.r 0, .t (.v false)] (noErr m_L_shuffled) (aCons (fRef 0) (aCons (fLrg (rRg1 (.t (.v false)) (fVar 1))) aNil))) aNil))))) (gNm 3)
  (sSeq (sSet 6 (fCall [.t (.v false), .t (.v false)] (noErr m_L_first) (aCons (fVar 2) (aCons (fVar 3) aNil))))
  (sIf (tNotF (fTru (.t (.v true)) (fCall [.t (.v true), .t (.v true)] (noErr (m_L_same 8)) (aCons (fLst (aCons (fCall [.t (.v false), .t (.v false)] m_turns (aCons (fVar 2) (aCons (fVar 3) aNil))) (aCons (fCall [.t (.v false), .t (.v false)] (kwM [1, 0] m_turns) (aCons (fVar 3) (aCons (fVar 2) aNil))) aNil))) (aCons (fLst (aCons (fVar 6) (aCons (fVar 6) aNil))) aNil)))))
  (sRet (fC (.bool false)))
  sNx)))
  (sSeq (sSet 4 (fCall [.r 0, .t (.v false)] (noErr (m_L_bent 2)) (aCons (fRef 0) (aCons (fVar 2) aNil))))
  (sSeq (sIf (tNotF (tAndF (fTru (.t (.v false)) (f1b (.t (.v false)) isTuple (fVar 4))) (tAndF (fTst (fCh (.t (.v false)) (.t (.v false)) (.t (.v false)) dLe dLe (fC (.int 1)) (f1 (.t (.v false)) dLen (fVar 4)) (fC (.int 10)))) (fTru (.t (.v true)) (fCall [.t (.v true), .t (.v true)] (noErr m_L_is_line) (aCons (f1 (.t (.v false)) dLen (fVar 4)) (aCons (fVar 4) aNil)))))))
  (sIf (tNotF (fTru (.t (.v true)) (fCall [.t (.v true), .t (.v true)] (noErr (m_L_same 8)) (aCons (fLst (aCons (fCall [.t (.v false), .t (.v false)] (noErr m_L_error) (aCons (fVar 4) (aCons (fC .none) aNil))) (aCons (fCall [.t (.v false), .t (.v false)] (noErr m_L_error) (aCons (fVar 2) (aCons (fVar 4) aNil))) aNil))) (aCons (fLst (aCons (fLst (aCons (fVar 4) aNil)) (aCons (fLst (aCons (fVar 4) aNil)) aNil))) aNil)))))
  (sRet (fC (.bool false)))
  sNx)
  sNx)
  (sSeq (sSet 5 (fTrg (rRg1 (.t (.v false)) (f2 (.t (.v false)) (.t (.v false)) dAdd (fVar 1) (fC (.int 1))))))
  (sRet (fCall [.t (.v true), .t (.v true)] (noErr (m_L_same 8)) (aCons (fLst (aCons (fCall [.t (.v false), .t (.v false)] (noErr m_L_error) (aCons (fVar 2) (aCons (fVar 5) aNil))) (aCons (fCall [.t (.v false), .t (.v false)] (noErr m_L_error) (aCons (fVar 2) (aCons (fTup aNil) aNil))) aNil))) (aCons (fLst (aCons (fLst (aCons (fVar 5) aNil)) (aCons (fLst (aCons (fTup aNil) aNil)) aNil))) aNil))))))))))
noncomputable def m_L_right : M D := runF [(.lst (.v true))] (.v true) 6 b_L_right
theorem ok_L_right (B : Bt mg) (a : At K mg "_law_right" s_L_right ["bag"]) (G_L_bent : Kn P w K mg base CX0 6 "_law_bent" ["bag", "value"] (spF K mg [(.lst (.v true)), (.v false)] (.v false) (noErr (m_L_bent 2)))) (G_L_error : Kn P w K mg base CX0 7 "_law_error" ["one", "other"] (spF K mg [(.v false), (.v false)] (.v true) (noErr m_L_error))) (G_L_first : Kn P w K mg base CX0 2 "_law_first" ["one", "other"] (spF K mg [(.v false), (.v false)] (.v false) (noErr m_L_first))) (G_L_is_line : Kn P w K mg base CX0 2 "_law_is_line" ["n", "value"] (spF K mg [(.v true), (.v true)] (.v true) (noErr m_L_is_line))) (G_L_same : Kn P w K mg base CX0 9 "_law_same" ["got", "due"] (spF K mg [(.v true), (.v true)] (.v true) (noErr (m_L_same 8)))) (G_L_shuffled : Kn P w K mg base CX0 2 "_law_shuffled" ["bag", "items"] (spF K mg [(.lst (.v true)), (.v false)] (.v false) (noErr m_L_shuffled))) (G_L_take : Kn P w K mg base CX0 1 "_law_take" ["bag", "many"] (spF K mg [(.lst (.v true)), (.v true)] (.v false) (noErr m_L_take))) (G_turns : Kn P w K mg base (L2.CX P w) 6 "turns" ["one", "other"] (spF K mg [(.v false), (.v false)] (.v false) m_turns)) (KW_turns_other_one : KwAt K mg "turns" ["one", "other"] ["other", "one"] [1, 0]) : Kn P w K mg base CX0 10 "_law_right" ["bag"] (spF K mg [(.lst (.v true))] (.v true) (noErr m_L_right)) := by
  refine fn_ok0 (κl := [(.v false), (.v false), (.v false), (.v false), (.v false), (.v false)]) a sc_L_right rfl ⟨True.intro, True.intro⟩ ⟨True.intro, True.intro, True.intro, True.intro, True.intro, True.intro, True.intro⟩ rfl fun f cdv A outer s H vs E hv hr => ?_
  match vs, hv with
  | [v0], _ =>
  refine ⟨[.fix v0 (.lst (.v true)), (.v false), (.v false), (.v false), (.v false), (.v false), (.v false)], (RetK.own rfl RetK.nil), ?_⟩
  show FSs _ _ _ [.fix v0 (.lst (.v true)), (.v false), (.v false), (.v false), (.v false), (.v false), (.v false)] _ _ _
  exact (fss_cons (fs_setK (i := 1) (fe_if (ft_cmp op_gt s_gt (fe_fn G_L_take (hr.mono (by decide)) (Fits.r (by first | exact .inl ⟨rfl, nofix_ne True.intro⟩ | exact .inr ⟨_, rfl, nofix_ne True.intro⟩) (Fits.t (nofix_ne True.intro) Fits.nil)) (fa_cons (fe_ref 0) (fa_cons (fe_wide fe_int) fa_nil))) fe_int (nomark _)) (fe_add fe_int (fe_fn G_L_take (hr.mono (by decide)) (Fits.r (by first | exact .inl ⟨rfl, nofix_ne True.intro⟩ | exact .inr ⟨_, rfl, nofix_ne True.intro⟩) (Fits.t (nofix_ne True.intro) Fits.nil)) (fa_cons (fe_ref 0) (fa_cons (fe_wide fe_int) fa_nil)))) fe_int) sc_L_right.nd)
    (fss_cons (fs_setK (i := 2) (fe_fn G_L_shuffled (hr.mono (by decide)) (Fits.r (by first | exact .inl ⟨rfl, nofix_ne True.intro⟩ | exact .inr ⟨_, rfl, nofix_ne True.intro⟩) (Fits.t (nofix_ne True.intro) Fits.nil)) (fa_cons (fe_ref 0) (fa_cons (fe_listRg (kd := (.v _)) rfl rfl (by exact rfl) B.list (frg_1 (by exact rfl) B.range (fe_var 1))) fa_nil))) sc_L_right.nd)
    (fss_cons (fs_for PassesOwn.never rfl (fi_seq (fe_lst (k := false) (kd := (.v _)) (fa_cons (fe_var 2) (fa_cons (fe_rev (fe_var 2)) (fa_cons (fe_fn G_L_shuffled (hr.mono (by decide)) (Fits.r (by first | exact .inl ⟨rfl, nofix_ne True.intro⟩ | exact .inr ⟨_, rfl, nofix_ne True.intro⟩) (Fits.t (nofix_ne True.intro) Fits.nil)) (fa_cons (fe_ref 0) (fa_cons (fe_listRg (kd := (.v _)) rfl rfl (by exact rfl) B.list (frg_1 (by exact rfl) B.range (fe_var 1))) fa_nil))) fa_nil))))) (fg_nameK (i := 3) sc_L_right.nd)
    (fss_cons (fs_setK (i := 6) (fe_fn G_L_first (hr.mono (by decide)) (Fits.t (nofix_ne True.intro) (Fits.t (nofix_ne True.intro) Fits.nil)) (fa_cons (fe_var 2) (fa_cons (fe_var 3) fa_nil))) sc_L_right.nd)
    (fss_one (fs_if (ft_not (ft_tru (fe_fn G_L_same (hr.mono (by decide)) (Fits.t (nofix_ne True.intro) (Fits.t (nofix_ne True.intro) Fits.nil)) (fa_cons (fe_wide (fe_lst (k := false) (kd := (.v _)) (fa_cons (fe_fnX G_turns takesF (hr.mono (by decide)) (Fits.t (nofix_ne True.intro) (Fits.t (nofix_ne True.intro) Fits.nil)) (fa_cons (fe_var 2) (fa_cons (fe_var 3) fa_nil))) (fa_cons (fe_fnKX (b := false) (n := 2) G_turns KW_turns_other_one takesF (hr.mono (by decide)) (Fits.t (nofix_ne True.intro) (Fits.t (nofix_ne True.intro) Fits.nil)) (fk_cons (fe_var 3) (fk_cons (fe_var 2) fk_nil))) fa_nil)))) (fa_cons (fe_wide (fe_lst (k := false) (kd := (.v _)) (fa_cons (fe_var 6) (fa_cons (fe_var 6) fa_nil)))) fa_nil)))))
    (fss_one (fs_ret (κn := _) (fe_wide fe_bl) (RetK.own rfl RetK.nil)))
    fss_nil))))
    (fss_cons (fs_setK (i := 4) (fe_fn G_L_bent (hr.mono (by decide)) (Fits.r (by first | exact .inl ⟨rfl, nofix_ne True.intro⟩ | exact .inr ⟨_, rfl, nofix_ne True.intro⟩) (Fits.t (nofix_ne True.intro) Fits.nil)) (fa_cons (fe_ref 0) (fa_cons (fe_var 2) fa_nil))) sc_L_right.nd)
    (fss_cons (fs_if (ft_not (ft_w (fw_and (ft_tru (fe_isi isi_tuple (by exact rfl) B.isinstance (fe_var 4) (cls1 (by exact rfl) B.tuple (by decide +kernel)))) (fw_and (ft_ch op_le s_le op_le s_le fe_int (fe_len (by exact rfl) B.len (fe_var 4)) fe_int) (fw_and1 (ft_tru (fe_fn G_L_is_line (hr.mono (by decide)) (Fits.t (nofix_ne True.intro) (Fits.t (nofix_ne True.intro) Fits.nil)) (fa_cons (fe_wide (fe_len (by exact rfl) B.len (fe_var 4))) (fa_cons (fe_wide (fe_var 4)) fa_nil)))))))))
    (fss_one (fs_if (ft_not (ft_tru (fe_fn G_L_same (hr.mono (by decide)) (Fits.t (nofix_ne True.intro) (Fits.t (nofix_ne True.intro) Fits.nil)) (fa_cons (fe_lst (k := true) (kd := (.v true)) (fa_cons (fe_fn G_L_error (hr.mono (by decide)) (Fits.t (nofix_ne True.intro) (Fits.t (nofix_ne True.intro) Fits.nil)) (fa_cons (fe_var 4) (fa_cons fe_non fa_nil))) (fa_cons (fe_fn G_L_error (hr.mono (by decide)) (Fits.t (nofix_ne True.intro) (Fits.t (nofix_ne True.intro) Fits.nil)) (fa_cons (fe_var 2) (fa_cons (fe_var 4) fa_nil))) fa_nil))) (fa_cons (fe_wide (fe_lst (k := false) (kd := (.v _)) (fa_cons (fe_lst (k := false) (kd := (.v _)) (fa_cons (fe_var 4) fa_nil)) (fa_cons (fe_lst (k := false) (kd := (.v _)) (fa_cons (fe_var 4) fa_nil)) fa_nil)))) fa_nil)))))
    (fss_one (fs_ret (κn := _) (fe_wide fe_bl) (RetK.own rfl RetK.nil)))
    fss_nil))
    fss_nil)
    (fss_cons (fs_setK (i := 5) (fe_tupRg rfl (by exact rfl) B.tuple (frg_1 (by exact rfl) B.range (fe_add (fe_var 1) fe_int))) sc_L_right.nd)
    (fss_one (fs_ret (κn := _) (fe_fn G_L_same (hr.mono (by decide)) (Fits.t (nofix_ne True.intro) (Fits.t (nofix_ne True.intro) Fits.nil)) (fa_cons (fe_lst (k := true) (kd := (.v true)) (fa_cons (fe_fn G_L_error (hr.mono (by decide)) (Fits.t (nofix_ne True.intro) (Fits.t (nofix_ne True.intro) Fits.nil)) (fa_cons (fe_var 2) (fa_cons (fe_var 5) fa_nil))) (fa_cons (fe_fn G_L_error (hr.mono (by decide)) (Fits.t (nofix_ne True.intro) (Fits.t (nofix_ne True.intro) Fits.nil)) (fa_cons (fe_var 2) (fa_cons (fe_tup (k := false) fa_nil) fa_nil))) fa_nil))) (fa_cons (fe_wide (fe_lst (k := false) (kd := (.v _)) (fa_cons (fe_lst (k := false) (kd := (.v _)) (fa_cons (fe_var 5) fa_nil)) (fa_cons (fe_lst (k := false) (kd := (.v _)) (fa_cons (fe_tup (k := false) fa_nil) fa_nil)) fa_nil)))) fa_nil))) (RetK.own rfl RetK.nil)))))))))
abbrev s_law : Stmt := topS 33
abbrev N_law : List Str := ["script", "k"]
theorem sc_law : FnScope N_law ["script"] (defScope s_law) := ⟨rfl, rfl, rfl, by decide +kernel, rfl, by decide +kernel, by decide +kernel⟩
noncomputable def b_law : FN.Env → Option Fl :=
  (sSeq (sFor (iRg1 (.t (.v true)) (f2 (.t (.v true)) (.t (.v true)) dMax2 (fC (.int 1)) (f2 (.t (.v true)) (.t (.v true)) dMin2 (fC (.int 2)) (f1 (.r 0) dLen (fRef 0))))) (gNm 1)
  (sIf (tNotF (fTru (.t (.v true)) (fCall [.t (.lst (.v true))] (noErr m_L_right) (aCons (fCall [.r 0, .t (.v true)] (noErr m_L_bag) (aCons (fRef 0) (aCons (fVar 1) aNil))) aNil))))
  (sRet (fC (.bool false)))
  sNx))
  (sRet (fC (.bool true))))
noncomputable def m_law : M D := runF [.scr] (.v true) 1 b_law
theorem ok_law (B : Bt mg) (a : At K mg "law" s_law ["script"]) (G_L_bag : Kn P w K mg base CX0 1 "_law_bag" ["script", "k"] (spF K mg [.scr, (.v true)] (.lst (.v true)) (noErr m_L_bag))) (G_L_right : Kn P w K mg base CX0 10 "_law_right" ["bag"] (spF K mg [(.lst (.v true))] (.v true) (noErr m_L_right))) : Kn P w K mg base CX0 11 "law" ["script"] (spF K mg [.scr] (.v true) (noErr m_law)) := by
  refine fn_ok0 (κl := [(.v true)]) a sc_law rfl ⟨True.intro, True.intro⟩ ⟨True.intro, True.intro⟩ rfl fun f cdv A outer s H vs E hv hr => ?_
  match vs, hv with
  | [v0], _ =>
  refine ⟨[.fix v0 .scr, (.v true)], (RetK.own rfl RetK.nil), ?_⟩
  show FSs _ _ _ [.fix v0 .scr, (.v true)] _ _ _
  exact (fss_cons (fs_for PassesOwn.never rfl (fi_range1 (by exact rfl) B.range (fe_max2 rfl (by exact rfl) B.max fe_int (fe_min2 rfl (by exact rfl) B.min fe_int (fe_len (by exact rfl) B.len (fe_ref 0))))) (fg_nameK (i := 1) sc_law.nd)
    (fss_one (fs_if (ft_not (ft_tru (fe_fn G_L_right (hr.mono (by decide)) (Fits.t (nofix_ne True.intro) Fits.nil) (fa_cons (fe_fn G_L_bag (hr.mono (by decide)) (Fits.r (by first | exact .inl ⟨rfl, nofix_ne True.intro⟩ | exact .inr ⟨_, rfl, nofix_ne True.intro⟩) (Fits.t (nofix_ne True.intro) Fits.nil)) (fa_cons (fe_ref 0) (fa_cons (fe_var 1) fa_nil))) fa_nil))))
    (fss_one (fs_ret (κn := _) fe_bl (RetK.own rfl RetK.nil)))
    fss_nil)))
    (fss_one (fs_ret (κn := _) fe_bl (RetK.own rfl RetK.nil))))
end
end K76
set_option Elab.async false
set_option linter.all false
set_option maxRecDepth 100000
set_option maxHeartbeats 4000000
namespace K76
open PySem PySem.Spec PyProof.Rows L2 FN
open FNL (Bag smD smD_le)
/-! ### lines -/
def tl (l : List Nat) : D := .tuple (l.map fun (i : Nat) => .int (i : Int))
theorem tl_eq (l : List Nat) : tl l = .tuple ((l.map fun (i : Nat) => (i : Int)).map .int) := by unfold tl; rw [List.map_map]; rfl
/-- ints, if all are -/
def toInts : List D → Option (List Int)
  | [] => some []
  | .int i :: ds => (toInts ds).map (i :: ·)
  | _ :: _ => none
theorem toInts_map : ∀ is : List Int, toInts (is.map .int) = some is
  | [] => rfl
  | i :: is => by
    rw [List.map_cons]
    unfold toInts
    rw [toInts_map is]
    rfl
theorem toInts_some : ∀ {ds : List D} {is : List Int}, toInts ds = some is → ds = is.map .int
  | [], is, h => by cases h; rfl
  | d :: ds, is, h => by
    cases d with
    | int i =>
      unfold toInts at h
      cases q : toInts ds with
      | none =>
        rw [q] at h
        cases h
      | some js =>
        rw [q] at h
        cases h
        rw [List.map_cons, ← toInts_some q]
    | _ => cases h
def natD : D → Bool
  | .int i => decide (0 ≤ i)
  | _ => false
def rng (n : Nat) : List Int := (List.range n).map fun (i : Nat) => (i : Int)
theorem rgD_rng (n : Nat) : rgD 0 (n : Int) = (rng n).map .int := by
  unfold rgD rng
  rw [List.map_map, show ((n : Int) - 0).toNat = n by omega]
  refine List.map_congr_left fun k _ => ?_
  show PyData.int (0 + (k : Int)) = .int (k : Int)
  rw [Int.zero_add]
def srt (is : List Int) : List Int := is.mergeSort fun a b => decide (a ≤ b)
/-- is it a line -/
def isLn (d : D) : Bool := match d with
  | .tuple ds => decide (1 ≤ ds.length ∧ ds.length ≤ 10) && ds.all natD && (match toInts ds with
    | some is => decide (srt is = rng ds.length)
    | none => false)
  | _ => false
theorem eqvA_ints : ∀ is js : List Int, PyData.eqvAll (is.map .int) (js.map .int) = decide (is = js)
  | [], [] => by simp
  | [], j :: js => by simp
  | i :: is, [] => by simp
  | i :: is, j :: js => by
    rw [List.map_cons, List.map_cons, eqvA_cc, eqvA_ints is js, eqv_ii]
    by_cases h1 : i = j <;> by_cases h2 : is = js <;> simp [h1, h2]
theorem okD_ints (is : List Int) : okD 1 (.list (is.map .int)) = true := by
  unfold okD
  rw [List.all_map, List.all_eq_true]
  intro i _
  show okD 0 (.int i) = true
  unfold okD
  rfl
theorem dEq_ints (is js : List Int) : dEq (.list (is.map .int)) (.list (js.map .int)) = some (.bool (decide (is = js))) := by
  unfold dEq
  rw [shaped_ok (okD_ints is), shaped_ok (okD_ints js), eqv_ll, eqvA_ints]
  rfl
theorem e_is_integer (d : D) : m_is_integer [some d] = some (.ok (.bool (FN.isInt d && !isBool d)) [none]) := by
  unfold m_is_integer b_is_integer
  rw [u_runF]
  cases d <;> simp [FN.isInt, isBool]
theorem e_is_between (d : D) : m_is_between [some d, some (.int 0), some .none] = some (.ok (.bool (natD d)) [none, none, none]) := by
  unfold m_is_between b_is_between
  rw [u_runF]
  have h := e_is_integer d
  have hn : noErr m_is_integer [some d] = some (.ok (.bool (FN.isInt d && !isBool d)) [none]) := by rw [u_noErr, h]
  have c : fCall [.t (.v true)] (noErr m_is_integer) (aCons (fVar 0) aNil) [some d, some (.int 0), some .none] = some (.ok (.bool (FN.isInt d && !isBool d)) [some d, some (.int 0), some .none]) := by
    rw [u_fCall]
    simp [hn]
  simp only [List.replicate, List.append_nil]
  rw [u_sRet, u_fAnd, c]
  cases d with
  | int i =>
    simp [FN.isInt, isBool, natD, dIs, isNone]
    by_cases h : 0 ≤ i <;> simp [h]
  | _ => simp [FN.isInt, isBool, natD]
theorem e_is_tuple (d : D) : m_is_tuple [some d, some (.int 1), some (.int 10)] = some (.ok (.bool (match d with | .tuple ds => decide (1 ≤ ds.length ∧ ds.length ≤ 10) | _ => false)) [none, none, none]) := by
  unfold m_is_tuple b_is_tuple
  rw [u_runF]
  cases d with
  | tuple ds =>
    simp [isTuple]
    by_cases h1 : (1 : Int) ≤ (ds.length : Int)
    · by_cases h2 : (ds.length : Int) ≤ 10
      · simp [h1, h2, show 1 ≤ ds.length by omega, show ds.length ≤ 10 by omega]
      · simp [h1, h2, show ¬ ds.length ≤ 10 by omega]
    · simp [h1, show ¬ 1 ≤ ds.length by omega]
  | _ => simp [isTuple]
theorem e_are_integers (ds : List D) (hl : ds.length ≤ 1000000) : m_are_integers [some (.tuple ds), some (.int 0), some .none] = some (.ok (.bool (ds.all natD)) [none, none, none]) := by
  unfold m_are_integers b_are_integers
  rw [u_runF]
  have lc := lc_same (i := 3) (fi := iSeq (fVar 0)) (fe := fCall [.t (.v true), .t (.v true), .t (.v true)] (noErr m_is_between) (aCons (fVar 3) (aCons (fVar 1) (aCons (fVar 2) aNil)))) (ρ := [some (.tuple ds), some (.int 0), some .none, none]) (ds := ds) (fun d => .bool (natD d)) (by rw [sizeLine_eq]; omega) (by simp) (fun d _ => by
    have hn : noErr m_is_between [some d, some (.int 0), some .none] = some (.ok (.bool (natD d)) [none, none, none]) := by rw [u_noErr, e_is_between]
    rw [u_fCall]
    simp [hn])
  simp only [List.replicate, List.cons_append, List.nil_append]
  rw [u_sRet, u_fAnd, u_f1b]
  simp only [u_fVar, List.getElem?_cons_zero, u_ok, u_rdv, isTuple]
  rw [u_f1, lc]
  simp
theorem e_is_a_line (d : D) : m_is_a_line [some d] = some (.ok (.bool (isLn d)) [none]) := by
  unfold m_is_a_line b_is_a_line
  rw [u_runF]
  have c1 : fCall [.t (.v true), .t (.v true), .t (.v true)] (noErr m_is_tuple) (aCons (fVar 0) (aCons (fC (.int 1)) (aCons (fC (.int 10)) aNil))) [some d] = some (.ok (.bool (match d with | .tuple ds => decide (1 ≤ ds.length ∧ ds.length ≤ 10) | _ => false)) [some d]) := by
    have hn : noErr m_is_tuple [some d, some (.int 1), some (.int 10)] = some (.ok (.bool (match d with | .tuple ds => decide (1 ≤ ds.length ∧ ds.length ≤ 10) | _ => false)) [none, none, none]) := by rw [u_noErr, e_is_tuple]
    rw [u_fCall]
    simp only [u_aCons, u_fVar, u_fC, u_aNil, u_ok, List.getElem?_cons_zero, u_fillT, u_fill0, Option.map_some, hn, u_backT, u_back0]
  simp only [List.replicate, List.append_nil]
  rw [u_sSeq, u_sIf, u_tOr, u_tNot, u_fTru, c1]
  cases d with
  | tuple ds =>
    simp only [u_ok, u_rdv, tru_b, Option.map_some]
    by_cases hl : 1 ≤ ds.length ∧ ds.length ≤ 10
    · have c2 : fCall [.t (.v true), .t (.v true), .t (.v true)] (noErr m_are_integers) (aCons (fVar 0) (aCons (fC (.int 0)) (aCons (fC .none) aNil))) [some (.tuple ds)] = some (.ok (.bool (ds.all natD)) [some (.tuple ds)]) := by
        have hn : noErr m_are_integers [some (.tuple ds), some (.int 0), some .none] = some (.ok (.bool (ds.all natD)) [none, none, none]) := by rw [u_noErr, e_are_integers ds (by omega)]
        rw [u_fCall]
        simp only [u_aCons, u_fVar, u_fC, u_aNil, u_ok, List.getElem?_cons_zero, u_fillT, u_fill0, Option.map_some, hn, u_backT, u_back0]
      simp only [decide_eq_true hl, Bool.not_true, Bool.false_eq_true, if_false]
      rw [u_tNot, u_fTru, c2]
      simp only [u_ok, u_rdv, tru_b, Option.map_some]
      unfold isLn
      simp only [decide_eq_true hl, Bool.true_and]
      by_cases ha : ds.all natD = true
      · rw [ha]
        simp only [Bool.not_true, Bool.false_eq_true, if_false, u_sNx, Bool.true_and]
        have ti : ∃ is, toInts ds = some is := by
          clear c1 c2 hl
          induction ds with
          | nil => exact ⟨[], rfl⟩
          | cons x ds ih =>
            rw [List.all_cons, Bool.and_eq_true] at ha
            obtain ⟨is, e⟩ := ih ha.2
            cases x with
            | int i => exact ⟨i :: is, by unfold toInts; rw [e]; rfl⟩
            | _ => cases ha.1
        obtain ⟨is, ei⟩ := ti
        have ed := toInts_some ei
        rw [ei]
        rw [u_sRet, u_f2, u_f1]
        have e1 : dSorted (.tuple ds) = some (.list ((srt is).map .int)) := by rw [ed]; exact dSorted_t is
        have e2 : okRg 0 (ds.length : Int) = true := decide_eq_true ⟨by omega, by omega, by omega, by omega, by omega⟩
        simp only [u_fVar, List.getElem?_cons_zero, u_ok, u_rdv, e1, Option.map_some, u_fLrg, u_rRg1, u_f1, dLen_t, e2, if_true, rgD_rng, dEq_ints, u_outsV, u_outs0]
      · rw [Bool.not_eq_true] at ha
        rw [ha]
        simp
    · simp only [decide_eq_false hl, Bool.not_false, if_true]
      unfold isLn
      simp [decide_eq_false hl]
  | _ => simp [isLn]
end K76
set_option Elab.async false
set_option linter.all false
set_option maxRecDepth 100000
set_option maxHeartbeats 4000000
namespace K76
open PySem PySem.Spec PyProof.Rows L2 FN
open FNL (Bag smD smD_le)
/-! ### rows of 0 .. n-1 -/
theorem rng_len (n : Nat) : (rng n).length = n := by unfold rng; rw [List.length_map, List.length_range]
theorem rng_sorted (n : Nat) : (rng n).Pairwise fun a b => a ≤ b := by
  unfold rng
  rw [List.pairwise_map]
  exact List.pairwise_lt_range.imp fun h => by omega
theorem srt_sorted (is : List Int) : (srt is).Pairwise fun a b => a ≤ b := by
  unfold srt
  refine (List.pairwise_mergeSort (le := fun a b : Int => decide (a ≤ b)) (fun a b c h1 h2 => ?_) (fun a b => ?_) is).imp fun h => of_decide_eq_true h
  · have := of_decide_eq_true h1
    have := of_decide_eq_true h2
    exact decide_eq_true (by omega)
  · rw [Bool.or_eq_true]
    by_cases h : a ≤ b
    · exact .inl (decide_eq_true h)
    · exact .inr (decide_eq_true (by omega))
theorem srt_perm (is : List Int) : (srt is).Perm is := List.mergeSort_perm _ _
theorem srt_rng {is : List Int} {n : Nat} (h : is.Perm (rng n)) : srt is = rng n := List.Perm.eq_of_pairwise (le := fun a b => a ≤ b) (fun a b _ _ h1 h2 => by omega) (srt_sorted is) (rng_sorted n) ((srt_perm is).trans h)
theorem mem_rng {n : Nat} {i : Int} : i ∈ rng n ↔ 0 ≤ i ∧ i < n := by
  unfold rng
  rw [List.mem_map]
  constructor
  · rintro ⟨k, hk, rfl⟩
    rw [List.mem_range] at hk
    omega
  · intro h
    exact ⟨i.toNat, List.mem_range.mpr (by omega), by omega⟩
/-- a row of n singers -/
def IsL (n : Nat) (l : List Nat) : Prop := l.Perm (List.range n)
theorem IsL.len {n : Nat} {l : List Nat} (h : IsL n l) : l.length = n := by rw [h.length_eq, List.length_range]
theorem isLn_tl {n : Nat} {l : List Nat} (h : IsL n l) (h1 : 1 ≤ n) (h2 : n ≤ 10) : isLn (tl l) = true := by
  rw [tl_eq]
  unfold isLn
  have hl := h.len
  have e : srt (l.map fun (i : Nat) => (i : Int)) = rng l.length := by
    rw [hl]
    exact srt_rng (h.map _)
  simp only [toInts_map, List.length_map, e]
  have ha : ((l.map fun (i : Nat) => (i : Int)).map PyData.int).all natD = true := by
    rw [List.all_map, List.all_map, List.all_eq_true]
    intro i _
    show natD (.int (i : Int)) = true
    unfold natD
    exact decide_eq_true (by omega)
  rw [ha, decide_eq_true (by omega : 1 ≤ l.length ∧ l.length ≤ 10)]
  simp
theorem len_tl (l : List Nat) : dLen (tl l) = some (.int (l.length : Int)) := by
  unfold tl
  rw [dLen_t, List.length_map]
/-! ### need_lines -/
theorem line_call (i : Nat) {ρ : FN.Env} {d : D} (h : ρ[i]? = some (some d)) : fTru (.t (.v true)) (fCall [.t (.v true)] (noErr m_is_a_line) (aCons (fVar i) aNil)) ρ = some (.ok (isLn d) ρ) := by
  rw [u_fTru, call_t1 (x := d) (by rw [u_fVar, h]) (e_is_a_line d)]
  simp
theorem e_need_bad {one other : D} (h : isLn one = false) : m_need_lines [some one, some other] = some (.err "InvalidLine" one [none, none]) := by
  unfold m_need_lines b_need_lines
  rw [u_runF]
  simp only [List.replicate, List.append_nil]
  rw [u_sSeq, u_sIf, u_tNot, line_call 0 rfl, h]
  simp [sRaise]
theorem e_need_other {one other : D} (h1 : isLn one = true) (h2 : isLn other = false) : m_need_lines [some one, some other] = some (.err "InvalidLine" other [none, none]) := by
  unfold m_need_lines b_need_lines
  rw [u_runF]
  simp only [List.replicate, List.append_nil]
  rw [u_sSeq, u_sIf, u_tNot, line_call 0 rfl, h1]
  simp only [u_ok, Bool.not_true, Bool.false_eq_true, if_false, u_sNx]
  rw [u_sIf, u_tOr, u_tNot, line_call 1 rfl, h2]
  simp [sRaise]
theorem e_need_len {one other : List Nat} (h1 : isLn (tl one) = true) (h2 : isLn (tl other) = true) : m_need_lines [some (tl one), some (tl other)] = if other.length = one.length then some (.ok .none [none, none]) else some (.err "InvalidLine" (tl other) [none, none]) := by
  unfold m_need_lines b_need_lines
  rw [u_runF]
  simp only [List.replicate, List.append_nil]
  rw [u_sSeq, u_sIf, u_tNot, line_call 0 rfl, h1]
  simp only [u_ok, Bool.not_true, Bool.false_eq_true, if_false, u_sNx]
  rw [u_sIf, u_tOr, u_tNot, line_call 1 rfl, h2]
  simp only [u_ok, Bool.not_true, Bool.false_eq_true, if_false]
  simp only [u_fTst, u_f2, u_f1, u_fVar, List.getElem?_cons_succ, List.getElem?_cons_zero, u_ok, u_rdv, len_tl, Option.map_some, dNe_ii, sRaise]
  by_cases h : other.length = one.length
  · rw [if_pos h, h]
    simp
  · rw [if_neg h]
    have : ¬ (other.length : Int) = (one.length : Int) := by omega
    simp [this]
/-! ### what the law draws -/
theorem take_eq : m_L_take = FNL.m_take := rfl
theorem one_eq : m_L_one_of = FNL.m_one_of := by
  have e : m_L_one_of = runF [.lst (.v true), .v true] (.v false) 0 b_L_one_of := runF_keep (by rfl) _ _ _
  rw [e]
  rfl
theorem bag_eq : m_L_bag = FNL.m_bag := rfl
theorem same_eq : ∀ n, m_L_same n = FNL.m_same n
  | 0 => rfl
  | n + 1 => by
    unfold m_L_same FNL.m_same
    rw [same_eq n]
    rfl
theorem e_take {n : Nat} {bag : FN.D} {many : Int} (hb : Bag n bag) (hn : n ≤ 1000000) (h1 : 1 ≤ many) (h2 : many ≤ 2 ^ 62) : ∃ i bag', m_L_take [some bag, some (.int many)] = some (.ok (.int i) [some bag', none]) ∧ Bag (n + 1) bag' ∧ 0 ≤ i ∧ i < many := by
  rw [take_eq]
  exact FNL.e_take hb hn h1 h2
theorem e_one_of {n : Nat} {bag : FN.D} {ds : List FN.D} (hb : Bag n bag) (hn : n ≤ 1000000) (h1 : ds ≠ []) (h2 : ds.length ≤ 1000000) : ∃ d bag', m_L_one_of [some bag, some (.list ds)] = some (.ok d [some bag', none]) ∧ Bag (n + 1) bag' ∧ d ∈ ds := by
  rw [one_eq]
  exact FNL.e_one_of hb hn h1 h2
theorem e_same {n : Nat} {d : D} (h : smD n d = true) : m_L_same (n + 1) [some d, some d] = some (.ok (.bool true) [none, none]) := by
  rw [same_eq]
  exact FNL.e_same n d h
theorem erase_perm : ∀ {l : List Nat} {i x : Nat}, l[i]? = some x → (x :: l.eraseIdx i).Perm l
  | [], _, _, h => by simp at h
  | a :: l, 0, x, h => by
    simp at h
    subst h
    exact .refl _
  | a :: l, i + 1, x, h => by
    rw [List.eraseIdx_cons_succ]
    exact (List.Perm.swap a x _).trans ((erase_perm (by simpa using h)).cons a)
theorem bag_list {n : Nat} {bag : D} (h : Bag n bag) : ∃ l, bag = .list l := by
  obtain ⟨a, b, c, e, _⟩ := h
  exact ⟨_, e⟩
def il (l : List Nat) : List D := l.map fun (i : Nat) => .int (i : Int)
theorem map_erase {α β : Type} (f : α → β) : ∀ (l : List α) (i : Nat), (l.map f).eraseIdx i = (l.eraseIdx i).map f
  | [], _ => rfl
  | a :: l, 0 => rfl
  | a :: l, i + 1 => by rw [List.map_cons, List.eraseIdx_cons_succ, List.eraseIdx_cons_succ, List.map_cons, map_erase f l i]
theorem il_len (l : List Nat) : (il l).length = l.length := by unfold il; rw [List.length_map]
theorem pop_il {left : List Nat} {i : Int} (i0 : 0 ≤ i) (i1 : i < left.length) (hl : left.length ≤ 1000) {x : Nat} (hx : left[i.toNat]? = some x) : oPopAt (il left) (.int i) = some (.int (x : Int), il (left.eraseIdx i.toNat)) := by
  have ok : okR i = true := okR_of (by omega) (by omega)
  have ix : ixN (il left).length i = some i.toNat := by
    unfold ixN
    rw [if_pos i0, il_len, if_pos i1]
  have e : (il left)[i.toNat]? = some (.int (x : Int)) := by
    unfold il
    rw [List.getElem?_map, hx]
    rfl
  have e2 : (il left).eraseIdx i.toNat = il (left.eraseIdx i.toNat) := by
    unfold il
    exact map_erase _ _ _
  unfold oPopAt
  simp only [ok, if_true, ix, e, e2]
theorem app_il {fnd : List Nat} (hf : fnd.length ≤ 1000) (x : Nat) : oApp (il fnd) (.int (x : Int)) = some (.none, il (fnd ++ [x])) := by
  have sz : (1000000 : Nat) < sizeLine := by rw [sizeLine_eq]; omega
  unfold oApp
  rw [if_pos (by rw [il_len]; omega)]
  unfold il
  rw [List.map_append]
  rfl
theorem sh_step {b : Nat} {bag x1 : D} {left fnd : List Nat} {x2 : Option D} (hb : Bag b bag) (hl : 1 ≤ left.length) (hl2 : left.length ≤ 1000) (hf : fnd.length ≤ 1000) (hb2 : b ≤ 1000000) : ∃ i x bag', left[i]? = some x ∧ Bag (b + 1) bag' ∧ sDrop (fMt 4 oApp (fMt 3 oPopAt (fCall [.r 0, .t (.v true)] (noErr m_L_take) (aCons (fRef 0) (aCons (f1 (.r 3) dLen (fRef 3)) aNil))))) [some bag, some x1, x2, some (.list (il left)), some (.list (il fnd))] = some (.nx [some bag', some x1, x2, some (.list (il (left.eraseIdx i))), some (.list (il (fnd ++ [x])))]) := by
  obtain ⟨i, bag2, et, hb2', i0, i1⟩ := e_take (many := (left.length : Int)) hb hb2 (by omega) (by omega)
  have ii : i.toNat < left.length := by omega
  have hx := List.getElem?_eq_getElem ii
  refine ⟨i.toNat, left[i.toNat], bag2, hx, hb2', ?_⟩
  have ct : fCall [.r 0, .t (.v true)] (noErr m_L_take) (aCons (fRef 0) (aCons (f1 (.r 3) dLen (fRef 3)) aNil)) [some bag, some x1, x2, some (.list (il left)), some (.list (il fnd))] = some (.ok (.int i) [some bag2, some x1, x2, some (.list (il left)), some (.list (il fnd))]) := by
    refine call_r1 (b := none) rfl ?_ et
    simp only [u_f1, u_fRef, u_ok, List.getElem?_cons_succ, List.getElem?_cons_zero, u_rdr, dLen_l, il_len, Option.map_some]
  have pa := pop_il i0 i1 hl2 hx
  have ap := app_il hf left[i.toNat]
  rw [u_sDrop, u_fMt]
  simp only [List.getElem?_cons_succ, List.getElem?_cons_zero]
  rw [u_fMt]
  simp only [List.getElem?_cons_succ, List.getElem?_cons_zero]
  rw [ct]
  simp only [u_ok, List.getElem?_cons_succ, List.getElem?_cons_zero, pa, Option.map_some, List.set_cons_succ, List.set_cons_zero, ap]
theorem rg_il (n : Nat) : rgD 0 (n : Int) = il (List.range n) := by
  rw [rgD_rng]
  unfold rng il
  rw [List.map_map]
  rfl
theorem sh_for {b n : Nat} {bag x1 : D} (hb : Bag b bag) (hn : n ≤ 1000) (hb2 : b ≤ 900000) : ∃ bag' fnd x2, sFor (iRg1 (.t (.v false)) (f1 (.r 3) dLen (fRef 3))) (gNm 2) (sDrop (fMt 4 oApp (fMt 3 oPopAt (fCall [.r 0, .t (.v true)] (noErr m_L_take) (aCons (fRef 0) (aCons (f1 (.r 3) dLen (fRef 3)) aNil)))))) [some bag, some x1, none, some (.list (il (List.range n))), some (.list (il []))] = some (.nx [some bag', some x1, x2, some (.list (il [])), some (.list (il fnd))]) ∧ Bag (b + n) bag' ∧ IsL n fnd := by
  obtain ⟨ρ', e, bag', left, fnd, x2, rfl, hb', hl, hp⟩ := for_inv (fi := iRg1 (.t (.v false)) (f1 (.r 3) dLen (fRef 3))) (ft := gNm 2) (f := sDrop (fMt 4 oApp (fMt 3 oPopAt (fCall [.r 0, .t (.v true)] (noErr m_L_take) (aCons (fRef 0) (aCons (f1 (.r 3) dLen (fRef 3)) aNil))))))
    (ρ := [some bag, some x1, none, some (.list (il (List.range n))), some (.list (il []))]) (ρ1 := [some bag, some x1, none, some (.list (il (List.range n))), some (.list (il []))]) (ds := rgD 0 (n : Int))
    (fun k ρ => ∃ bag left fnd x2, ρ = [some bag, some x1, x2, some (.list (il left)), some (.list (il fnd))] ∧ Bag (b + k) bag ∧ left.length + k = n ∧ (fnd ++ left).Perm (List.range n)) (by
      have ok : okR (n : Int) = true := okR_of (by omega) (by omega)
      rw [u_iRg1]
      simp only [u_f1, u_fRef, u_ok, List.getElem?_cons_succ, List.getElem?_cons_zero, u_rdr, dLen_l, il_len, List.length_range, Option.map_some, u_rdv, ok, if_true]) ⟨bag, List.range n, [], none, rfl, hb, by simp, by simp⟩ (fun k d ρ hk hG => by
      obtain ⟨bag1, left, fnd, x2, rfl, hb1, hl, hp⟩ := hG
      obtain ⟨rfl, hk2⟩ := rgD_get hk
      have hk3 : k < n := by omega
      have hf : fnd.length ≤ n := by
        have := hp.length_eq
        rw [List.length_append, List.length_range] at this
        omega
      obtain ⟨i, x, bag2, hx, hb2', est⟩ := sh_step (x1 := x1) (x2 := some (.int (0 + (k : Nat)))) hb1 (by omega : 1 ≤ left.length) (by omega) (by omega : fnd.length ≤ 1000) (by omega)
      refine ⟨_, _, rfl, .inl est, bag2, left.eraseIdx i, fnd ++ [x], _, rfl, hb2', ?_, ?_⟩
      · rw [List.length_eraseIdx_of_lt (List.getElem?_eq_some_iff.mp hx).1]
        omega
      · rw [List.append_assoc]
        exact ((erase_perm hx).append_left fnd).trans hp)
  have hl0 : left = [] := List.length_eq_zero_iff.mp (by rw [rgD_len] at hl; omega)
  subst hl0
  rw [rgD_len] at hb'
  exact ⟨bag', fnd, x2, e, by rw [show ((n : Int) - 0).toNat = n by omega] at hb'; exact hb', by rw [List.append_nil] at hp; exact hp⟩
theorem e_shuffled {b n : Nat} {bag : D} (hb : Bag b bag) (hn : n ≤ 1000) (hb2 : b ≤ 900000) : ∃ l bag', m_L_shuffled [some bag, some (.list (rgD 0 (n : Int)))] = some (.ok (tl l) [some bag', none]) ∧ Bag (b + n) bag' ∧ IsL n l := by
  have sz : (1000000 : Nat) < sizeLine := by rw [sizeLine_eq]; omega
  obtain ⟨bag', fnd, x2, e, hb', hp⟩ := sh_for (x1 := .list (il (List.range n))) hb hn hb2
  refine ⟨fnd, bag', ?_, hb', hp⟩
  rw [rg_il]
  have s1 : sPar 3 4 (aCons (f1 (.t (.v false)) dList (fVar 1)) (aCons (fLst aNil) aNil)) ([some bag, some (.list (il (List.range n)))] ++ List.replicate 3 none) = some (.nx [some bag, some (.list (il (List.range n))), none, some (.list (il (List.range n))), some (.list (il []))]) := by
    have z : (0 ≤ sizeLine) = True := eq_true (by omega)
    simp only [List.replicate, List.cons_append, List.nil_append, u_sPar, u_aCons, u_f1, u_fVar, u_fLst, u_aNil, u_ok, u_rdv, List.getElem?_cons_succ, List.getElem?_cons_zero, dList_l, Option.map_some, List.length_nil, z, if_true, List.set_cons_succ, List.set_cons_zero]
    rfl
  have s3 : sRet (f1 (.r 4) dTuple (fRef 4)) [some bag', some (.list (il (List.range n))), x2, some (.list (il [])), some (.list (il fnd))] = some (.ret (tl fnd) [some bag', some (.list (il (List.range n))), x2, some (.list (il [])), some (.list (il fnd))]) := by
    simp only [u_sRet, u_f1, u_fRef, u_ok, List.getElem?_cons_succ, List.getElem?_cons_zero, u_rdr, dTuple_l, Option.map_some]
    rfl
  unfold m_L_shuffled b_L_shuffled
  exact run_ret ((seq_nx s1).trans ((seq_nx e).trans s3)) rfl
end K76
set_option Elab.async false
set_option linter.all false
set_option maxRecDepth 100000
set_option maxHeartbeats 4000000
namespace K76
open PySem PySem.Spec PyProof.Rows L2 FN
open FNL (Bag smD smD_le)
/-! ### the law's own test of lines -/
def inD (n : Nat) : D → Bool
  | .int i => decide (0 ≤ i ∧ i ≤ (n : Int) - 1)
  | _ => false
theorem e_L_is_int (d : D) (n : Nat) : m_L_is_int [some d, some (.int 0), some (.int ((n : Int) - 1))] = some (.ok (.bool (inD n d)) [none, none, none]) := by
  unfold m_L_is_int b_L_is_int
  refine run_ret (ρ1 := [some d, some (.int 0), some (.int ((n : Int) - 1))]) ?_ rfl
  simp only [List.replicate, List.append_nil]
  cases d with
  | int i =>
    simp only [u_sRet, u_fAnd, u_f1b, u_fVar, u_ok, List.getElem?_cons_succ, List.getElem?_cons_zero, u_rdv, FN.isInt, FN.isBool, u_fNot, u_fCh, dLe_ii, Bool.not_false, inD]
    by_cases h1 : (0 : Int) ≤ i
    · simp [h1]
    · simp [h1]
  | _ => simp [FN.isInt, FN.isBool, inD]
theorem sorted_false {ds : List D} {n : Nat} (hl : ds.length = n) (h : ds.all (inD n) = false) : isLn (.tuple ds) = false := by
  apply Classical.byContradiction
  intro z
  rw [Bool.not_eq_false] at z
  unfold isLn at z
  rw [Bool.and_eq_true, Bool.and_eq_true] at z
  obtain ⟨⟨z1, z2⟩, z3⟩ := z
  cases q : toInts ds with
  | none =>
    simp only [q] at z3
    cases z3
  | some is =>
    simp only [q] at z3
    have z4 := of_decide_eq_true z3
    have ed := toInts_some q
    have : ds.all (inD n) = true := by
      rw [ed, List.all_map, List.all_eq_true]
      intro i hi
      have hm : i ∈ srt is := (srt_perm is).mem_iff.mpr hi
      rw [z4, mem_rng] at hm
      show inD n (.int i) = true
      unfold inD
      rw [hl] at hm
      exact decide_eq_true (by omega)
    rw [h] at this
    cases this
theorem e_L_is_line {ds : List D} (h1 : 1 ≤ ds.length) (h2 : ds.length ≤ 10) : m_L_is_line [some (.int (ds.length : Int)), some (.tuple ds)] = some (.ok (.bool (isLn (.tuple ds))) [none, none]) := by
  have lc := lc_same (i := 2) (fi := iSeq (fVar 1)) (fe := fCall [.t (.v true), .t (.v true), .t (.v true)] (noErr m_L_is_int) (aCons (fVar 2) (aCons (fC (.int 0)) (aCons (f2 (.t (.v true)) (.t (.v true)) dSub (fVar 0) (fC (.int 1))) aNil)))) (ρ := [some (.int (ds.length : Int)), some (.tuple ds), none]) (ds := ds) (fun d => .bool (inD ds.length d)) (by rw [sizeLine_eq]; omega) (by simp) (fun d _ => by
    refine call_t3 (x := d) (y := .int 0) (z := .int ((ds.length : Int) - 1)) rfl rfl ?_ (e_L_is_int d _)
    simp only [u_f2, u_fVar, u_fC, u_ok, List.set_cons_succ, List.set_cons_zero, List.getElem?_cons_zero, u_rdv, dSub_ii, Option.map_some])
  have t1 : tOrF (tNotF (fTru (.t (.v true)) (f1b (.t (.v true)) isTuple (fVar 1)))) (tOrF (fTst (f2 (.t (.v true)) (.t (.v true)) dNe (f1 (.t (.v true)) dLen (fVar 1)) (fVar 0))) (tNotF (fTru (.t (.v true)) (f1 (.t (.v true)) dAll (fLc [2] (iSeq (fVar 1)) (gNm 2) tYesF (fCall [.t (.v true), .t (.v true), .t (.v true)] (noErr m_L_is_int) (aCons (fVar 2) (aCons (fC (.int 0)) (aCons (f2 (.t (.v true)) (.t (.v true)) dSub (fVar 0) (fC (.int 1))) aNil))))))))) [some (.int (ds.length : Int)), some (.tuple ds), none] = some (.ok (!ds.all (inD ds.length)) [some (.int (ds.length : Int)), some (.tuple ds), none]) := by
    rw [u_tOr, u_tNot, u_fTru, u_f1b]
    simp only [u_fVar, u_ok, List.getElem?_cons_succ, List.getElem?_cons_zero, u_rdv, FN.isTuple, tru_b, Option.map_some, Bool.not_true, Bool.false_eq_true, if_false]
    rw [u_tOr, u_fTst, u_f2, u_f1]
    simp only [u_fVar, u_ok, List.getElem?_cons_succ, List.getElem?_cons_zero, u_rdv, dLen_t, Option.map_some, dNe_ii, decide_true, Bool.not_true, Bool.false_eq_true, if_false]
    rw [u_tNot, u_fTru, u_f1, lc]
    simp only [u_ok, u_rdv, dAll_map, Option.map_some, tru_b]
    rfl
  unfold m_L_is_line b_L_is_line
  by_cases ha : ds.all (inD ds.length) = true
  · refine run_ret (ρ1 := [some (.int (ds.length : Int)), some (.tuple ds), none]) ((seq_nx (ρ1 := [some (.int (ds.length : Int)), some (.tuple ds), none]) ?_).trans ?_) rfl
    · show sIf _ _ _ [some (.int (ds.length : Int)), some (.tuple ds), none] = _
      rw [u_sIf, t1, ha]
      rfl
    · have ti : ∃ is, toInts ds = some is := by
        generalize ds.length = n at ha
        clear t1 lc h1 h2
        induction ds with
        | nil => exact ⟨[], rfl⟩
        | cons x ds ih =>
          rw [List.all_cons, Bool.and_eq_true] at ha
          obtain ⟨is, e⟩ := ih ha.2
          cases x with
          | int i => exact ⟨i :: is, by unfold toInts; rw [e]; rfl⟩
          | _ => cases ha.1
      obtain ⟨is, ei⟩ := ti
      have ed := toInts_some ei
      have hn : ds.all natD = true := by
        rw [List.all_eq_true] at ha ⊢
        intro d hd
        have := ha d hd
        cases d with
        | int i =>
          have h0 := of_decide_eq_true this
          exact decide_eq_true h0.1
        | _ => cases this
      have e1 : dSorted (.tuple ds) = some (.list ((srt is).map .int)) := by rw [ed]; exact dSorted_t is
      have e2 : okRg 0 (ds.length : Int) = true := decide_eq_true ⟨by omega, by omega, by omega, by omega, by omega⟩
      have e3 : isLn (.tuple ds) = decide (srt is = rng ds.length) := by
        show (decide (1 ≤ ds.length ∧ ds.length ≤ 10) && ds.all natD && (match toInts ds with
          | some is => decide (srt is = rng ds.length)
          | none => false)) = _
        rw [decide_eq_true (⟨h1, h2⟩ : 1 ≤ ds.length ∧ ds.length ≤ 10), hn, ei]
        rfl
      rw [e3]
      simp only [u_sRet, u_f2, u_f1, u_fVar, List.getElem?_cons_succ, List.getElem?_cons_zero, u_ok, u_rdv, e1, Option.map_some, u_fLrg, u_rRg1, e2, if_true, rgD_rng, dEq_ints]
  · rw [Bool.not_eq_true] at ha
    rw [sorted_false rfl ha]
    refine run_ret (ρ1 := [some (.int (ds.length : Int)), some (.tuple ds), none]) (seq_ret ?_) rfl
    show sIf _ _ _ [some (.int (ds.length : Int)), some (.tuple ds), none] = _
    rw [u_sIf, t1, ha]
    rfl
/-! ### what is bent -/
theorem sm_int (n : Nat) (i : Int) : smD n (.int i) = true := by unfold smD; rfl
def odds : List D := [.none, .bool true, .bool false, .int (-1), .int (10 ^ 40), .str ("0" : Str), .str ("" : Str), .tuple [], .list [], .tuple [.int 0], .tuple [.tuple []], .tuple [.none], .str ("x" : Str), .tuple [.bool true, .int 1], .int 1, .tuple [.tuple [.int 0, .int 1]], .list [.tuple [.int 0, .int 1]]]
theorem odds_sm : ∀ d ∈ odds, smD 2 d = true := by
  have h : odds.all (fun d => smD 2 d) = true := by decide +kernel
  exact fun d hd => List.all_eq_true.mp h d hd
theorem p40 : dPow (.int 10) (.int 40) = some (.int (10 ^ 40)) := by simp [dPow, oI]
theorem dAdd_tt {xs ys : List D} (h : xs.length + ys.length ≤ 1000000) : dAdd (.tuple xs) (.tuple ys) = some (.tuple (xs ++ ys)) := by
  have sz : (1000000 : Nat) < sizeLine := by rw [sizeLine_eq]; omega
  show (if xs.length + ys.length ≤ sizeLine then some (PyData.tuple (xs ++ ys)) else none) = _
  rw [if_pos (by omega)]
theorem dAdd_ll {xs ys : List D} (h : xs.length + ys.length ≤ 1000000) : dAdd (.list xs) (.list ys) = some (.list (xs ++ ys)) := by
  have sz : (1000000 : Nat) < sizeLine := by rw [sizeLine_eq]; omega
  show (if xs.length + ys.length ≤ sizeLine then some (PyData.list (xs ++ ys)) else none) = _
  rw [if_pos (by omega)]
theorem e_odd {b : Nat} {bag : D} (hb : Bag b bag) (hb2 : b ≤ 900000) : ∃ d bag', m_L_odd [some bag] = some (.ok d [some bag']) ∧ Bag (b + 1) bag' ∧ smD 2 d = true := by
  have sz : (1000000 : Nat) < sizeLine := by rw [sizeLine_eq]; omega
  obtain ⟨d, bag', e, hb', hd⟩ := e_one_of (ds := odds) hb (by omega) (by decide) (by decide)
  refine ⟨d, bag', ?_, hb', odds_sm d hd⟩
  have z0 : (0 ≤ sizeLine) = True := eq_true (by omega)
  have z1 : (0 + 1 ≤ sizeLine) = True := eq_true (by omega)
  have z2 : (0 + 1 + 1 ≤ sizeLine) = True := eq_true (by omega)
  have z15 : (0 + 1 + 1 + 1 + 1 + 1 + 1 + 1 + 1 + 1 + 1 + 1 + 1 + 1 + 1 + 1 ≤ sizeLine) = True := eq_true (by omega)
  unfold m_L_odd b_L_odd
  refine run_ret (ρ1 := [some bag', some (.list (odds.take 15))]) ((seq_nx (ρ1 := [some bag, some (.list (odds.take 15))]) ?_).trans ?_) rfl
  · simp only [List.replicate, List.cons_append, List.nil_append, u_sSet, u_fLst, u_aCons, u_fC, u_f1, u_f2, u_fTup, u_aNil, u_ok, u_rdv, dNeg_i, p40, Option.map_some, List.length_cons, List.length_nil, z0, z1, z2, z15, if_true, List.set_cons_succ, List.set_cons_zero]
    rfl
  · have ea : f2 (.t (.v false)) (.t (.v false)) dAdd (fVar 1) (fLst (aCons (fTup (aCons (fTup (aCons (fC (.int 0)) (aCons (fC (.int 1)) aNil))) aNil)) (aCons (fLst (aCons (fTup (aCons (fC (.int 0)) (aCons (fC (.int 1)) aNil))) aNil)) aNil))) [some bag, some (.list (odds.take 15))] = some (.ok (.list odds) [some bag, some (.list (odds.take 15))]) := by
      have eq : dAdd (.list (odds.take 15)) (.list [.tuple [.tuple [.int 0, .int 1]], .list [.tuple [.int 0, .int 1]]]) = some (.list odds) := by
        rw [dAdd_ll (by decide)]
        rfl
      simp only [u_f2, u_fVar, u_fLst, u_aCons, u_fTup, u_fC, u_aNil, u_ok, List.getElem?_cons_succ, List.getElem?_cons_zero, u_rdv, List.length_cons, List.length_nil, z1, z2, if_true, eq, Option.map_some]
    rw [u_sRet, call_r1 (b := none) rfl ea e]
    rfl
theorem e_put {ds : List D} (hl : ds.length ≤ 1000) (k : Nat) (d : D) : m_L_put [some (.tuple ds), some (.int (k : Int)), some d] = some (.ok (.tuple (ds.take k ++ [d] ++ ds.drop (k + 1))) [none, none, none]) := by
  have sz : (1000000 : Nat) < sizeLine := by rw [sizeLine_eq]; omega
  have z1 : (0 + 1 ≤ sizeLine) = True := eq_true (by omega)
  have a1 : dAdd (.tuple (ds.take k)) (.tuple [d]) = some (.tuple (ds.take k ++ [d])) := dAdd_tt (by rw [List.length_take]; simp; omega)
  have a2 : dAdd (.tuple (ds.take k ++ [d])) (.tuple (ds.drop (k + 1))) = some (.tuple (ds.take k ++ [d] ++ ds.drop (k + 1))) := dAdd_tt (by rw [List.length_append, List.length_take, List.length_drop]; simp; omega)
  have c1 : cutD ds none (some (k : Int)) = ds.take k := cut_to ds k
  have c2 : cutD ds (some ((k : Int) + 1)) none = ds.drop (k + 1) := cut_from ds (k + 1)
  unfold m_L_put b_L_put
  refine run_ret (ρ1 := [some (.tuple ds), some (.int (k : Int)), some d]) ?_ rfl
  simp only [List.replicate, List.append_nil, u_sRet, u_f2, u_f3, u_fVar, u_oNone, u_oSome, u_fTup, u_aCons, u_aNil, u_fC, u_ok, List.getElem?_cons_succ, List.getElem?_cons_zero, u_rdv, dCut_t, c1, Option.map_some, List.length_cons, List.length_nil, z1, if_true, a1, dAdd_ii, c2, a2]
end K76
set_option Elab.async false
set_option linter.all false
set_option maxRecDepth 100000
set_option maxHeartbeats 4000000
namespace K76
open PySem PySem.Spec PyProof.Rows L2 FN
open FNL (Bag smD smD_le okD_mono)
theorem smD_okD : ∀ {n : Nat} {d : D}, smD n d = true → okD n d = true
  | n, .none, _ => by unfold okD; rfl
  | n, .bool _, _ => by unfold okD; rfl
  | n, .int _, _ => by unfold okD; rfl
  | n, .str x, h => by unfold smD at h; unfold okD; exact h
  | n + 1, .list ds, h => by
    unfold smD at h
    unfold okD
    rw [Bool.and_eq_true, List.all_eq_true] at h
    exact List.all_eq_true.mpr fun d hd => smD_okD (h.2 d hd)
  | n + 1, .tuple ds, h => by
    unfold smD at h
    unfold okD
    rw [Bool.and_eq_true, List.all_eq_true] at h
    exact List.all_eq_true.mpr fun d hd => smD_okD (h.2 d hd)
  | 0, .list ds, h => by unfold smD at h; cases h
  | 0, .tuple ds, h => by unfold smD at h; cases h
  | n, .dict _, h => by unfold smD at h; cases h
theorem smD_tup {n : Nat} {ds : List D} (hl : ds.length ≤ 1000000) (h : ∀ d ∈ ds, smD n d = true) : smD (n + 1) (.tuple ds) = true := by
  unfold smD
  rw [Bool.and_eq_true]
  exact ⟨decide_eq_true hl, List.all_eq_true.mpr h⟩
theorem smD_lst {n : Nat} {ds : List D} (hl : ds.length ≤ 1000000) (h : ∀ d ∈ ds, smD n d = true) : smD (n + 1) (.list ds) = true := by
  unfold smD
  rw [Bool.and_eq_true]
  exact ⟨decide_eq_true hl, List.all_eq_true.mpr h⟩
/-- data whose tuples are short, k of them in each other at most -/
def tiny : Nat → D → Bool
  | 0, d => !isTuple d && smD 2 d
  | k + 1, d => match d with
    | .tuple ds => decide (ds.length ≤ 900) && ds.all (tiny k)
    | d => smD 2 d
theorem tiny_sm : ∀ {k : Nat} {d : D}, tiny k d = true → smD (k + 2) d = true
  | 0, d, h => by
    unfold tiny at h
    rw [Bool.and_eq_true] at h
    exact h.2
  | k + 1, d, h => by
    unfold tiny at h
    cases d with
    | tuple ds =>
      simp only [Bool.and_eq_true, List.all_eq_true] at h
      exact smD_tup (by have := of_decide_eq_true h.1; omega) fun d hd => tiny_sm (h.2 d hd)
    | _ => exact smD_le h (by omega)
theorem tiny_tup {k : Nat} {ds : List D} (h : tiny k (.tuple ds) = true) : ∃ j, k = j + 1 ∧ ds.length ≤ 900 ∧ ∀ d ∈ ds, tiny j d = true := by
  cases k with
  | zero => cases h
  | succ k =>
    unfold tiny at h
    simp only [Bool.and_eq_true, List.all_eq_true] at h
    exact ⟨k, rfl, of_decide_eq_true h.1, h.2⟩
theorem dEq_nil {ds : List D} {n : Nat} (h : smD n (.tuple ds) = true) (hn : n ≤ 64) : dEq (.tuple ds) (.tuple []) = some (.bool (decide (ds = []))) := by
  unfold dEq
  rw [shaped_ok (smD_okD h) hn, shaped_ok (n := 1) (d := .tuple []) (by decide)]
  cases ds <;> simp
theorem atI_nat4 {α : Type} {x0 x1 x2 x3 : α} {w : Int} (h : 0 ≤ w) : ∃ x, atI [x0, x1, x2, x3] (w % 4) = some x ∧ (x = x0 ∨ x = x1 ∨ x = x2 ∨ x = x3) := by
  have h1 : w % 4 = 0 ∨ w % 4 = 1 ∨ w % 4 = 2 ∨ w % 4 = 3 := by omega
  rcases h1 with e | e | e | e <;> rw [e]
  · exact ⟨x0, rfl, .inl rfl⟩
  · exact ⟨x1, rfl, .inr (.inl rfl)⟩
  · exact ⟨x2, rfl, .inr (.inr (.inl rfl))⟩
  · exact ⟨x3, rfl, .inr (.inr (.inr rfl))⟩
/-- a draw from the bag in slot 0 -/
theorem take_call {b : Nat} {bag : D} {ρ : FN.Env} {fx : M D} {many : Int} (h0 : ρ[0]? = some (some bag)) (hx : fx ρ = some (.ok (.int many) ρ)) (hb : Bag b bag) (hn : b ≤ 1000000) (h1 : 1 ≤ many) (h2 : many ≤ 2 ^ 62) : ∃ i bag', fCall [.r 0, .t (.v true)] (noErr m_L_take) (aCons (fRef 0) (aCons fx aNil)) ρ = some (.ok (.int i) (ρ.set 0 (some bag'))) ∧ Bag (b + 1) bag' ∧ 0 ≤ i ∧ i < many := by
  obtain ⟨i, bag', e, hb', i0, i1⟩ := e_take hb hn h1 h2
  exact ⟨i, bag', call_r1 (b := none) h0 hx e, hb', i0, i1⟩
theorem odd_call {b : Nat} {bag : D} {ρ : FN.Env} (h0 : ρ[0]? = some (some bag)) (hb : Bag b bag) (hn : b ≤ 900000) : ∃ d bag', fCall [.r 0] (noErr m_L_odd) (aCons (fRef 0) aNil) ρ = some (.ok d (ρ.set 0 (some bag'))) ∧ Bag (b + 1) bag' ∧ smD 2 d = true := by
  obtain ⟨d, bag', e, hb', hd⟩ := e_odd hb hn
  refine ⟨d, bag', ?_, hb', hd⟩
  rw [u_fCall]
  simp [h0, u_noErr, e]
/-- value with the item at k another -/
def putD (ds : List D) (k : Nat) (d : D) : List D := ds.take k ++ [d] ++ ds.drop (k + 1)
theorem putD_sm {n : Nat} {ds : List D} {k : Nat} {d : D} (hl : ds.length ≤ 900) (h : ∀ x ∈ ds, smD n x = true) (hd : smD n d = true) : smD (n + 1) (.tuple (putD ds k d)) = true := by
  refine smD_tup (by unfold putD; rw [List.length_append, List.length_append, List.length_take, List.length_drop]; simp; omega) fun x hx => ?_
  unfold putD at hx
  rcases List.mem_append.mp hx with hx | hx
  · rcases List.mem_append.mp hx with hx | hx
    · exact h x (List.mem_of_mem_take hx)
    · rw [List.mem_singleton.mp hx]
      exact hd
  · exact h x (List.mem_of_mem_drop hx)
theorem put_call {ρ ρ2 : FN.Env} {fv fk fd : M D} {ds : List D} {k : Nat} {d : D} (hl : ds.length ≤ 1000) (h1 : fv ρ = some (.ok (.tuple ds) ρ)) (h2 : fk ρ = some (.ok (.int (k : Int)) ρ)) (h3 : fd ρ = some (.ok d ρ2)) : fCall [.t (.v false), .t (.v false), .t (.v false)] (noErr m_L_put) (aCons fv (aCons fk (aCons fd aNil))) ρ = some (.ok (.tuple (putD ds k d)) ρ2) := by
  rw [u_fCall]
  simp only [u_aCons, u_aNil, h1, h2, h3, u_ok, u_fillT, u_fill0, Option.map_some, u_noErr, e_put hl k d, u_backT, u_back0]
  rfl
noncomputable def bRest (rec : M D) : FN.Env → Option Fl :=
  (sSeq (sPar 2 3 (aCons (f2 (.t (.v false)) (.t (.v false)) dMod (f1 (.t (.v false)) dInt (fVar 2)) (f1 (.t (.v false)) dLen (fVar 1))) (aCons (f2 (.t (.v false)) (.t (.v false)) dMod (f1 (.t (.v false)) dInt (fVar 3)) (f1 (.t (.v false)) dLen (fVar 1))) aNil)))
  (sSeq (sIf (fTst (f2 (.t (.v false)) (.t (.v false)) dEq (fVar 4) (fC (.int 4))))
  (sRet (f1 (.t (.v false)) dList (fVar 1)))
  sNx)
  (sSeq (sIf (fTst (f2 (.t (.v false)) (.t (.v false)) dEq (fVar 4) (fC (.int 5))))
  (sRet (fCall [.t (.v false), .t (.v false), .t (.v false)] (noErr m_L_put) (aCons (fVar 1) (aCons (fVar 2) (aCons (fCall [.r 0] (noErr m_L_odd) (aCons (fRef 0) aNil)) aNil)))))
  sNx)
  (sSeq (sIf (fTst (f2 (.t (.v false)) (.t (.v false)) dEq (fVar 4) (fC (.int 6))))
  (sRet (fCall [.t (.v false), .t (.v false), .t (.v false)] (noErr m_L_put) (aCons (fCall [.t (.v false), .t (.v false), .t (.v false)] (noErr m_L_put) (aCons (fVar 1) (aCons (fVar 2) (aCons (f2 (.t (.v false)) (.t (.v false)) dIx (fVar 1) (fVar 3)) aNil)))) (aCons (fVar 3) (aCons (f2 (.t (.v false)) (.t (.v false)) dIx (fVar 1) (fVar 2)) aNil)))))
  sNx)
  (sSeq (sIf (fTru (.t (.v false)) (f1b (.t (.v false)) isTuple (f2 (.t (.v false)) (.t (.v false)) dIx (fVar 1) (fVar 2))))
  (sRet (fCall [.t (.v false), .t (.v false), .t (.v false)] (noErr m_L_put) (aCons (fVar 1) (aCons (fVar 2) (aCons (fCall [.r 0, .t (.v false)] (noErr rec) (aCons (fRef 0) (aCons (f2 (.t (.v false)) (.t (.v false)) dIx (fVar 1) (fVar 2)) aNil))) aNil)))))
  sNx)
  (sRet (fCall [.t (.v false), .t (.v false), .t (.v false)] (noErr m_L_put) (aCons (fVar 1) (aCons (fVar 2) (aCons (fCall [.r 0, .t (.v true)] (noErr m_L_take) (aCons (fRef 0) (aCons (fC (.int 9)) aNil))) aNil))))))))))
theorem bent_rest {rec : M D} {k b : Nat} {bag : D} {ds : List D} {a t w : Nat} (hb : Bag b bag) (hb2 : b ≤ 700010) (h0 : ds ≠ []) (hl : ds.length ≤ 900) (hd : ∀ d ∈ ds, smD (k + 2) d = true) (hrec : ∀ d ∈ ds, isTuple d = true → ∀ b1 bag, Bag b1 bag → b1 ≤ b → ∃ r bag', rec [some bag, some d] = some (.ok r [some bag', none]) ∧ Bag (b1 + 4 * k) bag' ∧ smD (k + 3) r = true) :
    ∃ r bag' v ρ, bRest rec [some bag, some (.tuple ds), some (.int (a : Int)), some (.int (t : Int)), some (.int (w : Int)), none] = some (.ret r (some bag' :: v :: ρ)) ∧ Bag (b + 4 * k + 1) bag' ∧ smD (k + 4) r = true := by
  have hlp : 0 < ds.length := List.length_pos_iff.mpr h0
  have ia : a % ds.length < ds.length := Nat.mod_lt _ hlp
  have it : t % ds.length < ds.length := Nat.mod_lt _ hlp
  have xa := List.getElem?_eq_getElem ia
  have xt := List.getElem?_eq_getElem it
  have ma : ds[a % ds.length] ∈ ds := List.getElem_mem ia
  have mt : ds[t % ds.length] ∈ ds := List.getElem_mem it
  have da : dMod (.int (a : Int)) (.int (ds.length : Int)) = some (.int ((a % ds.length : Nat) : Int)) := by rw [dMod_ii (by omega), Int.natCast_emod]
  have dt : dMod (.int (t : Int)) (.int (ds.length : Int)) = some (.int ((t % ds.length : Nat) : Int)) := by rw [dMod_ii (by omega), Int.natCast_emod]
  have hd3 : ∀ d ∈ ds, smD (k + 3) d = true := fun d h => smD_le (hd d h) (by omega)
  -- the slots behind
  have s1 : sPar 2 3 (aCons (f2 (.t (.v false)) (.t (.v false)) dMod (f1 (.t (.v false)) dInt (fVar 2)) (f1 (.t (.v false)) dLen (fVar 1))) (aCons (f2 (.t (.v false)) (.t (.v false)) dMod (f1 (.t (.v false)) dInt (fVar 3)) (f1 (.t (.v false)) dLen (fVar 1))) aNil)) [some bag, some (.tuple ds), some (.int (a : Int)), some (.int (t : Int)), some (.int (w : Int)), none] = some (.nx [some bag, some (.tuple ds), some (.int ((a % ds.length : Nat) : Int)), some (.int ((t % ds.length : Nat) : Int)), some (.int (w : Int)), none]) := by
    simp only [u_sPar, u_aCons, u_aNil, u_f2, u_f1, u_fVar, u_ok, List.getElem?_cons_succ, List.getElem?_cons_zero, u_rdv, dInt_i, dLen_t, Option.map_some, da, dt, List.set_cons_succ, List.set_cons_zero]
  have ixa : ∀ b1 : D, f2 (.t (.v false)) (.t (.v false)) dIx (fVar 1) (fVar 2) [some b1, some (.tuple ds), some (.int ((a % ds.length : Nat) : Int)), some (.int ((t % ds.length : Nat) : Int)), some (.int (w : Int)), none] = some (.ok ds[a % ds.length] [some b1, some (.tuple ds), some (.int ((a % ds.length : Nat) : Int)), some (.int ((t % ds.length : Nat) : Int)), some (.int (w : Int)), none]) := fun b1 => by
    simp only [u_f2, u_fVar, u_ok, List.getElem?_cons_succ, List.getElem?_cons_zero, u_rdv, dIx_t, FN.atI_nat, xa, Option.map_some]
  have ixt : ∀ b1 : D, f2 (.t (.v false)) (.t (.v false)) dIx (fVar 1) (fVar 3) [some b1, some (.tuple ds), some (.int ((a % ds.length : Nat) : Int)), some (.int ((t % ds.length : Nat) : Int)), some (.int (w : Int)), none] = some (.ok ds[t % ds.length] [some b1, some (.tuple ds), some (.int ((a % ds.length : Nat) : Int)), some (.int ((t % ds.length : Nat) : Int)), some (.int (w : Int)), none]) := fun b1 => by
    simp only [u_f2, u_fVar, u_ok, List.getElem?_cons_succ, List.getElem?_cons_zero, u_rdv, dIx_t, FN.atI_nat, xt, Option.map_some]
  have tst : ∀ (c : Int), fTst (f2 (.t (.v false)) (.t (.v false)) dEq (fVar 4) (fC (.int c))) [some bag, some (.tuple ds), some (.int ((a % ds.length : Nat) : Int)), some (.int ((t % ds.length : Nat) : Int)), some (.int (w : Int)), none] = some (.ok (decide ((w : Int) = c)) [some bag, some (.tuple ds), some (.int ((a % ds.length : Nat) : Int)), some (.int ((t % ds.length : Nat) : Int)), some (.int (w : Int)), none]) := fun c => by
    simp only [u_fTst, u_f2, u_fVar, u_fC, u_ok, List.getElem?_cons_succ, List.getElem?_cons_zero, u_rdv, dEq_ii, Option.map_some]
  have skip : ∀ (c : Int) (f : FN.Env → Option Fl), ¬ (w : Int) = c → sIf (fTst (f2 (.t (.v false)) (.t (.v false)) dEq (fVar 4) (fC (.int c)))) f sNx [some bag, some (.tuple ds), some (.int ((a % ds.length : Nat) : Int)), some (.int ((t % ds.length : Nat) : Int)), some (.int (w : Int)), none] = some (.nx [some bag, some (.tuple ds), some (.int ((a % ds.length : Nat) : Int)), some (.int ((t % ds.length : Nat) : Int)), some (.int (w : Int)), none]) := fun c f h => by
    rw [u_sIf, tst, decide_eq_false h]
    rfl
  have hit : ∀ (c : Int) (f : FN.Env → Option Fl), (w : Int) = c → sIf (fTst (f2 (.t (.v false)) (.t (.v false)) dEq (fVar 4) (fC (.int c)))) f sNx [some bag, some (.tuple ds), some (.int ((a % ds.length : Nat) : Int)), some (.int ((t % ds.length : Nat) : Int)), some (.int (w : Int)), none] = f [some bag, some (.tuple ds), some (.int ((a % ds.length : Nat) : Int)), some (.int ((t % ds.length : Nat) : Int)), some (.int (w : Int)), none] := fun c f h => by
    rw [u_sIf, tst, decide_eq_true h]
    rfl
  unfold bRest
  rw [seq_nx s1]
  by_cases w4 : (w : Int) = 4
  · refine ⟨.list ds, bag, some (.tuple ds), [some (.int ((a % ds.length : Nat) : Int)), some (.int ((t % ds.length : Nat) : Int)), some (.int (w : Int)), none], seq_ret ((hit 4 _ w4).trans ?_), hb.mono (by omega), smD_lst (by omega) hd3⟩
    · simp only [u_sRet, u_f1, u_fVar, u_ok, List.getElem?_cons_succ, List.getElem?_cons_zero, u_rdv, dList_t, Option.map_some]
  rw [seq_nx (skip 4 _ w4)]
  by_cases w5 : (w : Int) = 5
  · obtain ⟨d, bag', e, hb', hdd⟩ := odd_call (ρ := [some bag, some (.tuple ds), some (.int ((a % ds.length : Nat) : Int)), some (.int ((t % ds.length : Nat) : Int)), some (.int (w : Int)), none]) rfl hb (by omega)
    refine ⟨.tuple (putD ds (a % ds.length) d), bag', some (.tuple ds), [some (.int ((a % ds.length : Nat) : Int)), some (.int ((t % ds.length : Nat) : Int)), some (.int (w : Int)), none], seq_ret ((hit 5 _ w5).trans ?_), hb'.mono (by omega), putD_sm hl hd3 (smD_le hdd (by omega))⟩
    · rw [u_sRet, put_call (by omega) rfl rfl e]
      rfl
  rw [seq_nx (skip 5 _ w5)]
  by_cases w6 : (w : Int) = 6
  · refine ⟨.tuple (putD (putD ds (a % ds.length) ds[t % ds.length]) (t % ds.length) ds[a % ds.length]), bag, some (.tuple ds), [some (.int ((a % ds.length : Nat) : Int)), some (.int ((t % ds.length : Nat) : Int)), some (.int (w : Int)), none], seq_ret ((hit 6 _ w6).trans ?_), hb.mono (by omega), ?_⟩
    · have p1 := put_call (ρ := [some bag, some (.tuple ds), some (.int ((a % ds.length : Nat) : Int)), some (.int ((t % ds.length : Nat) : Int)), some (.int (w : Int)), none]) (by omega : ds.length ≤ 1000) (fv := fVar 1) (fk := fVar 2) rfl rfl (ixt bag)
      have hl2 : (putD ds (a % ds.length) ds[t % ds.length]).length ≤ 1000 := by
        unfold putD
        rw [List.length_append, List.length_append, List.length_take, List.length_drop]
        simp
        omega
      rw [u_sRet, put_call hl2 p1 rfl (ixa bag)]
      rfl
    · have h1 : ∀ x ∈ putD ds (a % ds.length) ds[t % ds.length], smD (k + 3) x = true := fun x hx => by
        unfold putD at hx
        rcases List.mem_append.mp hx with hx | hx
        · rcases List.mem_append.mp hx with hx | hx
          · exact hd3 x (List.mem_of_mem_take hx)
          · rw [List.mem_singleton.mp hx]
            exact hd3 _ mt
        · exact hd3 x (List.mem_of_mem_drop hx)
      refine smD_tup ?_ fun x hx => ?_
      · unfold putD
        simp only [List.length_append, List.length_take, List.length_drop, List.length_cons, List.length_nil]
        omega
      · unfold putD at hx
        rcases List.mem_append.mp hx with hx | hx
        · rcases List.mem_append.mp hx with hx | hx
          · exact h1 x (List.mem_of_mem_take hx)
          · rw [List.mem_singleton.mp hx]
            exact hd3 _ ma
        · exact h1 x (List.mem_of_mem_drop hx)
  rw [seq_nx (skip 6 _ w6)]
  have tt : fTru (.t (.v false)) (f1b (.t (.v false)) isTuple (f2 (.t (.v false)) (.t (.v false)) dIx (fVar 1) (fVar 2))) [some bag, some (.tuple ds), some (.int ((a % ds.length : Nat) : Int)), some (.int ((t % ds.length : Nat) : Int)), some (.int (w : Int)), none] = some (.ok (isTuple ds[a % ds.length]) [some bag, some (.tuple ds), some (.int ((a % ds.length : Nat) : Int)), some (.int ((t % ds.length : Nat) : Int)), some (.int (w : Int)), none]) := by
    rw [u_fTru, u_f1b, ixa]
    simp only [u_ok, u_rdv, tru_b, Option.map_some]
  by_cases wt : isTuple ds[a % ds.length] = true
  · obtain ⟨r, bag', e, hb', hr⟩ := hrec _ ma wt b bag hb (Nat.le_refl _)
    refine ⟨.tuple (putD ds (a % ds.length) r), bag', some (.tuple ds), [some (.int ((a % ds.length : Nat) : Int)), some (.int ((t % ds.length : Nat) : Int)), some (.int (w : Int)), none], seq_ret ?_, hb'.mono (by omega), putD_sm hl hd3 hr⟩
    rw [u_sIf, tt, wt]
    show sRet _ _ = _
    have c := call_r1 (i := 0) (t := .v false) (b := none) (ρ := [some bag, some (.tuple ds), some (.int ((a % ds.length : Nat) : Int)), some (.int ((t % ds.length : Nat) : Int)), some (.int (w : Int)), none]) rfl (ixa bag) e
    rw [u_sRet, put_call (by omega) rfl rfl c]
    rfl
  · rw [Bool.not_eq_true] at wt
    obtain ⟨i, bag', e, hb', i0, i1⟩ := take_call (ρ := [some bag, some (.tuple ds), some (.int ((a % ds.length : Nat) : Int)), some (.int ((t % ds.length : Nat) : Int)), some (.int (w : Int)), none]) (fx := fC (.int 9)) rfl rfl hb (by omega) (by decide) (by decide)
    refine ⟨.tuple (putD ds (a % ds.length) (.int i)), bag', some (.tuple ds), [some (.int ((a % ds.length : Nat) : Int)), some (.int ((t % ds.length : Nat) : Int)), some (.int (w : Int)), none], (seq_nx (ρ1 := [some bag, some (.tuple ds), some (.int ((a % ds.length : Nat) : Int)), some (.int ((t % ds.length : Nat) : Int)), some (.int (w : Int)), none]) ?_).trans ?_, hb'.mono (by omega), putD_sm hl hd3 (sm_int _ _)⟩
    · rw [u_sIf, tt, wt]
      rfl
    · rw [u_sRet, put_call (by omega) rfl rfl e]
      rfl
theorem bent_one {k b : Nat} {bag : D} {ds : List D} (hb : Bag b bag) (hb2 : b ≤ 700000) (hk : k ≤ 20) (hl : ds.length ≤ 900) (hd : ∀ d ∈ ds, smD (k + 2) d = true) (hrec : ∀ d ∈ ds, isTuple d = true → ∀ b1 bag, Bag b1 bag → b1 ≤ b + 3 → ∃ r bag', m_L_bent k [some bag, some d] = some (.ok r [some bag', none]) ∧ Bag (b1 + 4 * k) bag' ∧ smD (k + 3) r = true) :
    ∃ r bag', m_L_bent (k + 1) [some bag, some (.tuple ds)] = some (.ok r [some bag', none]) ∧ Bag (b + 4 * (k + 1)) bag' ∧ smD (k + 4) r = true := by
  have sz : (1000000 : Nat) < sizeLine := by rw [sizeLine_eq]; omega
  have z1 : (0 + 1 ≤ sizeLine) = True := eq_true (by omega)
  have z3 : (0 + 1 + 1 + 1 ≤ sizeLine) = True := eq_true (by omega)
  have hs : smD (k + 3) (.tuple ds) = true := smD_tup (by omega) hd
  have ln : ∀ ρ : FN.Env, ρ[1]? = some (some (.tuple ds)) → f2 (.t (.v false)) (.t (.v false)) dAdd (f1 (.t (.v false)) dLen (fVar 1)) (fC (.int 1)) ρ = some (.ok (.int ((ds.length : Int) + 1)) ρ) := fun ρ h => by
    simp only [u_f2, u_f1, u_fVar, h, u_ok, u_rdv, dLen_t, Option.map_some, u_fC, dAdd_ii]
  obtain ⟨a, bag1, ea, hb1, a0, a1⟩ := take_call (ρ := [some bag, some (.tuple ds), none, none, none, none]) rfl (ln _ rfl) hb (by omega) (by omega) (by omega)
  obtain ⟨t, bag2, et, hb2', t0, t1⟩ := take_call (ρ := [some bag1, some (.tuple ds), none, none, none, none]) rfl (ln _ rfl) hb1 (by omega) (by omega) (by omega)
  obtain ⟨w, bag3, ew, hb3, w0, w1⟩ := take_call (ρ := [some bag2, some (.tuple ds), none, none, none, none]) (fx := fC (.int 9)) rfl rfl hb2' (by omega) (by decide) (by decide)
  obtain ⟨a, rfl⟩ := Int.eq_ofNat_of_zero_le a0
  obtain ⟨t, rfl⟩ := Int.eq_ofNat_of_zero_le t0
  obtain ⟨w, rfl⟩ := Int.eq_ofNat_of_zero_le w0
  have s0 : sIf (tNotF (fTru (.t (.v false)) (f1b (.t (.v false)) isTuple (fVar 1)))) (sRet (fVar 1)) sNx [some bag, some (.tuple ds), none, none, none, none] = some (.nx [some bag, some (.tuple ds), none, none, none, none]) := by
    simp only [u_sIf, u_tNot, u_fTru, u_f1b, u_fVar, u_ok, List.getElem?_cons_succ, List.getElem?_cons_zero, u_rdv, FN.isTuple, tru_b, Option.map_some, Bool.not_true, Bool.false_eq_true, if_false, u_sNx]
  have s1 : sPar3 2 3 4 (aCons (fCall [.r 0, .t (.v true)] (noErr m_L_take) (aCons (fRef 0) (aCons (f2 (.t (.v false)) (.t (.v false)) dAdd (f1 (.t (.v false)) dLen (fVar 1)) (fC (.int 1))) aNil))) (aCons (fCall [.r 0, .t (.v true)] (noErr m_L_take) (aCons (fRef 0) (aCons (f2 (.t (.v false)) (.t (.v false)) dAdd (f1 (.t (.v false)) dLen (fVar 1)) (fC (.int 1))) aNil))) (aCons (fCall [.r 0, .t (.v true)] (noErr m_L_take) (aCons (fRef 0) (aCons (fC (.int 9)) aNil))) aNil))) [some bag, some (.tuple ds), none, none, none, none] = some (.nx [some bag3, some (.tuple ds), some (.int (a : Int)), some (.int (t : Int)), some (.int (w : Int)), none]) := by
    rw [u_sPar3, u_aCons, ea]
    simp only [u_ok, List.set_cons_zero]
    rw [u_aCons, et]
    simp only [u_ok, List.set_cons_zero]
    rw [u_aCons, ew]
    simp only [u_ok, List.set_cons_zero, u_aNil, List.set_cons_succ]
  have dn := dEq_nil hs (by omega)
  have t1 : tOrF (fTst (f2 (.t (.v false)) (.t (.v false)) dLt (fVar 4) (fC (.int 4)))) (fTst (f2 (.t (.v false)) (.t (.v false)) dEq (fVar 1) (fTup aNil))) [some bag3, some (.tuple ds), some (.int (a : Int)), some (.int (t : Int)), some (.int (w : Int)), none] = some (.ok (decide (w < 4 ∨ ds = [])) [some bag3, some (.tuple ds), some (.int (a : Int)), some (.int (t : Int)), some (.int (w : Int)), none]) := by
    have z0 : (0 ≤ sizeLine) = True := eq_true (by omega)
    simp only [u_tOr, u_fTst, u_f2, u_fVar, u_fC, u_fTup, u_aNil, u_ok, List.getElem?_cons_succ, List.getElem?_cons_zero, u_rdv, dLt_ii, Option.map_some, List.length_nil, z0, if_true, dn]
    by_cases h1 : w < 4
    · have : ((w : Nat) : Int) < 4 := by omega
      simp [h1, this]
    · have : ¬ ((w : Nat) : Int) < 4 := by omega
      simp [h1, this]
  by_cases hw : w < 4 ∨ ds = []
  · -- one of four
    obtain ⟨d, bag4, eo, hb4, hdd⟩ := odd_call (ρ := [some bag3, some (.tuple ds), some (.int (a : Int)), some (.int (t : Int)), some (.int (w : Int)), some (.list [.tuple (ds.take a ++ ds.drop (a + 1)), .tuple (ds.take a ++ (ds.drop a).take (a + 1 - a) ++ ds.drop a), .tuple ds.reverse])]) rfl hb3 (by omega)
    obtain ⟨x, ex, hx⟩ := atI_nat4 (x0 := PyData.tuple (ds.take a ++ ds.drop (a + 1))) (x1 := .tuple (ds.take a ++ (ds.drop a).take (a + 1 - a) ++ ds.drop a)) (x2 := .tuple ds.reverse) (x3 := .tuple (ds ++ [d])) (w := (w : Int)) (by omega)
    have sm : smD (k + 4) x = true := by
      have hd3 : ∀ d ∈ ds, smD (k + 3) d = true := fun d h => smD_le (hd d h) (by omega)
      rcases hx with rfl | rfl | rfl | rfl
      · refine smD_tup (by rw [List.length_append, List.length_take, List.length_drop]; omega) fun y hy => ?_
        rcases List.mem_append.mp hy with hy | hy
        · exact hd3 y (List.mem_of_mem_take hy)
        · exact hd3 y (List.mem_of_mem_drop hy)
      · refine smD_tup (by rw [List.length_append, List.length_append, List.length_take, List.length_take, List.length_drop]; omega) fun y hy => ?_
        rcases List.mem_append.mp hy with hy | hy
        · rcases List.mem_append.mp hy with hy | hy
          · exact hd3 y (List.mem_of_mem_take hy)
          · exact hd3 y (List.mem_of_mem_drop (List.mem_of_mem_take hy))
        · exact hd3 y (List.mem_of_mem_drop hy)
      · exact smD_tup (by rw [List.length_reverse]; omega) fun y hy => hd3 y (List.mem_reverse.mp hy)
      · refine smD_tup (by rw [List.length_append]; simp; omega) fun y hy => ?_
        rcases List.mem_append.mp hy with hy | hy
        · exact hd3 y hy
        · rw [List.mem_singleton.mp hy]
          exact smD_le hdd (by omega)
    have a1' : dAdd (.tuple (ds.take a)) (.tuple (ds.drop (a + 1))) = some (.tuple (ds.take a ++ ds.drop (a + 1))) := dAdd_tt (by rw [List.length_take, List.length_drop]; omega)
    have a2' : dAdd (.tuple (ds.take a)) (.tuple ((ds.drop a).take (a + 1 - a))) = some (.tuple (ds.take a ++ (ds.drop a).take (a + 1 - a))) := dAdd_tt (by rw [List.length_take, List.length_take, List.length_drop]; omega)
    have a3' : dAdd (.tuple (ds.take a ++ (ds.drop a).take (a + 1 - a))) (.tuple (ds.drop a)) = some (.tuple (ds.take a ++ (ds.drop a).take (a + 1 - a) ++ ds.drop a)) := dAdd_tt (by rw [List.length_append, List.length_take, List.length_take, List.length_drop]; omega)
    have a4' : dAdd (.tuple ds) (.tuple [d]) = some (.tuple (ds ++ [d])) := dAdd_tt (by simp; omega)
    have c1 : cutD ds none (some (a : Int)) = ds.take a := cut_to ds a
    have c2 : cutD ds (some ((a : Int) + 1)) none = ds.drop (a + 1) := cut_from ds (a + 1)
    have c3 : cutD ds (some (a : Int)) (some ((a : Int) + 1)) = (ds.drop a).take (a + 1 - a) := cut_mid ds a (a + 1)
    have c4 : cutD ds (some (a : Int)) none = ds.drop a := cut_from ds a
    have s2 : sSet 5 (fLst (aCons (f2 (.t (.v false)) (.t (.v false)) dAdd (f3 (.t (.v false)) (fVar 1) oNone (oSome (fVar 2))) (f3 (.t (.v false)) (fVar 1) (oSome (f2 (.t (.v false)) (.t (.v false)) dAdd (fVar 2) (fC (.int 1)))) oNone)) (aCons (f2 (.t (.v false)) (.t (.v false)) dAdd (f2 (.t (.v false)) (.t (.v false)) dAdd (f3 (.t (.v false)) (fVar 1) oNone (oSome (fVar 2))) (f3 (.t (.v false)) (fVar 1) (oSome (fVar 2)) (oSome (f2 (.t (.v false)) (.t (.v false)) dAdd (fVar 2) (fC (.int 1)))))) (f3 (.t (.v false)) (fVar 1) (oSome (fVar 2)) oNone)) (aCons (f1 (.t (.v false)) dRev (fVar 1)) aNil)))) [some bag3, some (.tuple ds), some (.int (a : Int)), some (.int (t : Int)), some (.int (w : Int)), none] = some (.nx [some bag3, some (.tuple ds), some (.int (a : Int)), some (.int (t : Int)), some (.int (w : Int)), some (.list [.tuple (ds.take a ++ ds.drop (a + 1)), .tuple (ds.take a ++ (ds.drop a).take (a + 1 - a) ++ ds.drop a), .tuple ds.reverse])]) := by
      simp only [u_sSet, u_fLst, u_aCons, u_aNil, u_f2, u_f3, u_f1, u_fVar, u_fC, u_oNone, u_oSome, u_ok, List.getElem?_cons_succ, List.getElem?_cons_zero, u_rdv, dCut_t, c1, c2, c3, c4, Option.map_some, dAdd_ii, a1', a2', a3', dRev_t, List.length_cons, List.length_nil, z3, if_true, List.set_cons_succ, List.set_cons_zero]
    have dm : dMod (.int (w : Int)) (.int 4) = some (.int ((w : Int) % 4)) := dMod_ii (by decide)
    have al : dAdd (.list [.tuple (ds.take a ++ ds.drop (a + 1)), .tuple (ds.take a ++ (ds.drop a).take (a + 1 - a) ++ ds.drop a), .tuple ds.reverse]) (.list [.tuple (ds ++ [d])]) = some (.list [.tuple (ds.take a ++ ds.drop (a + 1)), .tuple (ds.take a ++ (ds.drop a).take (a + 1 - a) ++ ds.drop a), .tuple ds.reverse, .tuple (ds ++ [d])]) := dAdd_ll (by simp)
    have s3 : sRet (f2 (.t (.v false)) (.t (.v false)) dIx (f2 (.t (.v false)) (.t (.v false)) dAdd (fVar 5) (fLst (aCons (f2 (.t (.v false)) (.t (.v false)) dAdd (fVar 1) (fTup (aCons (fCall [.r 0] (noErr m_L_odd) (aCons (fRef 0) aNil)) aNil))) aNil))) (f2 (.t (.v false)) (.t (.v false)) dMod (f1 (.t (.v false)) dInt (fVar 4)) (fC (.int 4)))) [some bag3, some (.tuple ds), some (.int (a : Int)), some (.int (t : Int)), some (.int (w : Int)), some (.list [.tuple (ds.take a ++ ds.drop (a + 1)), .tuple (ds.take a ++ (ds.drop a).take (a + 1 - a) ++ ds.drop a), .tuple ds.reverse])] = some (.ret x [some bag4, some (.tuple ds), some (.int (a : Int)), some (.int (t : Int)), some (.int (w : Int)), some (.list [.tuple (ds.take a ++ ds.drop (a + 1)), .tuple (ds.take a ++ (ds.drop a).take (a + 1 - a) ++ ds.drop a), .tuple ds.reverse])]) := by
      simp only [u_sRet, u_f2, u_f1, u_fLst, u_aCons, u_aNil, u_fTup, u_fVar, u_fC, u_ok, List.getElem?_cons_succ, List.getElem?_cons_zero, eo, List.set_cons_zero, List.length_cons, List.length_nil, z1, if_true, u_rdv, a4', Option.map_some, al, dInt_i, dm, dIx_l, ex]
    refine ⟨x, bag4, ?_, hb4.mono (by omega), sm⟩
    show runF _ _ _ _ _ = _
    refine run_ret ((seq_nx s0).trans ((seq_nx s1).trans (seq_ret (ρ1 := [some bag4, some (.tuple ds), some (.int (a : Int)), some (.int (t : Int)), some (.int (w : Int)), some (.list [.tuple (ds.take a ++ ds.drop (a + 1)), .tuple (ds.take a ++ (ds.drop a).take (a + 1 - a) ++ ds.drop a), .tuple ds.reverse])]) (d := x) ?_))) rfl
    rw [u_sIf, t1, decide_eq_true hw]
    show sSeq _ _ _ = _
    rw [seq_nx s2, s3]
  · have h0 : ds ≠ [] := fun z => hw (.inr z)
    obtain ⟨r, bag4, v, ρ, e, hb4, hr⟩ := bent_rest (rec := m_L_bent k) (a := a) (t := t) (w := w) hb3 (by omega) h0 hl hd (fun d h1 h2 b1 bag1 hb1 hb1' => hrec d h1 h2 b1 bag1 hb1 (by omega))
    refine ⟨r, bag4, ?_, hb4.mono (by omega), hr⟩
    show runF _ _ _ _ _ = _
    refine run_ret ((seq_nx s0).trans ((seq_nx s1).trans ((seq_nx (ρ1 := [some bag3, some (.tuple ds), some (.int (a : Int)), some (.int (t : Int)), some (.int (w : Int)), none]) ?_).trans e))) rfl
    rw [u_sIf, t1, decide_eq_false hw]
    rfl
theorem e_bent : ∀ (k : Nat) {b : Nat} {bag : D} {ds : List D}, Bag b bag → b + 10 * k ≤ 700000 → k ≤ 20 → ds.length ≤ 900 → (∀ d ∈ ds, tiny k d = true) → ∃ r bag', m_L_bent (k + 1) [some bag, some (.tuple ds)] = some (.ok r [some bag', none]) ∧ Bag (b + 4 * (k + 1)) bag' ∧ smD (k + 4) r = true := by
  intro k
  induction k with
  | zero =>
    intro b bag ds hb hb2 hk hl hd
    refine bent_one (k := 0) hb (by omega) (by omega) hl (fun d h => tiny_sm (hd d h)) fun d h ht => ?_
    have := hd d h
    unfold tiny at this
    rw [ht] at this
    cases this
  | succ k ih =>
    intro b bag ds hb hb2 hk hl hd
    refine bent_one (k := k + 1) hb (by omega) (by omega) hl (fun d h => tiny_sm (hd d h)) fun d h ht b1 bag1 hb1 hb1' => ?_
    cases d with
    | tuple es =>
      obtain ⟨j, e, h1, h2⟩ := tiny_tup (hd _ h)
      cases e
      exact ih hb1 (by omega) (by omega) h1 h2
    | _ => cases ht
end K76
set_option Elab.async false
set_option linter.all false
set_option maxRecDepth 100000
set_option maxHeartbeats 4000000
namespace K76
open PySem PySem.Spec PyProof.Rows L2 FN
open FNL (Bag smD smD_le)
open FB (found look Goal)
/-! ### lines as nodes, pairs as deeds -/
def pD (p : Nat × Nat) : D := .tuple [.int (p.1 : Int), .int (p.2 : Int)]
def EN : FB.Enc (List Nat) (Nat × Nat) where
  ea := tl
  ka := fun l => l.map fun (i : Nat) => .inl (i : Int)
  ed := pD
  key := fun l => by
    have e : tl l = .tuple ((l.map fun (i : Nat) => (.inl (i : Int) : Key)).map kD) := by
      unfold tl
      rw [List.map_map]
      rfl
    rw [e]
    exact tkey_kD _
  inj := fun a b h => by
    have : ∀ a b : List Nat, (a.map fun (i : Nat) => (.inl (i : Int) : Key)) = (b.map fun (i : Nat) => (.inl (i : Int) : Key)) → a = b := by
      intro a
      induction a with
      | nil =>
        intro b h
        cases b with
        | nil => rfl
        | cons y b => cases h
      | cons x a ih =>
        intro b h
        cases b with
        | nil => cases h
        | cons y b =>
          rw [List.map_cons, List.map_cons, List.cons.injEq] at h
          have hx : ((x : Nat) : Int) = (y : Int) := Sum.inl.inj h.1
          rw [ih b h.2, show x = y by omega]
    exact this a b h
/-- the stretch from i to j turned -/
def turn (l : List Nat) (p : Nat × Nat) : List Nat := l.take p.1 ++ ((l.drop p.1).take (p.2 + 1 - p.1)).reverse ++ l.drop (p.2 + 1)
theorem turn_perm {l : List Nat} {p : Nat × Nat} (h : p.1 ≤ p.2) : (turn l p).Perm l := by
  unfold turn
  have e : (l.drop p.1).take (p.2 + 1 - p.1) ++ l.drop (p.2 + 1) = l.drop p.1 := by
    have h2 : l.drop (p.2 + 1) = (l.drop p.1).drop (p.2 + 1 - p.1) := by rw [List.drop_drop, show p.1 + (p.2 + 1 - p.1) = p.2 + 1 by omega]
    rw [h2, List.take_append_drop]
  have h1 : (l.take p.1 ++ ((l.drop p.1).take (p.2 + 1 - p.1)).reverse ++ l.drop (p.2 + 1)).Perm (l.take p.1 ++ ((l.drop p.1).take (p.2 + 1 - p.1)) ++ l.drop (p.2 + 1)) := ((List.reverse_perm _).append_left _).append_right _
  have h3 : l.take p.1 ++ ((l.drop p.1).take (p.2 + 1 - p.1)) ++ l.drop (p.2 + 1) = l := by rw [List.append_assoc, e, List.take_append_drop]
  rw [h3] at h1
  exact h1
theorem tl_app (a b : List Nat) (h : a.length + b.length ≤ 1000000) : dAdd (tl a) (tl b) = some (tl (a ++ b)) := by
  unfold tl
  rw [dAdd_tt (by rw [List.length_map, List.length_map]; exact h), List.map_append]
theorem cut1 (l : List Nat) (i : Nat) : cutD (il l) none (some (i : Int)) = il (l.take i) := by rw [cut_to]; unfold il; rw [List.map_take]
theorem cut2 (l : List Nat) (i j : Nat) : cutD (il l) (some (i : Int)) (some ((j : Int) + 1)) = il ((l.drop i).take (j + 1 - i)) := by
  have := cut_mid (il l) i (j + 1)
  rw [show (((j + 1 : Nat) : Nat) : Int) = (j : Int) + 1 by omega] at this
  rw [this]
  unfold il
  rw [List.map_take, List.map_drop]
theorem cut3 (l : List Nat) (j : Nat) : cutD (il l) (some ((j : Int) + 1)) none = il (l.drop (j + 1)) := by
  have := cut_from (il l) (j + 1)
  rw [show (((j + 1 : Nat) : Nat) : Int) = (j : Int) + 1 by omega] at this
  rw [this]
  unfold il
  rw [List.map_drop]
theorem rev_il (l : List Nat) : dRev (.tuple (il l)) = some (.tuple (il l.reverse)) := by
  rw [dRev_t]
  unfold il
  rw [List.map_reverse]
theorem tl_il (l : List Nat) : tl l = .tuple (il l) := rfl
theorem turn_val {l : List Nat} {p : Nat × Nat} (hl : l.length ≤ 1000) {ρ : FN.Env} {k i j : Nat} {x : Option D} (h0 : ρ[k]? = some (some (tl l))) (h1 : ρ[i]? = some (some (.int (p.1 : Int)))) (h2 : ρ[j]? = some (some (.int (p.2 : Int)))) :
    f2 (.t (.v false)) (.t (.v false)) dAdd (f2 (.t (.v false)) (.t (.v false)) dAdd (f3 (.t (.v false)) (fVar k) oNone (oSome (fVar i))) (f1 (.t (.v false)) dRev (f3 (.t (.v false)) (fVar k) (oSome (fVar i)) (oSome (f2 (.t (.v false)) (.t (.v false)) dAdd (fVar j) (fC (.int 1))))))) (f3 (.t (.v false)) (fVar k) (oSome (f2 (.t (.v false)) (.t (.v false)) dAdd (fVar j) (fC (.int 1)))) oNone) ρ = some (.ok (tl (turn l p)) ρ) := by
  have a1 := tl_app (l.take p.1) ((l.drop p.1).take (p.2 + 1 - p.1)).reverse (by rw [List.length_reverse, List.length_take, List.length_take, List.length_drop]; omega)
  have a2 := tl_app (l.take p.1 ++ ((l.drop p.1).take (p.2 + 1 - p.1)).reverse) (l.drop (p.2 + 1)) (by rw [List.length_append, List.length_reverse, List.length_take, List.length_take, List.length_drop, List.length_drop]; omega)
  simp only [tl_il] at a1 a2 h0 ⊢
  simp only [u_f2, u_f3, u_f1, u_fVar, h0, h1, h2, u_oNone, u_oSome, u_fC, u_ok, u_rdv, dCut_t, cut1, cut2, cut3, Option.map_some, dAdd_ii, rev_il, a1, a2]
  rfl
theorem e_reversed {l : List Nat} {p : Nat × Nat} (hl : l.length ≤ 1000) : m_reversed_by [some (EN.ea l), some (EN.ed p)] = some (.ok (EN.ea (turn l p)) [none, none]) := by
  show m_reversed_by [some (tl l), some (pD p)] = some (.ok (tl (turn l p)) [none, none])
  unfold m_reversed_by b_reversed_by
  have s1 : sAsg (gTp (gsCons (gNm 2) (gsCons (gNm 3) gsNil))) (fVar 1) ([some (tl l), some (pD p)] ++ List.replicate 2 none) = some (.nx [some (tl l), some (pD p), some (.int (p.1 : Int)), some (.int (p.2 : Int))]) := by
    rw [u_sAsg]
    rfl
  refine run_ret (ρ1 := [some (tl l), some (pD p), some (.int (p.1 : Int)), some (.int (p.2 : Int))]) ((seq_nx s1).trans ?_) rfl
  rw [u_sRet, turn_val (x := none) hl rfl rfl rfl]
  rfl
theorem e_turned {l : List Nat} {p : Nat × Nat} (hl : l.length ≤ 1000) : m_L_turned [some (tl l), some (.int (p.1 : Int)), some (.int (p.2 : Int))] = some (.ok (tl (turn l p)) [none, none, none]) := by
  unfold m_L_turned b_L_turned
  refine run_ret (ρ1 := [some (tl l), some (.int (p.1 : Int)), some (.int (p.2 : Int))]) ?_ rfl
  simp only [List.replicate, List.append_nil]
  rw [u_sRet, turn_val (x := none) hl rfl rfl rfl]
  rfl
/-! ### all pairs; what is reached by them -/
def pairs (n : Nat) : List (Nat × Nat) := (List.range n).flatMap fun i => (List.range (n - 1 - i)).map fun d => (i, i + 1 + d)
theorem mem_pairs {n : Nat} {p : Nat × Nat} : p ∈ pairs n ↔ p.1 < p.2 ∧ p.2 < n := by
  unfold pairs
  rw [List.mem_flatMap]
  constructor
  · rintro ⟨i, hi, h⟩
    obtain ⟨d, hd, rfl⟩ := List.mem_map.mp h
    rw [List.mem_range] at hi hd
    exact ⟨by show i < i + 1 + d; omega, by show i + 1 + d < n; omega⟩
  · rintro ⟨h1, h2⟩
    refine ⟨p.1, List.mem_range.mpr (by omega), List.mem_map.mpr ⟨p.2 - p.1 - 1, List.mem_range.mpr (by omega), ?_⟩⟩
    show (p.1, p.1 + 1 + (p.2 - p.1 - 1)) = p
    rw [show p.1 + 1 + (p.2 - p.1 - 1) = p.2 by omega]
theorem pairs_rowsD (n : Nat) : rowsD (pairsL n) = (pairs n).map pD := by
  unfold rowsD pairsL pairs
  rw [List.map_flatMap, List.map_flatMap]
  congr 1
  funext i
  rw [List.map_map, List.map_map]
  rfl
theorem perm_reach {l l' : List Nat} (h : l.Perm l') : ∀ P : List Nat → Prop, (∀ m i, P m → i + 1 < m.length → P (turn m (i, i + 1))) → P l → P l' := by
  induction h with
  | nil => exact fun P _ h => h
  | cons x _ ih =>
    intro P hc h
    refine ih (fun m => P (x :: m)) (fun m i hm hi => ?_) h
    have := hc (x :: m) (i + 1) hm (by rw [List.length_cons]; omega)
    have e : turn (x :: m) (i + 1, i + 1 + 1) = x :: turn m (i, i + 1) := by
      unfold turn
      show (x :: m).take (i + 1) ++ (((x :: m).drop (i + 1)).take (i + 1 + 1 + 1 - (i + 1))).reverse ++ (x :: m).drop (i + 1 + 1 + 1) = x :: (m.take i ++ ((m.drop i).take (i + 1 + 1 - i)).reverse ++ m.drop (i + 1 + 1))
      rw [List.take_succ_cons, List.drop_succ_cons, List.drop_succ_cons, show i + 1 + 1 + 1 - (i + 1) = i + 1 + 1 - i by omega]
      rfl
    rw [e] at this
    exact this
  | swap x y l =>
    intro P hc h
    exact hc (y :: x :: l) 0 h (by rw [List.length_cons, List.length_cons]; omega)
  | trans _ _ ih1 ih2 => exact fun P hc h => ih2 P hc (ih1 P hc h)
/-- all rows of k numbers under n -/
def uni (n : Nat) : Nat → List (List Nat)
  | 0 => [[]]
  | k + 1 => (uni n k).flatMap fun l => (List.range n).map fun i => i :: l
theorem uni_len (n : Nat) : ∀ k, (uni n k).length = n ^ k
  | 0 => rfl
  | k + 1 => by
    unfold uni
    have : ∀ L : List (List Nat), (L.flatMap fun l => (List.range n).map fun i => i :: l).length = L.length * n := by
      intro L
      induction L with
      | nil => simp
      | cons l L ih =>
        rw [List.flatMap_cons, List.length_append, ih, List.length_map, List.length_range, List.length_cons, Nat.succ_mul, Nat.add_comm]
    rw [this, uni_len n k, Nat.pow_succ]
theorem uni_mem {n : Nat} : ∀ {k : Nat} {l : List Nat}, l.length = k → (∀ i ∈ l, i < n) → l ∈ uni n k
  | 0, l, h, _ => by
    rw [List.length_eq_zero_iff.mp h]
    exact List.mem_singleton_self _
  | k + 1, [], h, _ => by cases h
  | k + 1, x :: l, h, hl => by
    unfold uni
    rw [List.mem_flatMap]
    exact ⟨l, uni_mem (by simpa using h) fun i hi => hl i (List.mem_cons_of_mem _ hi), List.mem_map.mpr ⟨x, List.mem_range.mpr (hl x List.mem_cons_self), rfl⟩⟩
def nbT (n : Nat) (a : List Nat) : List ((Nat × Nat) × List Nat) := (pairs n).map fun d => (d, turn a d)
theorem found_isL {n : Nat} {one : List Nat} (h : IsL n one) : ∀ t, ∀ q ∈ found (nbT n) one t, IsL n q.1 := FB.found_all (P := IsL n) h fun a ha e he => by
  unfold nbT at he
  obtain ⟨d, hd, rfl⟩ := List.mem_map.mp he
  exact (turn_perm (Nat.le_of_lt (mem_pairs.mp hd).1)).trans ha
theorem found_small {n : Nat} (hn : n ≤ 6) {one : List Nat} (h : IsL n one) (t : Nat) : (found (nbT n) one t).length ≤ 46656 := by
  have h1 := FB.nodup_le (m := uni n n) (FB.found_nodup (nb := nbT n) (one := one) t) (fun a ha => by
    obtain ⟨q, hq, rfl⟩ := List.mem_map.mp ha
    have hL := found_isL h t q hq
    exact uni_mem hL.len fun i hi => List.mem_range.mp (hL.mem_iff.mp hi))
  rw [List.length_map, uni_len] at h1
  have h2 : n ^ n ≤ 46656 := by
    have : n = 0 ∨ n = 1 ∨ n = 2 ∨ n = 3 ∨ n = 4 ∨ n = 5 ∨ n = 6 := by omega
    rcases this with rfl | rfl | rfl | rfl | rfl | rfl | rfl <;> decide
  omega
theorem goal {n : Nat} (hn : n ≤ 6) {one other : List Nat} (h1 : IsL n one) (h2 : IsL n other) : ∃ T p, Goal (nbT n) one other 50000 T p := by
  obtain ⟨T, hT, low, at_⟩ := FB.first_time (nb := nbT n) (one := one) (other := other) (B := 46656) (found_small hn h1) (fun P hP hc => by
    have := perm_reach (h1.trans h2.symm) (fun m => P m ∧ m.length = n) (fun m i hm hi => by
      refine ⟨hc m hm.1 ((i, i + 1), turn m (i, i + 1)) ?_, ?_⟩
      · unfold nbT
        exact List.mem_map.mpr ⟨(i, i + 1), mem_pairs.mpr ⟨Nat.lt_succ_self _, by rw [← hm.2]; exact hi⟩, rfl⟩
      · rw [(turn_perm (p := (i, i + 1)) (Nat.le_succ _)).length_eq, hm.2]) ⟨hP, h1.len⟩
    exact this.1)
  obtain ⟨p, hp⟩ := Option.isSome_iff_exists.mp at_
  exact ⟨T, p, low, hp, by omega, fun t => by have := found_small hn h1 t; omega⟩
/-! ### the program's row -/
theorem sr_eq : m_shortest_row__reversed_by = FB.srM m_reversed_by := rfl
theorem e_row {n T : Nat} {one other : List Nat} {p : List (Nat × Nat)} (hn : n ≤ 6) (h1 : IsL n one) (h2 : IsL n other) (G : Goal (nbT n) one other 50000 T p) : m_row_of_turns [some (tl one), some (tl other)] = some (.ok (EN.pa p) [none, none]) := by
  have e := FB.e_sr (E := EN) (g := m_reversed_by) (f := turn) (deeds := pairs n) (P := fun l => l.length = n) (one := one) (other := other) (B := 50000) (T := T) (p := p) (by omega) h1.len (fun a ha d hd => by
    rw [(turn_perm (Nat.le_of_lt (mem_pairs.mp hd).1)).length_eq, ha]) (fun a ha d hd => e_reversed (by omega)) G (.dict [])
  rw [← sr_eq] at e
  unfold m_row_of_turns b_row_of_turns
  refine run_ret (ρ1 := [some (tl one), some (tl other)]) ?_ rfl
  simp only [List.replicate, List.append_nil]
  have hr : rowsD (pairsL n) = (pairs n).map EN.ed := pairs_rowsD n
  have hc : fTupCb2 (.t (.v false)) (f1 (.t (.v false)) dLen (fVar 0)) [some (tl one), some (tl other)] = some (.ok (.tuple ((pairs n).map EN.ed)) [some (tl one), some (tl other)]) := by
    have hr2 : 0 ≤ (n : Int) ∧ (n : Int) ≤ 10 := by omega
    simp only [u_fTupCb2, u_f1, u_fVar, u_ok, List.getElem?_cons_zero, u_rdv, len_tl, Option.map_some, h1.len, hr2, and_self, if_true, Int.toNat_natCast, hr]
  have hne : noErr m_shortest_row__reversed_by [some (tl one), some (tl other), some (.tuple ((pairs n).map EN.ed)), some (.dict [])] = some (.ok (EN.pa p) [none, none, none, some (.dict [])]) := by rw [u_noErr]; exact (by rw [show m_shortest_row__reversed_by [some (tl one), some (tl other), some (.tuple ((pairs n).map EN.ed)), some (.dict [])] = _ from e])
  rw [u_sRet, u_fCall]
  simp only [u_aCons, u_aNil, u_fVar, u_ok, List.getElem?_cons_succ, List.getElem?_cons_zero, hc, u_fTok, u_fillT, u_fill0, Option.map_some, hne, u_backT, u_back0]
theorem e_turns {n T : Nat} {one other : List Nat} {p : List (Nat × Nat)} (h0 : 1 ≤ n) (hn : n ≤ 6) (h1 : IsL n one) (h2 : IsL n other) (G : Goal (nbT n) one other 50000 T p) : m_turns [some (tl one), some (tl other)] = some (.ok (EN.pa p) [none, none]) := by
  have en := e_need_len (isLn_tl h1 h0 (by omega)) (isLn_tl h2 h0 (by omega))
  rw [if_pos (by rw [h1.len, h2.len])] at en
  unfold m_turns b_turns
  refine run_ret (ρ1 := [some (tl one), some (tl other)]) ((seq_nx (ρ1 := [some (tl one), some (tl other)]) ?_).trans ?_) rfl
  · simp only [List.replicate, List.append_nil]
    rw [u_sDrop, call_t2x rfl rfl en]
    rfl
  · rw [u_sRet, call_t2 rfl rfl (e_row hn h1 h2 G)]
    rfl
end K76
set_option Elab.async false
set_option linter.all false
set_option maxRecDepth 100000
set_option maxHeartbeats 4000000
namespace K76
open PySem PySem.Spec PyProof.Rows L2 FN
open FNL (Bag smD smD_le)
open FB (found look Goal add1 add1_pre fold_pre look_mono found_pre found_step found_nodup look_nodup found_path Fo)
/-! ### the law's search, level by level -/
noncomputable def lfStep : FN.Env → Option Fl :=
  (sSeq (sSet 9 (fCall [.t (.v false), .t (.v false), .t (.v false)] (noErr m_L_turned) (aCons (fVar 7) (aCons (fVar 3) (aCons (fVar 8) aNil)))))
  (sIf (fTst (fDIn true true (.r 4) (fVar 9) (fRef 4)))
  (sSeq (sDPut true 4 (fVar 9) (f2 (.t (.v false)) (.t (.v false)) dAdd (fDGet true (.r 4) (fRef 4) (fVar 7)) (fTup (aCons (fTup (aCons (fVar 3) (aCons (fVar 8) aNil))) aNil))))
  (sDrop (fMt 6 oApp (fVar 9))))
  sNx))
def lfEnv (one other : List Nat) (n n0 : Nat) (K : Fo (List Nat) (Nat × Nat)) (lev : List D) (x3 x7 x8 x9 : Option D) : FN.Env := [some (tl one), some (tl other), some (.list ((pairs n).map pD)), x3, some (.dict (EN.dk K)), some (.list lev), some (.list (EN.ks (K.drop n0))), x7, x8, x9]
theorem lf_step {one other a : List Nat} {n n0 : Nat} {K : Fo (List Nat) (Nat × Nat)} {lev : List D} {q : List (Nat × Nat)} {p : Nat × Nat} {x9 : Option D} (ha : a.length ≤ 1000) (hq : look K a = some q) (hl : q.length < 1000000) (hK : K.length < 1000000) (h0 : n0 ≤ K.length) :
    ∃ x9', lfStep (lfEnv one other n n0 K lev (some (.int (p.1 : Int))) (some (tl a)) (some (.int (p.2 : Int))) x9) = some (.nx (lfEnv one other n n0 (add1 q K (p, turn a p)) lev (some (.int (p.1 : Int))) (some (tl a)) (some (.int (p.2 : Int))) x9')) := by
  refine ⟨some (tl (turn a p)), ?_⟩
  have sz : (1000000 : Nat) < sizeLine := by rw [sizeLine_eq]; omega
  have keyT : ∀ b, keyOf true (tl b) = some (EN.ka b) := EN.key
  have s1 : sSet 9 (fCall [.t (.v false), .t (.v false), .t (.v false)] (noErr m_L_turned) (aCons (fVar 7) (aCons (fVar 3) (aCons (fVar 8) aNil)))) (lfEnv one other n n0 K lev (some (.int (p.1 : Int))) (some (tl a)) (some (.int (p.2 : Int))) x9) = some (.nx (lfEnv one other n n0 K lev (some (.int (p.1 : Int))) (some (tl a)) (some (.int (p.2 : Int))) (some (tl (turn a p))))) := by
    rw [u_sSet, call_t3 (x := tl a) (y := .int (p.1 : Int)) (z := .int (p.2 : Int)) rfl rfl rfl (e_turned ha)]
    rfl
  have tst : fTst (fDIn true true (.r 4) (fVar 9) (fRef 4)) (lfEnv one other n n0 K lev (some (.int (p.1 : Int))) (some (tl a)) (some (.int (p.2 : Int))) (some (tl (turn a p)))) = some (.ok (!(look K (turn a p)).isSome) (lfEnv one other n n0 K lev (some (.int (p.1 : Int))) (some (tl a)) (some (.int (p.2 : Int))) (some (tl (turn a p))))) := by
    unfold lfEnv
    simp only [u_fTst, u_fDIn, u_fVar, u_fRef, List.getElem?_cons_succ, List.getElem?_cons_zero, u_ok, u_rdDr, keyT, FB.Enc.look, Option.isSome_map, if_true]
  unfold lfStep
  rw [seq_nx s1, u_sIf, tst]
  unfold add1
  cases h : look K (turn a p) with
  | some pb => rfl
  | none =>
    simp only [Option.isSome_none, Bool.not_false, u_ok, if_true, Bool.false_eq_true, if_false]
    have e1 : (0 + 1 ≤ sizeLine) = True := eq_true (by omega)
    have e12 : (0 + 1 + 1 ≤ sizeLine) = True := eq_true (by omega)
    have e2 : dAdd (EN.pa q) (.tuple [.tuple [.int (p.1 : Int), .int (p.2 : Int)]]) = some (EN.pa (q ++ [p])) := by
      unfold FB.Enc.pa
      rw [dAdd_tt (by rw [List.length_map]; simp; omega), List.map_append]
      rfl
    have e3 : ((EN.dk K).length < sizeLine) = True := eq_true (by rw [FB.Enc.dk_len]; omega)
    have e5 : dput true (EN.dk K) (tl (turn a p)) (EN.ka (turn a p)) (EN.pa (q ++ [p])) = EN.dk (K ++ [(turn a p, q ++ [p])]) := FB.Enc.put (E := EN) (q ++ [p]) h
    have s2 : sDPut true 4 (fVar 9) (f2 (.t (.v false)) (.t (.v false)) dAdd (fDGet true (.r 4) (fRef 4) (fVar 7)) (fTup (aCons (fTup (aCons (fVar 3) (aCons (fVar 8) aNil))) aNil))) (lfEnv one other n n0 K lev (some (.int (p.1 : Int))) (some (tl a)) (some (.int (p.2 : Int))) (some (tl (turn a p)))) = some (.nx [some (tl one), some (tl other), some (.list ((pairs n).map pD)), some (.int (p.1 : Int)), some (.dict (EN.dk (K ++ [(turn a p, q ++ [p])]))), some (.list lev), some (.list (EN.ks (K.drop n0))), some (tl a), some (.int (p.2 : Int)), some (tl (turn a p))]) := by
      unfold lfEnv
      simp only [u_sDPut, u_f2, u_fDGet, u_fVar, u_fRef, u_fTup, u_aCons, u_aNil, List.getElem?_cons_succ, List.getElem?_cons_zero, u_ok, u_rdDr, keyT, FB.Enc.look, hq, Option.map_some, List.length_cons, List.length_nil, e1, e12, if_true, u_rdv, e2, e3, e5, List.set_cons_succ, List.set_cons_zero]
    have e4 : oApp (EN.ks (K.drop n0)) (tl (turn a p)) = some (.none, EN.ks ((K ++ [(turn a p, q ++ [p])]).drop n0)) := by
      unfold oApp
      rw [if_pos (by rw [FB.Enc.ks_len, List.length_drop]; omega), List.drop_append_of_le_length h0, FB.Enc.ks_app]
      rfl
    rw [seq_nx s2]
    unfold lfEnv
    simp only [u_sDrop, u_fMt, u_fVar, List.getElem?_cons_succ, List.getElem?_cons_zero, u_ok, e4, Option.map_some, List.set_cons_succ, List.set_cons_zero]
theorem lf_for {one other a : List Nat} {n n0 : Nat} {lev : List D} {q : List (Nat × Nat)} (ha : a.length ≤ 1000) (hl : q.length < 1000000) : ∀ (l : List (Nat × Nat)) (K : Fo (List Nat) (Nat × Nat)) (x3 x8 x9 : Option D), look K a = some q → ((l.map fun d => (d, turn a d)).foldl (add1 q) K).length < 50000 → n0 ≤ K.length →
    ∃ x3' x8' x9', forL (gTp (gsCons (gNm 3) (gsCons (gNm 8) gsNil))) lfStep (l.map pD) (lfEnv one other n n0 K lev x3 (some (tl a)) x8 x9) = some (.nx (lfEnv one other n n0 ((l.map fun d => (d, turn a d)).foldl (add1 q) K) lev x3' (some (tl a)) x8' x9'))
  | [], K, x3, x8, x9, _, _, _ => ⟨x3, x8, x9, rfl⟩
  | p :: l, K, x3, x8, x9, hq, hK, h0 => by
    simp only [List.map_cons, List.foldl_cons] at hK ⊢
    have pre := (add1_pre (p := q) (K := K) (e := (p, turn a p)))
    have h1 := (pre.trans (fold_pre (p := q) (es := l.map fun d => (d, turn a d)))).length_le
    obtain ⟨x9', e⟩ := lf_step (one := one) (other := other) (n := n) (lev := lev) (p := p) (x9 := x9) ha hq hl (by omega) h0
    obtain ⟨y3, y8, y9, e2⟩ := lf_for ha hl l (add1 q K (p, turn a p)) (some (.int (p.1 : Int))) (some (.int (p.2 : Int))) x9' (look_mono pre hq) hK (Nat.le_trans h0 pre.length_le)
    refine ⟨y3, y8, y9, ?_⟩
    have e0 : gTp (gsCons (gNm 3) (gsCons (gNm 8) gsNil)) (pD p) (lfEnv one other n n0 K lev x3 (some (tl a)) x8 x9) = some (lfEnv one other n n0 K lev (some (.int (p.1 : Int))) (some (tl a)) (some (.int (p.2 : Int))) x9) := rfl
    show (match gTp (gsCons (gNm 3) (gsCons (gNm 8) gsNil)) (pD p) (lfEnv one other n n0 K lev x3 (some (tl a)) x8 x9) with
      | some ρ1 => (match lfStep ρ1 with
        | some (.nx ρ2) => forL (gTp (gsCons (gNm 3) (gsCons (gNm 8) gsNil))) lfStep (l.map pD) ρ2
        | some (.ct ρ2) => forL (gTp (gsCons (gNm 3) (gsCons (gNm 8) gsNil))) lfStep (l.map pD) ρ2
        | some (.bk ρ2) => some (.nx ρ2)
        | o => o)
      | none => none) = _
    rw [e0]
    simp only [e]
    exact e2
noncomputable def lfLine : FN.Env → Option Fl := sFor (iSeq (fVar 2)) (gTp (gsCons (gNm 3) (gsCons (gNm 8) gsNil))) lfStep
/-- from node s to the level's end -/
theorem lf_level {n t : Nat} {one other : List Nat} (hn : n ≤ 6) (h1 : IsL n one) {lev : List D} : ∀ (k s : Nat) (x3 x7 x8 x9 : Option D), t ≤ s → s + k = (found (nbT n) one t).length →
    ∃ x3' x7' x8' x9', forL (gNm 7) lfLine (EN.ks ((found (nbT n) one t).drop s)) (lfEnv one other n (found (nbT n) one t).length (found (nbT n) one s) lev x3 x7 x8 x9) = some (.nx (lfEnv one other n (found (nbT n) one t).length (found (nbT n) one (found (nbT n) one t).length) lev x3' x7' x8' x9'))
  | 0, s, x3, x7, x8, x9, hts, hs => by
    refine ⟨x3, x7, x8, x9, ?_⟩
    rw [Nat.add_zero] at hs
    rw [List.drop_eq_nil_of_le (Nat.le_of_eq hs.symm), ← hs]
    rfl
  | k + 1, s, x3, x7, x8, x9, hts, hs => by
    have hlt : s < (found (nbT n) one t).length := by omega
    have hq := FB.found_get (nb := nbT n) (one := one) hts (List.getElem?_eq_getElem hlt)
    generalize hqq : (found (nbT n) one t)[s] = q at hq
    have hm : q ∈ found (nbT n) one s := List.mem_of_getElem? hq
    have hlk : look (found (nbT n) one s) q.1 = some q.2 := look_nodup (found_nodup s) hm
    have hst := found_step hq
    have hpl := found_path s q hm
    have hLq := found_isL h1 s q hm
    have hsm := found_small hn h1 (s + 1)
    rw [hst] at hsm
    have hle := (found_pre (nb := nbT n) (one := one) hts).length_le
    have hss := found_small hn h1 t
    obtain ⟨y3, y8, y9, e⟩ := lf_for (one := one) (other := other) (n := n) (n0 := (found (nbT n) one t).length) (lev := lev) (a := q.1) (q := q.2) (by rw [hLq.len]; omega) (by omega) (pairs n) (found (nbT n) one s) x3 x8 x9 hlk (by
      have : (found (nbT n) one s).length ≤ 46656 := found_small hn h1 s
      show (FB.expand (nbT n) (found (nbT n) one s) q).length < 50000
      omega) hle
    obtain ⟨z3, z7, z8, z9, e2⟩ := lf_level (t := t) (other := other) hn h1 (lev := lev) k (s + 1) y3 (some (tl q.1)) y8 y9 (by omega) (by omega)
    refine ⟨z3, z7, z8, z9, ?_⟩
    have ed : EN.ks ((found (nbT n) one t).drop s) = tl q.1 :: EN.ks ((found (nbT n) one t).drop (s + 1)) := by
      rw [List.drop_eq_getElem_cons hlt, hqq]
      rfl
    rw [ed]
    have e0 : lfLine (lfEnv one other n (found (nbT n) one t).length (found (nbT n) one s) lev x3 (some (tl q.1)) x8 x9) = some (.nx (lfEnv one other n (found (nbT n) one t).length (found (nbT n) one (s + 1)) lev y3 (some (tl q.1)) y8 y9)) := by
      unfold lfLine
      rw [u_sFor]
      have hi : iSeq (fVar 2) (lfEnv one other n (found (nbT n) one t).length (found (nbT n) one s) lev x3 (some (tl q.1)) x8 x9) = some (.ok ((pairs n).map pD) (lfEnv one other n (found (nbT n) one t).length (found (nbT n) one s) lev x3 (some (tl q.1)) x8 x9)) := by
        unfold lfEnv
        simp only [u_iSeq, u_fVar, List.getElem?_cons_succ, List.getElem?_cons_zero, u_ok]
      rw [hi, hst]
      exact e
    show (match gNm 7 (tl q.1) (lfEnv one other n (found (nbT n) one t).length (found (nbT n) one s) lev x3 x7 x8 x9) with
      | some ρ1 => (match lfLine ρ1 with
        | some (.nx ρ2) => forL (gNm 7) lfLine (EN.ks ((found (nbT n) one t).drop (s + 1))) ρ2
        | some (.ct ρ2) => forL (gNm 7) lfLine (EN.ks ((found (nbT n) one t).drop (s + 1))) ρ2
        | some (.bk ρ2) => some (.nx ρ2)
        | o => o)
      | none => none) = _
    have eg : gNm 7 (tl q.1) (lfEnv one other n (found (nbT n) one t).length (found (nbT n) one s) lev x3 x7 x8 x9) = some (lfEnv one other n (found (nbT n) one t).length (found (nbT n) one s) lev x3 (some (tl q.1)) x8 x9) := rfl
    rw [eg]
    simp only [e0]
    exact e2
/-- the places -/
def gP (n i : Nat) : List (Nat × Nat) := (List.range (n - 1 - i)).map fun d => (i, i + 1 + d)
theorem places_for {one other : List Nat} {n : Nat} (h1 : one.length = n) (hn : n ≤ 6) : ∃ x3, sFor (iRg1 (.t (.v false)) (f1 (.t (.v false)) dLen (fVar 0))) (gNm 3)
  (sDrop (fMt 2 oExt (fLc [8] (iRg2 (.t (.v false)) (.t (.v false)) (f2 (.t (.v false)) (.t (.v false)) dAdd (fVar 3) (fC (.int 1))) (f1 (.t (.v false)) dLen (fVar 0))) (gNm 8) tYesF (fTup (aCons (fVar 3) (aCons (fVar 8) aNil)))))) [some (tl one), some (tl other), some (.list []), none, none, none, none, none, none, none] = some (.nx [some (tl one), some (tl other), some (.list ((pairs n).map pD)), x3, none, none, none, none, none, none]) := by
  have sz : (1000000 : Nat) < sizeLine := by rw [sizeLine_eq]; omega
  have len2 : ∀ k, k ≤ n → ((List.range k).flatMap (gP n)).length ≤ 100 := by
    have h : (List.range 7).all (fun n => (List.range (n + 1)).all fun k => decide (((List.range k).flatMap (gP n)).length ≤ 100)) = true := by decide +kernel
    intro k hk
    exact of_decide_eq_true (List.all_eq_true.mp (List.all_eq_true.mp h n (List.mem_range.mpr (by omega))) k (List.mem_range.mpr (by omega)))
  obtain ⟨ρ', e, x3, rfl⟩ := for_inv (fi := iRg1 (.t (.v false)) (f1 (.t (.v false)) dLen (fVar 0))) (ft := gNm 3) (f := sDrop (fMt 2 oExt (fLc [8] (iRg2 (.t (.v false)) (.t (.v false)) (f2 (.t (.v false)) (.t (.v false)) dAdd (fVar 3) (fC (.int 1))) (f1 (.t (.v false)) dLen (fVar 0))) (gNm 8) tYesF (fTup (aCons (fVar 3) (aCons (fVar 8) aNil))))))
    (ρ := [some (tl one), some (tl other), some (.list []), none, none, none, none, none, none, none]) (ρ1 := [some (tl one), some (tl other), some (.list []), none, none, none, none, none, none, none]) (ds := rgD 0 (n : Int))
    (fun k ρ => ∃ x3, ρ = [some (tl one), some (tl other), some (.list (((List.range k).flatMap (gP n)).map pD)), x3, none, none, none, none, none, none]) (by
      have ok : okR (n : Int) = true := okR_of (by omega) (by omega)
      simp only [u_iRg1, u_f1, u_fVar, u_ok, List.getElem?_cons_zero, u_rdv, len_tl, h1, Option.map_some, ok, if_true]) ⟨none, rfl⟩ (fun k d ρ hk hG => by
      obtain ⟨x3, rfl⟩ := hG
      obtain ⟨rfl, hk2⟩ := rgD_get hk
      have hk3 : k < n := by omega
      rw [Int.zero_add]
      refine ⟨[some (tl one), some (tl other), some (.list (((List.range k).flatMap (gP n)).map pD)), some (.int (k : Int)), none, none, none, none, none, none], [some (tl one), some (tl other), some (.list (((List.range (k + 1)).flatMap (gP n)).map pD)), some (.int (k : Int)), none, none, none, none, none, none], rfl, .inl ?_, _, rfl⟩
      have gl : (gP n k).length ≤ 10 := by unfold gP; rw [List.length_map, List.length_range]; omega
      have lc := lc_map (i := 8) (fi := iRg2 (.t (.v false)) (.t (.v false)) (f2 (.t (.v false)) (.t (.v false)) dAdd (fVar 3) (fC (.int 1))) (f1 (.t (.v false)) dLen (fVar 0))) (fe := fTup (aCons (fVar 3) (aCons (fVar 8) aNil))) (ρ := [some (tl one), some (tl other), some (.list (((List.range k).flatMap (gP n)).map pD)), some (.int (k : Int)), none, none, none, none, none, none]) (xs := gP n k) (g := fun p => .int (p.2 : Int)) pD (by omega) (by
        have ok1 : okR ((k : Int) + 1) = true := okR_of (by omega) (by omega)
        have ok2 : okR (n : Int) = true := okR_of (by omega) (by omega)
        have er : rgD ((k : Int) + 1) (n : Int) = (gP n k).map fun p => .int (p.2 : Int) := by
          unfold rgD gP
          rw [List.map_map, show ((n : Int) - ((k : Int) + 1)).toNat = n - 1 - k by omega]
          refine List.map_congr_left fun d _ => ?_
          show PyData.int ((k : Int) + 1 + (d : Int)) = .int ((k + 1 + d : Nat) : Int)
          congr 1
        simp only [u_iRg2, u_f2, u_f1, u_fVar, u_fC, u_ok, List.getElem?_cons_succ, List.getElem?_cons_zero, u_rdv, len_tl, h1, Option.map_some, dAdd_ii, ok1, ok2, Bool.and_self, if_true, er]) (fun p hp => by
        have e2 : (0 + 1 + 1 ≤ sizeLine) = True := eq_true (by omega)
        have ep : p.1 = k := by
          unfold gP at hp
          obtain ⟨d, _, rfl⟩ := List.mem_map.mp hp
          rfl
        simp only [u_fTup, u_aCons, u_aNil, u_fVar, u_ok, List.set_cons_succ, List.set_cons_zero, List.getElem?_cons_succ, List.getElem?_cons_zero, List.length_cons, List.length_nil, e2, if_true]
        unfold pD
        rw [ep])
      have ee : oExt (((List.range k).flatMap (gP n)).map pD) (.list ((gP n k).map pD)) = some (.none, ((List.range (k + 1)).flatMap (gP n)).map pD) := by
        have l1 := len2 k (by omega)
        show (if (((List.range k).flatMap (gP n)).map pD).length + ((gP n k).map pD).length ≤ sizeLine then some (PyData.none, ((List.range k).flatMap (gP n)).map pD ++ (gP n k).map pD) else none) = _
        rw [if_pos (by rw [List.length_map, List.length_map]; omega), List.range_succ, List.flatMap_append, List.map_append]
        simp
      simp only [u_sDrop, u_fMt, List.getElem?_cons_succ, List.getElem?_cons_zero]
      rw [lc]
      simp only [u_ok, List.set_cons_succ, List.set_cons_zero, List.getElem?_cons_succ, List.getElem?_cons_zero, ee, Option.map_some])
  rw [rgD_len, show ((n : Int) - 0).toNat = n by omega] at e
  exact ⟨x3, e⟩
theorem e_first {n T : Nat} {one other : List Nat} {p : List (Nat × Nat)} (hn : n ≤ 6) (h1 : IsL n one) (h2 : IsL n other) (G : Goal (nbT n) one other 50000 T p) : m_L_first [some (tl one), some (tl other)] = some (.ok (EN.pa p) [none, none]) := by
  have sz : (1000000 : Nat) < sizeLine := by rw [sizeLine_eq]; omega
  have keyT : ∀ b, keyOf true (tl b) = some (EN.ka b) := EN.key
  have z0 : (0 ≤ sizeLine) = True := eq_true (by omega)
  have z1 : (0 + 1 ≤ sizeLine) = True := eq_true (by omega)
  obtain ⟨x3, ep⟩ := places_for (other := other) h1.len hn
  have s1 : sSet 2 (fLst aNil) ([some (tl one), some (tl other)] ++ List.replicate 8 none) = some (.nx [some (tl one), some (tl other), some (.list []), none, none, none, none, none, none, none]) := by
    simp only [List.replicate, List.cons_append, List.nil_append, u_sSet, u_fLst, u_aNil, u_ok, List.length_nil, z0, if_true, List.set_cons_succ, List.set_cons_zero]
  have s3 : sPar 4 5 (aCons (fDisp true (fVar 0) (fTup aNil)) (aCons (fLst (aCons (fVar 0) aNil)) aNil)) [some (tl one), some (tl other), some (.list ((pairs n).map pD)), x3, none, none, none, none, none, none] = some (.nx [some (tl one), some (tl other), some (.list ((pairs n).map pD)), x3, some (.dict (EN.dk (found (nbT n) one 0))), some (.list (EN.ks ((found (nbT n) one 0).drop 0))), none, none, none, none]) := by
    simp only [u_sPar, u_aCons, u_aNil, u_fDisp, u_fVar, u_fTup, u_fLst, u_ok, List.getElem?_cons_zero, List.length_nil, List.length_cons, keyT, z0, z1, if_true, List.set_cons_succ, List.set_cons_zero]
    rfl
  obtain ⟨ρ', ew, t, x3', x6, x7, x8, x9, hsome, eρ⟩ := wh_inv (t := fTst (fDIn true true (.r 4) (fVar 1) (fRef 4)))
    (b := sSeq (sSet 6 (fLst aNil)) (sSeq (sFor (iSeq (fVar 5)) (gNm 7) lfLine) (sSet 5 (fMove 6))))
    (fun k ρ => ∃ t x3 x6 x7 x8 x9, k + t = 60000 ∧ ρ = [some (tl one), some (tl other), some (.list ((pairs n).map pD)), x3, some (.dict (EN.dk (found (nbT n) one t))), some (.list (EN.ks ((found (nbT n) one t).drop t))), x6, x7, x8, x9])
    (fun ρ => ∃ t x3 x6 x7 x8 x9, (look (found (nbT n) one t) other).isSome = true ∧ ρ = [some (tl one), some (tl other), some (.list ((pairs n).map pD)), x3, some (.dict (EN.dk (found (nbT n) one t))), some (.list (EN.ks ((found (nbT n) one t).drop t))), x6, x7, x8, x9])
    (fun k ρ ⟨t, x3, x6, x7, x8, x9, ek, eρ⟩ => by
      subst eρ
      have test : fTst (fDIn true true (.r 4) (fVar 1) (fRef 4)) [some (tl one), some (tl other), some (.list ((pairs n).map pD)), x3, some (.dict (EN.dk (found (nbT n) one t))), some (.list (EN.ks ((found (nbT n) one t).drop t))), x6, x7, x8, x9] = some (.ok (!(look (found (nbT n) one t) other).isSome) [some (tl one), some (tl other), some (.list ((pairs n).map pD)), x3, some (.dict (EN.dk (found (nbT n) one t))), some (.list (EN.ks ((found (nbT n) one t).drop t))), x6, x7, x8, x9]) := by
        simp only [u_fTst, u_fDIn, u_fVar, u_fRef, List.getElem?_cons_succ, List.getElem?_cons_zero, u_ok, u_rdDr, keyT, FB.Enc.look, Option.isSome_map, if_true]
      by_cases hf : (look (found (nbT n) one t) other).isSome = true
      · left
        exact ⟨_, by rw [test, hf]; rfl, t, x3, x6, x7, x8, x9, hf, rfl⟩
      · right
        rw [Bool.not_eq_true] at hf
        have htT : t < T := by
          apply Classical.byContradiction
          intro z
          have := look_mono (found_pre (nb := nbT n) (one := one) (by omega : T ≤ t)) G.at_
          rw [this] at hf
          cases hf
        have hlt := (G.low t htT).1
        have hG := G.len t
        obtain ⟨y3, y7, y8, y9, el⟩ := lf_level (other := other) hn h1 (t := t) (lev := EN.ks ((found (nbT n) one t).drop t)) ((found (nbT n) one t).length - t) t x3 x7 x8 x9 (Nat.le_refl _) (by omega)
        refine ⟨[some (tl one), some (tl other), some (.list ((pairs n).map pD)), x3, some (.dict (EN.dk (found (nbT n) one t))), some (.list (EN.ks ((found (nbT n) one t).drop t))), x6, x7, x8, x9], [some (tl one), some (tl other), some (.list ((pairs n).map pD)), y3, some (.dict (EN.dk (found (nbT n) one (found (nbT n) one t).length))), some (.list (EN.ks ((found (nbT n) one (found (nbT n) one t).length).drop (found (nbT n) one t).length))), none, y7, y8, y9], ?_, ?_, 60000 - (found (nbT n) one t).length, by omega, (found (nbT n) one t).length, y3, none, y7, y8, y9, by omega, rfl⟩
        · rw [test, hf]
          rfl
        · have b1 : sSet 6 (fLst aNil) [some (tl one), some (tl other), some (.list ((pairs n).map pD)), x3, some (.dict (EN.dk (found (nbT n) one t))), some (.list (EN.ks ((found (nbT n) one t).drop t))), x6, x7, x8, x9] = some (.nx (lfEnv one other n (found (nbT n) one t).length (found (nbT n) one t) (EN.ks ((found (nbT n) one t).drop t)) x3 x7 x8 x9)) := by
            unfold lfEnv
            rw [List.drop_eq_nil_of_le (Nat.le_refl (found (nbT n) one t).length)]
            simp only [u_sSet, u_fLst, u_aNil, u_ok, List.length_nil, z0, if_true, List.set_cons_succ, List.set_cons_zero]
            rfl
          have b2 : sFor (iSeq (fVar 5)) (gNm 7) lfLine (lfEnv one other n (found (nbT n) one t).length (found (nbT n) one t) (EN.ks ((found (nbT n) one t).drop t)) x3 x7 x8 x9) = some (.nx (lfEnv one other n (found (nbT n) one t).length (found (nbT n) one (found (nbT n) one t).length) (EN.ks ((found (nbT n) one t).drop t)) y3 y7 y8 y9)) := by
            rw [u_sFor]
            have hi : iSeq (fVar 5) (lfEnv one other n (found (nbT n) one t).length (found (nbT n) one t) (EN.ks ((found (nbT n) one t).drop t)) x3 x7 x8 x9) = some (.ok (EN.ks ((found (nbT n) one t).drop t)) (lfEnv one other n (found (nbT n) one t).length (found (nbT n) one t) (EN.ks ((found (nbT n) one t).drop t)) x3 x7 x8 x9)) := by
              unfold lfEnv
              simp only [u_iSeq, u_fVar, List.getElem?_cons_succ, List.getElem?_cons_zero, u_ok]
            rw [hi]
            exact el
          rw [seq_nx b1, seq_nx b2]
          unfold lfEnv
          simp only [u_sSet, u_fMove, List.getElem?_cons_succ, List.getElem?_cons_zero, u_ok, List.set_cons_succ, List.set_cons_zero]) 60000 [some (tl one), some (tl other), some (.list ((pairs n).map pD)), x3, some (.dict (EN.dk (found (nbT n) one 0))), some (.list (EN.ks ((found (nbT n) one 0).drop 0))), none, none, none, none] ⟨0, x3, none, none, none, none, rfl, rfl⟩
  obtain ⟨p', hp'⟩ := Option.isSome_iff_exists.mp hsome
  have hpp : p' = p := by
    rcases Nat.lt_or_ge t T with z | z
    · have := (G.low t z).2
      rw [this] at hp'
      cases hp'
    · have := look_mono (found_pre (nb := nbT n) (one := one) z) G.at_
      rw [this] at hp'
      cases hp'
      rfl
  subst hpp eρ
  have s5 : sRet (fDGet true (.r 4) (fRef 4) (fVar 1)) [some (tl one), some (tl other), some (.list ((pairs n).map pD)), x3', some (.dict (EN.dk (found (nbT n) one t))), some (.list (EN.ks ((found (nbT n) one t).drop t))), x6, x7, x8, x9] = some (.ret (EN.pa p') [some (tl one), some (tl other), some (.list ((pairs n).map pD)), x3', some (.dict (EN.dk (found (nbT n) one t))), some (.list (EN.ks ((found (nbT n) one t).drop t))), x6, x7, x8, x9]) := by
    simp only [u_sRet, u_fDGet, u_fRef, u_fVar, List.getElem?_cons_succ, List.getElem?_cons_zero, u_ok, u_rdDr, keyT, FB.Enc.look, hp', Option.map_some]
  unfold m_L_first b_L_first
  exact run_ret ((seq_nx s1).trans ((seq_nx ep).trans ((seq_nx s3).trans ((seq_nx ew).trans s5)))) rfl
end K76
set_option Elab.async false
set_option linter.all false
set_option maxRecDepth 100000
set_option maxHeartbeats 4000000
namespace K76
open PySem PySem.Spec PyProof.Rows L2 FN
open FNL (Bag smD smD_le)
open FB (found look Goal)
/-! ### errors -/
theorem turns_err {one other bad : D} {os : FN.Env} (h : m_need_lines [some one, some other] = some (.err "InvalidLine" bad os)) : m_turns [some one, some other] = some (.err "InvalidLine" bad [none, none]) := by
  unfold m_turns b_turns
  refine run_err (ρ1 := [some one, some other]) (seq_err ?_) rfl
  simp only [List.replicate, List.append_nil]
  rw [u_sDrop, call_t2e rfl rfl h]
  rfl
theorem e_error {one other bad : D} {os : FN.Env} (h : m_turns [some one, some other] = some (.err "InvalidLine" bad os)) : m_L_error [some one, some other] = some (.ok (.list [bad]) [none, none]) := by
  have sz : (1000000 : Nat) < sizeLine := by rw [sizeLine_eq]; omega
  have z0 : (0 ≤ sizeLine) = True := eq_true (by omega)
  have z1 : (0 + 1 ≤ sizeLine) = True := eq_true (by omega)
  unfold m_L_error b_L_error
  have s1 : sSet 2 (fLst aNil) ([some one, some other] ++ List.replicate 2 none) = some (.nx [some one, some other, some (.list []), none]) := by
    simp only [List.replicate, List.cons_append, List.nil_append, u_sSet, u_fLst, u_aNil, u_ok, List.length_nil, z0, if_true, List.set_cons_succ, List.set_cons_zero]
  have hb : sDrop (fCall [.t (.v false), .t (.v false)] m_turns (aCons (fVar 0) (aCons (fVar 1) aNil))) [some one, some other, some (.list []), none] = some (.err "InvalidLine" bad [some one, some other, some (.list []), none]) := by
    rw [u_sDrop, call_t2e rfl rfl h]
    rfl
  have sel : sel_InvalidLine "InvalidLine" = some true := by unfold sel_InvalidLine; rfl
  have s2 : sTry sel_InvalidLine 3 (sDrop (fCall [.t (.v false), .t (.v false)] m_turns (aCons (fVar 0) (aCons (fVar 1) aNil)))) (sSet 2 (fLst (aCons (fXv 3) aNil))) [some one, some other, some (.list []), none] = some (.nx [some one, some other, some (.list [bad]), none]) := by
    rw [u_try_err hb sel]
    simp only [u_sSet, u_fLst, u_aCons, u_aNil, u_fXv, List.set_cons_succ, List.set_cons_zero, List.getElem?_cons_succ, List.getElem?_cons_zero, u_ok, List.length_nil, List.length_cons, z1, if_true]
  exact run_ret (ρ1 := [some one, some other, some (.list [bad]), none]) ((seq_nx s1).trans ((seq_nx s2).trans rfl)) rfl
/-- an error told, of a value that is small -/
theorem same2 {ρ : FN.Env} {fa fb fc fd : M D} {x y : D} (ha : fa ρ = some (.ok x ρ)) (hb : fb ρ = some (.ok y ρ)) (hc : fc ρ = some (.ok x ρ)) (hd : fd ρ = some (.ok y ρ)) (hx : smD 6 x = true) (hy : smD 6 y = true) : fCall [.t (.v true), .t (.v true)] (noErr (m_L_same 8)) (aCons (fLst (aCons fa (aCons fb aNil))) (aCons (fLst (aCons fc (aCons fd aNil))) aNil)) ρ = some (.ok (.bool true) ρ) := by
  have sz : (1000000 : Nat) < sizeLine := by rw [sizeLine_eq]; omega
  have z2 : (0 + 1 + 1 ≤ sizeLine) = True := eq_true (by omega)
  have sm : smD 7 (.list [x, y]) = true := smD_lst (by simp) fun d hd => by
    rcases List.mem_cons.mp hd with rfl | hd
    · exact hx
    · rw [List.mem_singleton.mp hd]
      exact hy
  refine call_t2 (x := .list [x, y]) (y := .list [x, y]) ?_ ?_ (e_same sm)
  · simp only [u_fLst, u_aCons, u_aNil, ha, hb, u_ok, List.length_cons, List.length_nil, z2, if_true]
  · simp only [u_fLst, u_aCons, u_aNil, hc, hd, u_ok, List.length_cons, List.length_nil, z2, if_true]
theorem one_lst {ρ : FN.Env} {fa : M D} {x : D} (ha : fa ρ = some (.ok x ρ)) : fLst (aCons fa aNil) ρ = some (.ok (.list [x]) ρ) := by
  have sz : (1000000 : Nat) < sizeLine := by rw [sizeLine_eq]; omega
  have z1 : (0 + 1 ≤ sizeLine) = True := eq_true (by omega)
  simp only [u_fLst, u_aCons, u_aNil, ha, u_ok, List.length_cons, List.length_nil, z1, if_true]
theorem pa_sm {p : List (Nat × Nat)} (h : p.length ≤ 1000000) : smD 2 (EN.pa p) = true := by
  unfold FB.Enc.pa
  refine smD_tup (by rw [List.length_map]; exact h) fun d hd => ?_
  obtain ⟨q, _, rfl⟩ := List.mem_map.mp hd
  show smD 1 (pD q) = true
  unfold pD
  exact smD_tup (by simp) fun d hd => by
    rcases List.mem_cons.mp hd with rfl | hd
    · exact sm_int _ _
    · rw [List.mem_singleton.mp hd]
      exact sm_int _ _
theorem tl_sm {l : List Nat} (h : l.length ≤ 1000000) : smD 1 (tl l) = true := by
  unfold tl
  refine smD_tup (by rw [List.length_map]; exact h) fun d hd => ?_
  obtain ⟨q, _, rfl⟩ := List.mem_map.mp hd
  exact sm_int _ _
theorem lst_sm {n : Nat} {d : D} (h : smD n d = true) : smD (n + 1) (.list [d]) = true := smD_lst (by simp) fun x hx => by rw [List.mem_singleton.mp hx]; exact h
/-! ### a round -/
noncomputable def rBody : FN.Env → Option Fl :=
  (sSeq (sSet 6 (fCall [.t (.v false), .t (.v false)] (noErr m_L_first) (aCons (fVar 2) (aCons (fVar 3) aNil))))
  (sIf (tNotF (fTru (.t (.v true)) (fCall [.t (.v true), .t (.v true)] (noErr (m_L_same 8)) (aCons (fLst (aCons (fCall [.t (.v false), .t (.v false)] m_turns (aCons (fVar 2) (aCons (fVar 3) aNil))) (aCons (fCall [.t (.v false), .t (.v false)] (kwM [1, 0] m_turns) (aCons (fVar 3) (aCons (fVar 2) aNil))) aNil))) (aCons (fLst (aCons (fVar 6) (aCons (fVar 6) aNil))) aNil)))))
  (sRet (fC (.bool false)))
  sNx))
theorem r_body {n : Nat} {one other : List Nat} (h0 : 1 ≤ n) (hn : n ≤ 6) (h1 : IsL n one) (h2 : IsL n other) (b nD : D) (x4 x5 x6 : Option D) : ∃ x6', rBody [some b, some nD, some (tl one), some (tl other), x4, x5, x6] = some (.nx [some b, some nD, some (tl one), some (tl other), x4, x5, x6']) := by
  obtain ⟨T, p, G⟩ := goal hn h1 h2
  have ef := e_first hn h1 h2 G
  have et := e_turns h0 hn h1 h2 G
  have ek : kwM [1, 0] m_turns [some (tl other), some (tl one)] = some (.ok (EN.pa p) [none, none]) := by
    show (match m_turns [some (tl one), some (tl other)] with
      | some (FN.Out.ok d _) => some (FN.Out.ok d [none, none])
      | some (FN.Out.err n d _) => some (FN.Out.err n d [none, none])
      | none => none) = _
    rw [et]
  have pl : p.length ≤ 1000000 := by
    have h3 := FB.found_path (nb := nbT n) (one := one) T _ (FB.look_mem G.at_)
    have h4 := G.lt
    have h5 : p.length ≤ T := h3
    omega
  have ps := smD_le (pa_sm pl) (by omega : 2 ≤ 6)
  refine ⟨some (EN.pa p), (seq_nx (ρ1 := [some b, some nD, some (tl one), some (tl other), x4, x5, some (EN.pa p)]) ?_).trans ?_⟩
  · rw [u_sSet, call_t2 rfl rfl ef]
    rfl
  · rw [u_sIf, u_tNot, u_fTru, same2 (x := EN.pa p) (y := EN.pa p) (call_t2x rfl rfl et) (call_t2x rfl rfl ek) rfl rfl ps ps]
    rfl
theorem isLn_nil : isLn (.tuple []) = false := rfl
theorem tl_range (n : Nat) : PyData.tuple (rgD 0 (n : Int)) = tl (List.range n) := by rw [rg_il]; rfl
theorem isL_rev {n : Nat} {l : List Nat} (h : IsL n l) : IsL n l.reverse := (List.reverse_perm l).trans h
/-- the number of singers -/
theorem r_n {b : Nat} {bag : D} (hb : Bag b bag) (hb2 : b ≤ 1000) (xs : FN.Env) : ∃ (n : Nat) (bag' : D), sSet 1 (fIf (fTst (f2 (.t (.v false)) (.t (.v false)) dGt (fCall [.r 0, .t (.v true)] (noErr m_L_take) (aCons (fRef 0) (aCons (fC (.int 5)) aNil))) (fC (.int 0)))) (f2 (.t (.v false)) (.t (.v false)) dAdd (fC (.int 1)) (fCall [.r 0, .t (.v true)] (noErr m_L_take) (aCons (fRef 0) (aCons (fC (.int 5)) aNil)))) (fC (.int 6))) (some bag :: none :: xs) = some (.nx (some bag' :: some (.int (n : Int)) :: xs)) ∧ Bag (b + 2) bag' ∧ 1 ≤ n ∧ n ≤ 6 := by
  obtain ⟨i, bag1, e1, hb1, i0, i1⟩ := take_call (ρ := some bag :: none :: xs) (fx := fC (.int 5)) rfl rfl hb (by omega) (by decide) (by decide)
  have tst : fTst (f2 (.t (.v false)) (.t (.v false)) dGt (fCall [.r 0, .t (.v true)] (noErr m_L_take) (aCons (fRef 0) (aCons (fC (.int 5)) aNil))) (fC (.int 0))) (some bag :: none :: xs) = some (.ok (decide (0 < i)) (some bag1 :: none :: xs)) := by
    rw [u_fTst, u_f2, e1]
    simp only [u_ok, u_fC, u_rdv, dGt_ii, Option.map_some, List.set_cons_zero]
  by_cases h : 0 < i
  · obtain ⟨j, bag2, e2, hb2', j0, j1⟩ := take_call (ρ := some bag1 :: none :: xs) (fx := fC (.int 5)) rfl rfl hb1 (by omega) (by decide) (by decide)
    refine ⟨(1 + j).toNat, bag2, ?_, hb2', by omega, by omega⟩
    rw [u_sSet, u_fIf, tst, decide_eq_true h]
    simp only [u_ok, if_true]
    rw [u_f2, u_fC]
    simp only [u_ok]
    rw [e2]
    simp only [u_ok, u_rdv, dAdd_ii, Option.map_some, List.set_cons_zero, List.set_cons_succ]
    rw [show (((1 + j).toNat : Nat) : Int) = 1 + j by omega]
  · refine ⟨6, bag1, ?_, hb1.mono (by omega), by omega, by omega⟩
    rw [u_sSet, u_fIf, tst, decide_eq_false h]
    simp only [u_ok, Bool.false_eq_true, if_false, u_fC, List.set_cons_zero, List.set_cons_succ]
    rfl
/-- a shuffled row -/
theorem sh_call {b n : Nat} {bag : D} {ρ : FN.Env} (hb : Bag b bag) (hn : n ≤ 10) (hb2 : b ≤ 1000) (h0 : ρ[0]? = some (some bag)) (h1 : ρ[1]? = some (some (.int (n : Int)))) : ∃ l bag', fCall [.r 0, .t (.v false)] (noErr m_L_shuffled) (aCons (fRef 0) (aCons (fLrg (rRg1 (.t (.v false)) (fVar 1))) aNil)) ρ = some (.ok (tl l) (ρ.set 0 (some bag'))) ∧ Bag (b + n) bag' ∧ IsL n l := by
  obtain ⟨l, bag', e, hb', hl⟩ := e_shuffled hb (by omega : n ≤ 1000) (by omega)
  refine ⟨l, bag', call_r1 (b := none) h0 ?_ e, hb', hl⟩
  have e2 : okRg 0 (n : Int) = true := decide_eq_true ⟨by omega, by omega, by omega, by omega, by omega⟩
  simp only [u_fLrg, u_rRg1, u_fVar, h1, u_ok, u_rdv, e2, if_true]
/-- what is bent is told -/
theorem r_bad {n : Nat} {one : List Nat} {bad : D} (h0 : 1 ≤ n) (hn : n ≤ 6) (h1 : IsL n one) (hs : smD 5 bad = true) (b nD : D) (x3 x5 x6 : Option D) :
    sIf (tNotF (tAndF (fTru (.t (.v false)) (f1b (.t (.v false)) isTuple (fVar 4))) (tAndF (fTst (fCh (.t (.v false)) (.t (.v false)) (.t (.v false)) dLe dLe (fC (.int 1)) (f1 (.t (.v false)) dLen (fVar 4)) (fC (.int 10)))) (fTru (.t (.v true)) (fCall [.t (.v true), .t (.v true)] (noErr m_L_is_line) (aCons (f1 (.t (.v false)) dLen (fVar 4)) (aCons (fVar 4) aNil)))))))
  (sIf (tNotF (fTru (.t (.v true)) (fCall [.t (.v true), .t (.v true)] (noErr (m_L_same 8)) (aCons (fLst (aCons (fCall [.t (.v false), .t (.v false)] (noErr m_L_error) (aCons (fVar 4) (aCons (fC .none) aNil))) (aCons (fCall [.t (.v false), .t (.v false)] (noErr m_L_error) (aCons (fVar 2) (aCons (fVar 4) aNil))) aNil))) (aCons (fLst (aCons (fLst (aCons (fVar 4) aNil)) (aCons (fLst (aCons (fVar 4) aNil)) aNil))) aNil)))))
  (sRet (fC (.bool false)))
  sNx)
  sNx [some b, some nD, some (tl one), x3, some bad, x5, x6] = some (.nx [some b, some nD, some (tl one), x3, some bad, x5, x6]) := by
  have tst : tAndF (fTru (.t (.v false)) (f1b (.t (.v false)) isTuple (fVar 4))) (tAndF (fTst (fCh (.t (.v false)) (.t (.v false)) (.t (.v false)) dLe dLe (fC (.int 1)) (f1 (.t (.v false)) dLen (fVar 4)) (fC (.int 10)))) (fTru (.t (.v true)) (fCall [.t (.v true), .t (.v true)] (noErr m_L_is_line) (aCons (f1 (.t (.v false)) dLen (fVar 4)) (aCons (fVar 4) aNil))))) [some b, some nD, some (tl one), x3, some bad, x5, x6] = some (.ok (isLn bad) [some b, some nD, some (tl one), x3, some bad, x5, x6]) := by
    have t1 : fTru (.t (.v false)) (f1b (.t (.v false)) isTuple (fVar 4)) [some b, some nD, some (tl one), x3, some bad, x5, x6] = some (.ok (isTuple bad) [some b, some nD, some (tl one), x3, some bad, x5, x6]) := by
      simp only [u_fTru, u_f1b, u_fVar, List.getElem?_cons_succ, List.getElem?_cons_zero, u_ok, u_rdv, tru_b, Option.map_some]
    rw [u_tAnd, t1]
    cases bad with
    | tuple ds =>
      simp only [FN.isTuple, u_ok, if_true]
      have t2 : fTst (fCh (.t (.v false)) (.t (.v false)) (.t (.v false)) dLe dLe (fC (.int 1)) (f1 (.t (.v false)) dLen (fVar 4)) (fC (.int 10))) [some b, some nD, some (tl one), x3, some (.tuple ds), x5, x6] = some (.ok (decide (1 ≤ ds.length ∧ ds.length ≤ 10)) [some b, some nD, some (tl one), x3, some (.tuple ds), x5, x6]) := by
        simp only [u_fTst, u_fCh, u_fC, u_f1, u_fVar, List.getElem?_cons_succ, List.getElem?_cons_zero, u_ok, u_rdv, dLen_t, Option.map_some, dLe_ii]
        by_cases h1 : (1 : Int) ≤ (ds.length : Int)
        · by_cases h2 : (ds.length : Int) ≤ 10
          · simp [h1, h2, show 1 ≤ ds.length by omega, show ds.length ≤ 10 by omega]
          · simp [h1, h2, show ¬ ds.length ≤ 10 by omega]
        · simp [h1, show ¬ 1 ≤ ds.length by omega]
      rw [u_tAnd, t2]
      by_cases hl : 1 ≤ ds.length ∧ ds.length ≤ 10
      · rw [decide_eq_true hl]
        simp only [u_ok, if_true]
        rw [u_fTru, call_t2 (x := .int (ds.length : Int)) (y := .tuple ds) (by simp only [u_f1, u_fVar, List.getElem?_cons_succ, List.getElem?_cons_zero, u_ok, u_rdv, dLen_t, Option.map_some]) rfl (e_L_is_line hl.1 hl.2)]
        simp only [u_ok, u_rdv, tru_b, Option.map_some]
      · rw [decide_eq_false hl]
        have : isLn (.tuple ds) = false := by
          unfold isLn
          simp only [decide_eq_false hl, Bool.false_and]
        rw [this]
        rfl
    | _ => rfl
  rw [u_sIf, u_tNot, tst]
  cases hL : isLn bad with
  | true => rfl
  | false =>
    simp only [u_ok, Bool.not_false, if_true]
    have hone := isLn_tl h1 h0 (by omega)
    have e1 := e_error (turns_err (e_need_bad (other := .none) hL))
    have e2 := e_error (turns_err (e_need_other hone hL))
    have s6 := lst_sm hs
    rw [u_sIf, u_tNot, u_fTru, same2 (x := .list [bad]) (y := .list [bad]) (call_t2 rfl rfl e1) (call_t2 rfl rfl e2) (one_lst rfl) (one_lst rfl) s6 s6]
    rfl
theorem tiny_int (k : Nat) (i : Int) : tiny k (.int i) = true := by
  cases k with
  | zero => rfl
  | succ k => rfl
theorem e_right {bag : D} (hb : Bag 0 bag) : ∃ bag', m_L_right [some bag] = some (.ok (.bool true) [some bag']) := by
  have sz : (1000000 : Nat) < sizeLine := by rw [sizeLine_eq]; omega
  have z3 : (0 + 1 + 1 + 1 ≤ sizeLine) = True := eq_true (by omega)
  obtain ⟨n, bag1, s1, hb1, n0, n1⟩ := r_n hb (by omega) [none, none, none, none, none]
  obtain ⟨one, bag2, c2, hb2, h1⟩ := sh_call (ρ := [some bag1, some (.int (n : Int)), none, none, none, none, none]) hb1 (by omega : n ≤ 10) (by omega) rfl rfl
  have s2 : sSet 2 (fCall [.r 0, .t (.v false)] (noErr m_L_shuffled) (aCons (fRef 0) (aCons (fLrg (rRg1 (.t (.v false)) (fVar 1))) aNil))) [some bag1, some (.int (n : Int)), none, none, none, none, none] = some (.nx [some bag2, some (.int (n : Int)), some (tl one), none, none, none, none]) := by
    rw [u_sSet, c2]
    rfl
  obtain ⟨third, bag3, c3, hb3, h3⟩ := sh_call (ρ := [some bag2, some (.int (n : Int)), some (tl one), none, none, none, none]) hb2 (by omega : n ≤ 10) (by omega) rfl rfl
  have hi : iSeq (fLst (aCons (fVar 2) (aCons (f1 (.t (.v false)) dRev (fVar 2)) (aCons (fCall [.r 0, .t (.v false)] (noErr m_L_shuffled) (aCons (fRef 0) (aCons (fLrg (rRg1 (.t (.v false)) (fVar 1))) aNil))) aNil)))) [some bag2, some (.int (n : Int)), some (tl one), none, none, none, none] = some (.ok [tl one, tl one.reverse, tl third] [some bag3, some (.int (n : Int)), some (tl one), none, none, none, none]) := by
    have er : dRev (tl one) = some (tl one.reverse) := rev_il one
    rw [u_iSeq, u_fLst, u_aCons]
    simp only [u_fVar, List.getElem?_cons_succ, List.getElem?_cons_zero, u_ok]
    rw [u_aCons, u_f1]
    simp only [u_fVar, List.getElem?_cons_succ, List.getElem?_cons_zero, u_ok, u_rdv, er, Option.map_some]
    rw [u_aCons, c3]
    simp only [u_ok, u_aNil, List.length_cons, List.length_nil, z3, if_true, List.set_cons_zero]
  obtain ⟨ρ', s3, x3, x6, rfl⟩ := for_inv (ft := gNm 3) (f := rBody) (fun k ρ => ∃ x3 x6, ρ = [some bag3, some (.int (n : Int)), some (tl one), x3, none, none, x6]) hi ⟨none, none, rfl⟩ (fun k d ρ hk hG => by
    obtain ⟨x3, x6, rfl⟩ := hG
    have hd : ∃ l, d = tl l ∧ IsL n l := by
      match k, hk with
      | 0, hk => cases hk; exact ⟨_, rfl, h1⟩
      | 1, hk => cases hk; exact ⟨_, rfl, isL_rev h1⟩
      | 2, hk => cases hk; exact ⟨_, rfl, h3⟩
      | k + 3, hk => cases hk
    obtain ⟨l, rfl, hl⟩ := hd
    obtain ⟨y6, e⟩ := r_body n0 n1 h1 hl bag3 (.int (n : Int)) none none x6
    exact ⟨_, _, rfl, .inl e, _, _, rfl⟩)
  obtain ⟨bad, bag4, eb, hb4, hs⟩ := e_bent 1 (ds := il one) hb3 (by omega) (by omega) (by rw [il_len, h1.len]; omega) (fun d hd => by
    obtain ⟨i, _, rfl⟩ := List.mem_map.mp hd
    exact tiny_int _ _)
  have s4 : sSet 4 (fCall [.r 0, .t (.v false)] (noErr (m_L_bent 2)) (aCons (fRef 0) (aCons (fVar 2) aNil))) [some bag3, some (.int (n : Int)), some (tl one), x3, none, none, x6] = some (.nx [some bag4, some (.int (n : Int)), some (tl one), x3, some bad, none, x6]) := by
    rw [u_sSet, call_r1 (b := none) (x := tl one) rfl rfl eb]
    rfl
  have s5 := r_bad n0 n1 h1 hs bag4 (.int (n : Int)) x3 none x6
  have s6 : sSet 5 (fTrg (rRg1 (.t (.v false)) (f2 (.t (.v false)) (.t (.v false)) dAdd (fVar 1) (fC (.int 1))))) [some bag4, some (.int (n : Int)), some (tl one), x3, some bad, none, x6] = some (.nx [some bag4, some (.int (n : Int)), some (tl one), x3, some bad, some (tl (List.range (n + 1))), x6]) := by
    have e2 : okRg 0 ((n : Int) + 1) = true := decide_eq_true ⟨by omega, by omega, by omega, by omega, by omega⟩
    have e3 : PyData.tuple (rgD 0 ((n : Int) + 1)) = tl (List.range (n + 1)) := tl_range (n + 1)
    simp only [u_sSet, u_fTrg, u_rRg1, u_f2, u_fVar, u_fC, List.getElem?_cons_succ, List.getElem?_cons_zero, u_ok, u_rdv, dAdd_ii, Option.map_some, e2, if_true, e3, List.set_cons_succ, List.set_cons_zero]
  have hone := isLn_tl h1 n0 (by omega)
  have hlong : isLn (tl (List.range (n + 1))) = true := isLn_tl (n := n + 1) (.refl _) (by omega) (by omega)
  have el := e_need_len hone hlong
  rw [if_neg (by rw [h1.len, List.length_range]; omega)] at el
  have e1 := e_error (turns_err el)
  have e2 := e_error (turns_err (e_need_other hone isLn_nil))
  have f0 : ∀ ρ : FN.Env, fTup aNil ρ = some (.ok (.tuple []) ρ) := fun ρ => by
    have z0 : (0 ≤ sizeLine) = True := eq_true (by omega)
    simp only [u_fTup, u_aNil, u_ok, List.length_nil, z0, if_true]
  have sl : smD 6 (.list [tl (List.range (n + 1))]) = true := smD_le (lst_sm (tl_sm (by rw [List.length_range]; omega))) (by omega)
  have s0 : smD 6 (.list [.tuple []]) = true := by decide +kernel
  have s7 : sRet (fCall [.t (.v true), .t (.v true)] (noErr (m_L_same 8)) (aCons (fLst (aCons (fCall [.t (.v false), .t (.v false)] (noErr m_L_error) (aCons (fVar 2) (aCons (fVar 5) aNil))) (aCons (fCall [.t (.v false), .t (.v false)] (noErr m_L_error) (aCons (fVar 2) (aCons (fTup aNil) aNil))) aNil))) (aCons (fLst (aCons (fLst (aCons (fVar 5) aNil)) (aCons (fLst (aCons (fTup aNil) aNil)) aNil))) aNil))) [some bag4, some (.int (n : Int)), some (tl one), x3, some bad, some (tl (List.range (n + 1))), x6] = some (.ret (.bool true) [some bag4, some (.int (n : Int)), some (tl one), x3, some bad, some (tl (List.range (n + 1))), x6]) := by
    rw [u_sRet, same2 (x := .list [tl (List.range (n + 1))]) (y := .list [.tuple []]) (call_t2 rfl rfl e1) (call_t2 rfl (f0 _) e2) (one_lst rfl) (one_lst (f0 _)) sl s0]
    rfl
  refine ⟨bag4, ?_⟩
  unfold m_L_right b_L_right
  exact run_ret ((seq_nx s1).trans ((seq_nx s2).trans ((seq_nx s3).trans ((seq_nx s4).trans ((seq_nx s5).trans ((seq_nx s6).trans s7)))))) rfl
theorem law_true (ns : List Int) (hl : ns.length ≤ 63) : ∃ ρ', (noErr m_law) [some (.list (ns.map .int))] = some (.ok (.bool true) ρ') := by
  obtain ⟨m, hm, m0, m1⟩ : ∃ m : Int, (f2 (.t (.v true)) (.t (.v true)) dMax2 (fC (.int 1)) (f2 (.t (.v true)) (.t (.v true)) dMin2 (fC (.int 2)) (f1 (.r 0) dLen (fRef 0)))) [some (.list (ns.map .int)), none] = some (.ok (.int m) [some (.list (ns.map .int)), none]) ∧ 1 ≤ m ∧ m ≤ 2 := by
    refine ⟨if (if (ns.length : Int) < 2 then (ns.length : Int) else 2) > 1 then (if (ns.length : Int) < 2 then (ns.length : Int) else 2) else 1, ?_, by split <;> omega, by split <;> (try split) <;> omega⟩
    simp
  have ei : (iRg1 (.t (.v true)) (f2 (.t (.v true)) (.t (.v true)) dMax2 (fC (.int 1)) (f2 (.t (.v true)) (.t (.v true)) dMin2 (fC (.int 2)) (f1 (.r 0) dLen (fRef 0))))) [some (.list (ns.map .int)), none] = some (.ok (rgD 0 m) [some (.list (ns.map .int)), none]) := by
    rw [u_iRg1, hm]
    simp [okR_of (show -(2 ^ 62) ≤ m by omega) (show m < 2 ^ 62 by omega)]
  obtain ⟨ρ', e, o1, rfl⟩ := for_inv (fi := iRg1 (.t (.v true)) (f2 (.t (.v true)) (.t (.v true)) dMax2 (fC (.int 1)) (f2 (.t (.v true)) (.t (.v true)) dMin2 (fC (.int 2)) (f1 (.r 0) dLen (fRef 0))))) (ft := gNm 1) (f := (sIf (tNotF (fTru (.t (.v true)) (fCall [.t (.lst (.v true))] (noErr m_L_right) (aCons (fCall [.r 0, .t (.v true)] (noErr m_L_bag) (aCons (fRef 0) (aCons (fVar 1) aNil))) aNil))))
  (sRet (fC (.bool false)))
  sNx)) (fun q ρ => ∃ o1, ρ = [some (.list (ns.map .int)), o1]) ei ⟨none, rfl⟩ (fun q d ρ hk hg => by
    obtain ⟨o1, rfl⟩ := hg
    obtain ⟨rfl, hq⟩ := rgD_get hk
    obtain ⟨bag, e1, hb⟩ := FNL.e_bag ns (0 + (q : Int)) (by omega) (by omega)
    rw [← bag_eq] at e1
    obtain ⟨bag', e2⟩ := e_right hb
    refine ⟨_, [some (.list (ns.map .int)), some (.int (0 + (q : Int)))], rfl, .inl ?_, _, rfl⟩
    simp only [List.set_cons_zero, List.set_cons_succ]
    rw [u_sIf, u_tNot, u_fTru, u_fCall, u_aCons, call_r1 (b' := some (.list (ns.map .int))) (b := none) rfl (by rfl) e1]
    simp only [List.set_cons_zero, u_ok, u_aNil, u_fillT, u_fill0, Option.map_some, u_noErr, e2]
    rfl)
  refine ⟨[some (.list (ns.map .int))], ?_⟩
  rw [u_noErr, m_law, u_runF, b_law]
  simp only [List.replicate, List.cons_append, List.nil_append]
  rw [u_sSeq, e]
  simp
end K76
set_option Elab.async false
set_option linter.all false
set_option maxRecDepth 100000
set_option maxHeartbeats 8000000
namespace K76
open PySem PySem.Spec PyProof.Rows L2 FN
structure Facts (P : Program) (K : PySem.W.Frag) (mg : Str → Option Value) : Prop where
  B : Bt mg
  CN : Cs mg
  XC : mg "combinations" = some (.type "itertools.combinations")
  ER : ∃ DE fI C_StandError C_InvalidLine : Addr, Er P K mg DE fI C_StandError C_InvalidLine
  A_is_integer : At K mg "is_integer" s_is_integer ["value"]
  A_is_between : At K mg "is_between" s_is_between ["value", "low", "high"]
  A_is_tuple : At K mg "is_tuple" s_is_tuple ["value", "low", "high"]
  A_are_integers : At K mg "are_integers" s_are_integers ["value", "low", "high"]
  A_reversed_by : At K mg "reversed_by" s_reversed_by ["line", "pair"]
  A_shortest_row : At K mg "shortest_row" s_shortest_row__reversed_by ["one", "other", "deeds", "done"]
  A_row_of_turns : At K mg "row_of_turns" s_row_of_turns ["one", "other"]
  A_is_a_line : At K mg "is_a_line" s_is_a_line ["value"]
  A_need_lines : At K mg "need_lines" s_need_lines ["one", "other"]
  A_turns : At K mg "turns" s_turns ["one", "other"]
  A__law_bag : At K mg "_law_bag" s_L_bag ["script", "k"]
  A__law_take : At K mg "_law_take" s_L_take ["bag", "many"]
  A__law_one_of : At K mg "_law_one_of" s_L_one_of ["bag", "items"]
  A__law_shuffled : At K mg "_law_shuffled" s_L_shuffled ["bag", "items"]
  A__law_same : At K mg "_law_same" s_L_same ["got", "due"]
  A__law_is_int : At K mg "_law_is_int" s_L_is_int ["value", "low", "high"]
  A__law_odd : At K mg "_law_odd" s_L_odd ["bag"]
  A__law_put : At K mg "_law_put" s_L_put ["items", "at", "item"]
  A__law_bent : At K mg "_law_bent" s_L_bent ["bag", "value"]
  A__law_is_line : At K mg "_law_is_line" s_L_is_line ["n", "value"]
  A__law_turned : At K mg "_law_turned" s_L_turned ["line", "i", "j"]
  A__law_first : At K mg "_law_first" s_L_first ["one", "other"]
  A__law_error : At K mg "_law_error" s_L_error ["one", "other"]
  A__law_right : At K mg "_law_right" s_L_right ["bag"]
  A_law : At K mg "law" s_law ["script"]
  KW_turns_other_one : KwAt K mg "turns" ["one", "other"] ["other", "one"] [1, 0]
theorem law_kn {P : Program} {w : World} {K : PySem.W.Frag} {mg : Str → Option Value} (F : Facts P K mg) (base : Heap) : Kn P w K mg base CX0 11 "law" ["script"] (spF K mg [.scr] (.v true) (noErr m_law)) := by
  obtain ⟨DE, fI, C_StandError, C_InvalidLine, ER⟩ := F.ER
  obtain ⟨f_reversed_by, hm_reversed_by⟩ := F.A_reversed_by.at
  have G_is_integer := ok_is_integer (P := P) (w := w) (base := base) F.B F.A_is_integer 
  have G_is_between := ok_is_between (P := P) (w := w) (base := base) F.B F.A_is_between G_is_integer
  have G_is_tuple := ok_is_tuple (P := P) (w := w) (base := base) F.B F.A_is_tuple 
  have G_are_integers := ok_are_integers (P := P) (w := w) (base := base) F.B F.A_are_integers G_is_between
  have G_reversed_by := ok_reversed_by (P := P) (w := w) (base := base) F.B F.A_reversed_by 
  have G_shortest_row__reversed_by := ok_shortest_row__reversed_by (P := P) (w := w) (base := base) F.B F.A_shortest_row hm_reversed_by G_reversed_by
  have G_row_of_turns := ok_row_of_turns (P := P) (w := w) (base := base) F.B F.A_row_of_turns F.XC hm_reversed_by G_shortest_row__reversed_by
  have G_is_a_line := ok_is_a_line (P := P) (w := w) (base := base) F.B F.A_is_a_line F.CN G_are_integers G_is_tuple
  have G_need_lines := ok_need_lines (P := P) (w := w) (base := base) F.B F.A_need_lines ER G_is_a_line
  have G_turns := ok_turns (P := P) (w := w) (base := base) F.B F.A_turns G_need_lines G_row_of_turns
  have G_L_bag := ok_L_bag (P := P) (w := w) (base := base) F.B F.A__law_bag 
  have G_L_take := ok_L_take (P := P) (w := w) (base := base) F.B F.A__law_take 
  have G_L_one_of := ok_L_one_of (P := P) (w := w) (base := base) F.B F.A__law_one_of G_L_take
  have G_L_shuffled := ok_L_shuffled (P := P) (w := w) (base := base) F.B F.A__law_shuffled G_L_take
  have G_L_same := ok_L_same (P := P) (w := w) (base := base) F.B F.A__law_same  8
  have G_L_is_int := ok_L_is_int (P := P) (w := w) (base := base) F.B F.A__law_is_int 
  have G_L_odd := ok_L_odd (P := P) (w := w) (base := base) F.B F.A__law_odd G_L_one_of
  have G_L_put := ok_L_put (P := P) (w := w) (base := base) F.B F.A__law_put 
  have G_L_bent := ok_L_bent (P := P) (w := w) (base := base) F.B F.A__law_bent G_L_odd G_L_put G_L_take 2
  have G_L_is_line := ok_L_is_line (P := P) (w := w) (base := base) F.B F.A__law_is_line G_L_is_int
  have G_L_turned := ok_L_turned (P := P) (w := w) (base := base) F.B F.A__law_turned 
  have G_L_first := ok_L_first (P := P) (w := w) (base := base) F.B F.A__law_first G_L_turned
  have G_L_error := ok_L_error (P := P) (w := w) (base := base) F.B F.A__law_error ER G_turns
  have G_L_right := ok_L_right (P := P) (w := w) (base := base) F.B F.A__law_right G_L_bent G_L_error G_L_first G_L_is_line G_L_same G_L_shuffled G_L_take G_turns F.KW_turns_other_one
  have G_law := ok_law (P := P) (w := w) (base := base) F.B F.A_law G_L_bag G_L_right
  exact G_law
end K76
open PySem PySem.W PyProof.Rows
set_option maxRecDepth 100000 in
set_option maxHeartbeats 0 in
theorem PySem.Challenge.cw_choirstands_k76_turned_stretches_holds : PySem.Challenge.rw_choirstands_k76_turned_stretches.Holds := by
  w_on; o_law; k_head; (case hw => w_witness2)
  k_fill
  refine L2.walk_of (l := PySem.Challenge.rw_choirstands_k76_turned_stretches) (n := 63) (k := 11) (x := "script") (CX := fun _ => L2.CX0) (sp := fun w => FN.spLaw 63 _) rfl (by decide) rfl ⟨rfl, by decide, by decide⟩ (fun w h Y => PySem.W.kIn_of Y) ?F (fun _ _ a ns hl _ hS => ⟨a, ns, rfl, hS, hl, fun _ => rfl⟩) (fun _ _ _ _ _ h => h)
  case F =>
    intro w mg fa h KX G hmg
    refine' FN.use (FN.at_mk (x := "is_integer") (st := K76.s_is_integer) (ps := ["value"]) KX G ?a ?l ?c ?k (fun _ _ _ _ _ _ us hl => match us, hl with | [_], _ => rfl)) (fun A_is_integer => ?_)
    (case a => k_is); (case l => k_is); (case c => k_is); (case k => k_is)
    refine' FN.use (FN.at_mk (x := "is_between") (st := K76.s_is_between) (ps := ["value", "low", "high"]) KX G ?a ?l ?c ?k (fun _ _ _ _ _ _ us hl => match us, hl with | [_, _, _], _ => rfl)) (fun A_is_between => ?_)
    (case a => k_is); (case l => k_is); (case c => k_is); (case k => k_is)
    refine' FN.use (FN.at_mk (x := "is_tuple") (st := K76.s_is_tuple) (ps := ["value", "low", "high"]) KX G ?a ?l ?c ?k (fun _ _ _ _ _ _ us hl => match us, hl with | [_, _, _], _ => rfl)) (fun A_is_tuple => ?_)
    (case a => k_is); (case l => k_is); (case c => k_is); (case k => k_is)
    refine' FN.use (FN.at_mk (x := "are_integers") (st := K76.s_are_integers) (ps := ["value", "low", "high"]) KX G ?a ?l ?c ?k (fun _ _ _ _ _ _ us hl => match us, hl with | [_, _, _], _ => rfl)) (fun A_are_integers => ?_)
    (case a => k_is); (case l => k_is); (case c => k_is); (case k => k_is)
    refine' FN.use (FN.at_mk (x := "reversed_by") (st := K76.s_reversed_by) (ps := ["line", "pair"]) KX G ?a ?l ?c ?k (fun _ _ _ _ _ _ us hl => match us, hl with | [_, _], _ => rfl)) (fun A_reversed_by => ?_)
    (case a => k_is); (case l => k_is); (case c => k_is); (case k => k_is)
    refine' FN.use (FN.at_mk (x := "shortest_row") (st := K76.s_shortest_row__reversed_by) (ps := ["one", "other", "deeds", "done"]) KX G ?a ?l ?c ?k (fun _ _ _ _ _ _ us hl => match us, hl with | [_, _, _, _], _ => rfl)) (fun A_shortest_row => ?_)
    (case a => k_is); (case l => k_is); (case c => k_is); (case k => k_is)
    refine' FN.use (FN.at_mk (x := "row_of_turns") (st := K76.s_row_of_turns) (ps := ["one", "other"]) KX G ?a ?l ?c ?k (fun _ _ _ _ _ _ us hl => match us, hl with | [_, _], _ => rfl)) (fun A_row_of_turns => ?_)
    (case a => k_is); (case l => k_is); (case c => k_is); (case k => k_is)
    refine' FN.use (FN.at_mk (x := "is_a_line") (st := K76.s_is_a_line) (ps := ["value"]) KX G ?a ?l ?c ?k (fun _ _ _ _ _ _ us hl => match us, hl with | [_], _ => rfl)) (fun A_is_a_line => ?_)
    (case a => k_is); (case l => k_is); (case c => k_is); (case k => k_is)
    refine' FN.use (FN.at_mk (x := "need_lines") (st := K76.s_need_lines) (ps := ["one", "other"]) KX G ?a ?l ?c ?k (fun _ _ _ _ _ _ us hl => match us, hl with | [_, _], _ => rfl)) (fun A_need_lines => ?_)
    (case a => k_is); (case l => k_is); (case c => k_is); (case k => k_is)
    refine' FN.use (FN.at_mk (x := "turns") (st := K76.s_turns) (ps := ["one", "other"]) KX G ?a ?l ?c ?k (fun _ _ _ _ _ _ us hl => match us, hl with | [_, _], _ => rfl)) (fun A_turns => ?_)
    (case a => k_is); (case l => k_is); (case c => k_is); (case k => k_is)
    refine' FN.use (FN.at_mk (x := "_law_bag") (st := K76.s_L_bag) (ps := ["script", "k"]) KX G ?a ?l ?c ?k (fun _ _ _ _ _ _ us hl => match us, hl with | [_, _], _ => rfl)) (fun A__law_bag => ?_)
    (case a => k_is); (case l => k_is); (case c => k_is); (case k => k_is)
    refine' FN.use (FN.at_mk (x := "_law_take") (st := K76.s_L_take) (ps := ["bag", "many"]) KX G ?a ?l ?c ?k (fun _ _ _ _ _ _ us hl => match us, hl with | [_, _], _ => rfl)) (fun A__law_take => ?_)
    (case a => k_is); (case l => k_is); (case c => k_is); (case k => k_is)
    refine' FN.use (FN.at_mk (x := "_law_one_of") (st := K76.s_L_one_of) (ps := ["bag", "items"]) KX G ?a ?l ?c ?k (fun _ _ _ _ _ _ us hl => match us, hl with | [_, _], _ => rfl)) (fun A__law_one_of => ?_)
    (case a => k_is); (case l => k_is); (case c => k_is); (case k => k_is)
    refine' FN.use (FN.at_mk (x := "_law_shuffled") (st := K76.s_L_shuffled) (ps := ["bag", "items"]) KX G ?a ?l ?c ?k (fun _ _ _ _ _ _ us hl => match us, hl with | [_, _], _ => rfl)) (fun A__law_shuffled => ?_)
    (case a => k_is); (case l => k_is); (case c => k_is); (case k => k_is)
    refine' FN.use (FN.at_mk (x := "_law_same") (st := K76.s_L_same) (ps := ["got", "due"]) KX G ?a ?l ?c ?k (fun _ _ _ _ _ _ us hl => match us, hl with | [_, _], _ => rfl)) (fun A__law_same => ?_)
    (case a => k_is); (case l => k_is); (case c => k_is); (case k => k_is)
    refine' FN.use (FN.at_mk (x := "_law_is_int") (st := K76.s_L_is_int) (ps := ["value", "low", "high"]) KX G ?a ?l ?c ?k (fun _ _ _ _ _ _ us hl => match us, hl with | [_, _, _], _ => rfl)) (fun A__law_is_int => ?_)
    (case a => k_is); (case l => k_is); (case c => k_is); (case k => k_is)
    refine' FN.use (FN.at_mk (x := "_law_odd") (st := K76.s_L_odd) (ps := ["bag"]) KX G ?a ?l ?c ?k (fun _ _ _ _ _ _ us hl => match us, hl with | [_], _ => rfl)) (fun A__law_odd => ?_)
    (case a => k_is); (case l => k_is); (case c => k_is); (case k => k_is)
    refine' FN.use (FN.at_mk (x := "_law_put") (st := K76.s_L_put) (ps := ["items", "at", "item"]) KX G ?a ?l ?c ?k (fun _ _ _ _ _ _ us hl => match us, hl with | [_, _, _], _ => rfl)) (fun A__law_put => ?_)
    (case a => k_is); (case l => k_is); (case c => k_is); (case k => k_is)
    refine' FN.use (FN.at_mk (x := "_law_bent") (st := K76.s_L_bent) (ps := ["bag", "value"]) KX G ?a ?l ?c ?k (fun _ _ _ _ _ _ us hl => match us, hl with | [_, _], _ => rfl)) (fun A__law_bent => ?_)
    (case a => k_is); (case l => k_is); (case c => k_is); (case k => k_is)
    refine' FN.use (FN.at_mk (x := "_law_is_line") (st := K76.s_L_is_line) (ps := ["n", "value"]) KX G ?a ?l ?c ?k (fun _ _ _ _ _ _ us hl => match us, hl with | [_, _], _ => rfl)) (fun A__law_is_line => ?_)
    (case a => k_is); (case l => k_is); (case c => k_is); (case k => k_is)
    refine' FN.use (FN.at_mk (x := "_law_turned") (st := K76.s_L_turned) (ps := ["line", "i", "j"]) KX G ?a ?l ?c ?k (fun _ _ _ _ _ _ us hl => match us, hl with | [_, _, _], _ => rfl)) (fun A__law_turned => ?_)
    (case a => k_is); (case l => k_is); (case c => k_is); (case k => k_is)
    refine' FN.use (FN.at_mk (x := "_law_first") (st := K76.s_L_first) (ps := ["one", "other"]) KX G ?a ?l ?c ?k (fun _ _ _ _ _ _ us hl => match us, hl with | [_, _], _ => rfl)) (fun A__law_first => ?_)
    (case a => k_is); (case l => k_is); (case c => k_is); (case k => k_is)
    refine' FN.use (FN.at_mk (x := "_law_error") (st := K76.s_L_error) (ps := ["one", "other"]) KX G ?a ?l ?c ?k (fun _ _ _ _ _ _ us hl => match us, hl with | [_, _], _ => rfl)) (fun A__law_error => ?_)
    (case a => k_is); (case l => k_is); (case c => k_is); (case k => k_is)
    refine' FN.use (FN.at_mk (x := "_law_right") (st := K76.s_L_right) (ps := ["bag"]) KX G ?a ?l ?c ?k (fun _ _ _ _ _ _ us hl => match us, hl with | [_], _ => rfl)) (fun A__law_right => ?_)
    (case a => k_is); (case l => k_is); (case c => k_is); (case k => k_is)
    refine' FN.use (FN.at_mk (x := "law") (st := K76.s_law) (ps := ["script"]) KX G ?a ?l ?c ?k (fun _ _ _ _ _ _ us hl => match us, hl with | [_], _ => rfl)) (fun A_law => ?_)
    (case a => k_is); (case l => k_is); (case c => k_is); (case k => k_is)
    have Z_all : mg "all" = none := PySem.W.mg_none_of KX G (by k_is)
    have Z_bool : mg "bool" = none := PySem.W.mg_none_of KX G (by k_is)
    have Z_int : mg "int" = none := PySem.W.mg_none_of KX G (by k_is)
    have Z_isinstance : mg "isinstance" = none := PySem.W.mg_none_of KX G (by k_is)
    have Z_len : mg "len" = none := PySem.W.mg_none_of KX G (by k_is)
    have Z_list : mg "list" = none := PySem.W.mg_none_of KX G (by k_is)
    have Z_max : mg "max" = none := PySem.W.mg_none_of KX G (by k_is)
    have Z_min : mg "min" = none := PySem.W.mg_none_of KX G (by k_is)
    have Z_range : mg "range" = none := PySem.W.mg_none_of KX G (by k_is)
    have Z_sorted : mg "sorted" = none := PySem.W.mg_none_of KX G (by k_is)
    have Z_str : mg "str" = none := PySem.W.mg_none_of KX G (by k_is)
    have Z_tuple : mg "tuple" = none := PySem.W.mg_none_of KX G (by k_is)
    have Z_zip : mg "zip" = none := PySem.W.mg_none_of KX G (by k_is)
    have B : K76.Bt mg := ⟨Z_all, Z_bool, Z_int, Z_isinstance, Z_len, Z_list, Z_max, Z_min, Z_range, Z_sorted, Z_str, Z_tuple, Z_zip⟩
    have U_MOST_SINGERS : ∃ u, mg "MOST_SINGERS" = some u ∧ L2.RelV (.int 10) u := by
      refine' FN.cst_mk KX G ?a ?r
      (case a => k_is); (case r => exact ⟨_, rfl⟩)
    refine' FN.use (PySem.W.mg_of KX G ?xc : mg "combinations" = some (.type "itertools.combinations")) (fun XC => ?_)
    (case xc => k_is)
    have CN : K76.Cs mg := ⟨U_MOST_SINGERS⟩
    refine' FN.use (⟨_, _, _, _, ⟨FN.err_txt KX G ?e1 ?e2 ?e3 ?e4 ?e5 ?e6 ?e7 ?e8 ?e9 ?e10 ?e11, PySem.W.mg_of KX G ?m_StandError, PySem.W.mg_of KX G ?m_InvalidLine, ⟨FN.oex_mk ?x_InvalidLine ?r_InvalidLine ?sa_InvalidLine ?ex_InvalidLine ?ty_InvalidLine ?kp_InvalidLine, ?iC_InvalidLine, ?tI_InvalidLine, ?no_InvalidLine, ?su_InvalidLine, ?sv_InvalidLine, ?sp_InvalidLine⟩, ⟨?ga_InvalidLine, ?gg_InvalidLine, ?ex2_InvalidLine, ?hd_InvalidLine⟩, ⟨?ga2_InvalidLine, ?gg2_InvalidLine, ?ex3_InvalidLine, ?hd2_InvalidLine, ?ha_InvalidLine, ?hn_InvalidLine, ?ht_InvalidLine, ?hm_InvalidLine⟩, ?ki_InvalidLine, ?xm_InvalidLine_InvalidLine⟩⟩ : ∃ DE fI C_StandError C_InvalidLine : Addr, K76.Er PySem.Challenge.rw_choirstands_k76_turned_stretches.prog _ mg DE fI C_StandError C_InvalidLine) (fun ER => ?_)
    (case m_StandError => k_is)
    (case m_InvalidLine => k_is)
    (case x_InvalidLine => first | k_is | rfl | decide)
    (case r_InvalidLine => first | k_is | rfl | decide)
    (case sa_InvalidLine => first | k_is | rfl | decide)
    (case ex_InvalidLine => first | k_is | rfl | decide)
    (case ty_InvalidLine => first | k_is | rfl | decide)
    (case kp_InvalidLine => first | k_is | rfl | decide)
    (case iC_InvalidLine => first | k_is | rfl | decide)
    (case tI_InvalidLine => first | k_is | rfl | decide)
    (case no_InvalidLine => first | k_is | rfl | decide)
    (case e1 => first | k_is | rfl | decide)
    (case e2 => first | k_is | rfl | decide)
    (case e3 => first | k_is | rfl | decide)
    (case e4 => first | k_is | rfl | decide)
    (case e5 => first | k_is | rfl | decide)
    (case e6 => first | k_is | rfl | decide)
    (case e7 => first | k_is | rfl | decide)
    (case e8 => first | k_is | rfl | decide)
    (case e9 => first | k_is | rfl | decide)
    (case e10 => first | k_is | rfl | decide)
    (case e11 => first | k_is | rfl | decide)
    (case su_InvalidLine => first | k_is | rfl | decide)
    (case sv_InvalidLine => first | k_is | rfl | decide)
    (case sp_InvalidLine => first | k_is | rfl | decide)
    (case ga_InvalidLine => first | k_is | rfl | decide)
    (case gg_InvalidLine => first | k_is | rfl | decide)
    (case ex2_InvalidLine => first | k_is | rfl | decide)
    (case hd_InvalidLine => first | k_is | rfl | decide)
    (case ga2_InvalidLine => first | k_is | rfl | decide)
    (case gg2_InvalidLine => first | k_is | rfl | decide)
    (case ex3_InvalidLine => first | k_is | rfl | decide)
    (case hd2_InvalidLine => first | k_is | rfl | decide)
    (case ha_InvalidLine => first | k_is | rfl | decide)
    (case hn_InvalidLine => first | k_is | rfl | decide)
    (case ht_InvalidLine => first | k_is | rfl | decide)
    (case hm_InvalidLine => first | k_is | rfl | decide)
    (case ki_InvalidLine => first | k_is | rfl | decide)
    (case xm_InvalidLine_InvalidLine => first | k_is | rfl | decide)
    exact FN.law_end K76.law_true A_law hmg (fun _ _ _ _ _ _ us hl => match us, hl with | [_], _ => rfl) (fun base => K76.law_kn ⟨B, CN, XC, ER, A_is_integer, A_is_between, A_is_tuple, A_are_integers, A_reversed_by, A_shortest_row, A_row_of_turns, A_is_a_line, A_need_lines, A_turns, A__law_bag, A__law_take, A__law_one_of, A__law_shuffled, A__law_same, A__law_is_int, A__law_odd, A__law_put, A__law_bent, A__law_is_line, A__law_turned, A__law_first, A__law_error, A__law_right, A_law, FN.kwAt_mk A_turns (fun _ _ _ _ _ _ ws hl => match ws, hl with | [_, _], _ => rfl)⟩ base)
