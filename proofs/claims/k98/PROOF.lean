import PyProof.Rows.All
import HandS.ForMost
import HandS.ForExc
import HandS.ExcField
import HandS.ExcIs
import HandS.TupAny
import HandS.Zip
import HandS.IsInst
import HandS.More
import HandS.Style
import HandS.Conv
import HandS.SortInts
import HandS.Deep
import HandS.Wide
import HandS.Steps
import HandS.Text
import HandS.TupMul
import HandS.ExcInit
import KE.KExcSuper
import KE.KSuper
import HandS.CallLocal
import HandS.RaiseMore
import HandS.Ends
import KE.KIntText
import KE.IntTextText
import PyProof.StrLawsTight
import PyProof.StrLawsChain
import HandS.Dict
import KE.KDictDisplayH
import HandS.RevTup
import KE.SortData
import PyProof.SeqIndex
import PyProof.TupleOfSeq
import HandS.RepeatKit
import HandS.MapObj
import HandS.Records
import KE.KIndexOf
import HandS.Gcd
import KE.KMathG
import KE.KMathGC
import HandS.TupSets
import HandS.SetFor
import PyProof.WalksMore
import PyProof.TupleIter
import PyProof.ReprReads
import PyProof.ReprHeadsEmpty
import PyProof.ReprHeadsTuple
import PyProof.CallFns
import KE.IntBitsLaws
import PySem.Challenge.RW_choirstands_k98_errors_of_the_package
set_option Elab.async false
set_option linter.all false
set_option maxRecDepth 100000
set_option maxHeartbeats 4000000
/-! FN1: data by value, worlds, slots. -/
namespace FN
open PySem PySem.Spec PyProof.Rows L2
abbrev D := PyData
abbrev FpS := Addr → Prop
/-! ### data in a frozen heap -/
mutual
/-- b: tuples that the text wrote (not tracked) are let -/
inductive RD (b : Bool) (K : PySem.W.Frag) (F : Hp) : V → D → Prop
  | non : RD b K F .non .none
  | bl (c : Bool) : RD b K F (.bl c) (.bool c)
  | int (i : Int) : RD b K F (.int i) (.int i)
  | str (x : Str) : RD b K F (.str x) (.str x)
  | lst {a : Addr} {xs : List V} {ds : List D} : F a = some (.lst xs) → RDs b K F xs ds → RD b K F (.ref a) (.list ds)
  | tup {a : Addr} {xs : List V} {ds : List D} : F a = some (.tup xs) → RDs b K F xs ds → RD b K F (.ref a) (.tuple ds)
  | con {a : Addr} {xs : List V} {ds : List D} : b = true → SqT K F a xs → RDs b K F xs ds → RD b K F (.ref a) (.tuple ds)
inductive RDs (b : Bool) (K : PySem.W.Frag) (F : Hp) : List V → List D → Prop
  | nil : RDs b K F [] []
  | cons {v : V} {vs : List V} {d : D} {ds : List D} : RD b K F v d → RDs b K F vs ds → RDs b K F (v :: vs) (d :: ds)
end
theorem sameT {K : PySem.W.Frag} {H H' : Hp} {a : Addr} {xs : List V} (e : Same H H') (h : SqT K H a xs) : SqT K H' a xs := by
  rcases h with (h | ⟨o, h⟩) | h
  · exact .inl (.inl (e _ _ h))
  · exact .inl (.inr ⟨o, e _ _ h⟩)
  · exact .inr h
mutual
theorem RD.mono {b : Bool} {K : PySem.W.Frag} {F F' : Hp} (e : Same F F') {v : V} {d : D} : RD b K F v d → RD b K F' v d
  | .non => .non
  | .bl c => .bl c
  | .int i => .int i
  | .str x => .str x
  | .lst h t => .lst (e _ _ h) (RDs.mono e t)
  | .tup h t => .tup (e _ _ h) (RDs.mono e t)
  | .con z h t => .con z (sameT e h) (RDs.mono e t)
theorem RDs.mono {b : Bool} {K : PySem.W.Frag} {F F' : Hp} (e : Same F F') {vs : List V} {ds : List D} : RDs b K F vs ds → RDs b K F' vs ds
  | .nil => .nil
  | .cons h t => .cons (RD.mono e h) (RDs.mono e t)
end
mutual
theorem RD.dp {b : Bool} {K : PySem.W.Frag} {F : Hp} {v : V} {d : D} : RD b K F v d → Dp K F v d
  | .non => .non
  | .bl c => .bl c
  | .int i => .int i
  | .str x => .str x
  | .lst h t => .lst (SqL.of h) (RDs.dp t)
  | .tup h t => .tup (SqT.of h) (RDs.dp t)
  | .con _ h t => .tup h (RDs.dp t)
theorem RDs.dp {b : Bool} {K : PySem.W.Frag} {F : Hp} {vs : List V} {ds : List D} : RDs b K F vs ds → DpAll K F vs ds
  | .nil => .nil
  | .cons h t => .cons (RD.dp h) (RDs.dp t)
end
theorem RDs.length {b : Bool} {K : PySem.W.Frag} {F : Hp} : ∀ {vs : List V} {ds : List D}, RDs b K F vs ds → vs.length = ds.length
  | _, _, .nil => rfl
  | _, _, .cons _ t => by rw [List.length_cons, List.length_cons, RDs.length t]
theorem DpAll.length {K : PySem.W.Frag} {F : Hp} : ∀ {vs : List V} {ds : List D}, DpAll K F vs ds → vs.length = ds.length
  | _, _, .nil => rfl
  | _, _, .cons _ t => by rw [List.length_cons, List.length_cons, DpAll.length t]
theorem RDs.get {b : Bool} {K : PySem.W.Frag} {F : Hp} : ∀ {vs : List V} {ds : List D} {i : Nat} {d : D}, RDs b K F vs ds → ds[i]? = some d → ∃ v, vs[i]? = some v ∧ RD b K F v d
  | _, _, _, _, .nil, e => by simp at e
  | _, _, 0, _, .cons h _, e => by
    rw [List.getElem?_cons_zero] at e
    cases e
    exact ⟨_, List.getElem?_cons_zero .., h⟩
  | _, _, i + 1, _, .cons _ t, e => by
    rw [List.getElem?_cons_succ] at e
    obtain ⟨v, e1, e2⟩ := RDs.get t e
    exact ⟨v, by rw [List.getElem?_cons_succ]; exact e1, e2⟩
theorem RDs.append {b : Bool} {K : PySem.W.Frag} {F : Hp} : ∀ {vs ws : List V} {ds es : List D}, RDs b K F vs ds → RDs b K F ws es → RDs b K F (vs ++ ws) (ds ++ es)
  | _, _, _, _, .nil, t => t
  | _, _, _, _, .cons h s, t => .cons h (RDs.append s t)
theorem RDs.take {b : Bool} {K : PySem.W.Frag} {F : Hp} : ∀ {vs : List V} {ds : List D} (n : Nat), RDs b K F vs ds → RDs b K F (vs.take n) (ds.take n)
  | _, _, 0, _ => .nil
  | _, _, _ + 1, .nil => .nil
  | _, _, n + 1, .cons h t => .cons h (RDs.take n t)
theorem RDs.drop {b : Bool} {K : PySem.W.Frag} {F : Hp} : ∀ {vs : List V} {ds : List D} (n : Nat), RDs b K F vs ds → RDs b K F (vs.drop n) (ds.drop n)
  | _, _, 0, h => h
  | _, _, _ + 1, .nil => .nil
  | _, _, n + 1, .cons _ t => RDs.drop n t
theorem RDs.set {b : Bool} {K : PySem.W.Frag} {F : Hp} {v : V} {d : D} (r : RD b K F v d) : ∀ {vs : List V} {ds : List D} (i : Nat), RDs b K F vs ds → RDs b K F (vs.set i v) (ds.set i d)
  | _, _, _, .nil => .nil
  | _, _, 0, .cons _ t => .cons r t
  | _, _, i + 1, .cons h t => .cons h (RDs.set r i t)
theorem RDs.eraseIdx {b : Bool} {K : PySem.W.Frag} {F : Hp} : ∀ {vs : List V} {ds : List D} (i : Nat), RDs b K F vs ds → RDs b K F (vs.eraseIdx i) (ds.eraseIdx i)
  | _, _, _, .nil => .nil
  | _, _, 0, .cons _ t => t
  | _, _, i + 1, .cons h t => .cons h (RDs.eraseIdx i t)
theorem RDs.dropLast {b : Bool} {K : PySem.W.Frag} {F : Hp} {vs : List V} {ds : List D} (h : RDs b K F vs ds) : RDs b K F vs.dropLast ds.dropLast := by
  rw [List.dropLast_eq_take, List.dropLast_eq_take, h.length]
  exact h.take _
theorem RDs.reverse {b : Bool} {K : PySem.W.Frag} {F : Hp} : ∀ {vs : List V} {ds : List D}, RDs b K F vs ds → RDs b K F vs.reverse ds.reverse
  | _, _, .nil => .nil
  | _, _, .cons h t => by
    rw [List.reverse_cons, List.reverse_cons]
    exact RDs.append (RDs.reverse t) (.cons h .nil)
mutual
theorem RD.any {b : Bool} {K : PySem.W.Frag} {F : Hp} {v : V} {d : D} : RD b K F v d → RD true K F v d
  | .non => .non
  | .bl c => .bl c
  | .int i => .int i
  | .str x => .str x
  | .lst h t => .lst h (RDs.any t)
  | .tup h t => .tup h (RDs.any t)
  | .con _ h t => .con rfl h (RDs.any t)
theorem RDs.any {b : Bool} {K : PySem.W.Frag} {F : Hp} {vs : List V} {ds : List D} : RDs b K F vs ds → RDs true K F vs ds
  | .nil => .nil
  | .cons h t => .cons (RD.any h) (RDs.any t)
end
theorem RDs.ints {b : Bool} {K : PySem.W.Frag} {F : Hp} : ∀ ns : List Int, RDs b K F (ns.map V.int) (ns.map PyData.int)
  | [] => .nil
  | n :: r => .cons (.int n) (RDs.ints r)
theorem RDs.of_get {b : Bool} {K : PySem.W.Frag} {F : Hp} : ∀ {vs : List V} {ds : List D}, vs.length = ds.length → (∀ (i : Nat) v d, vs[i]? = some v → ds[i]? = some d → RD b K F v d) → RDs b K F vs ds
  | [], [], _, _ => .nil
  | [], _ :: _, h, _ => by simp at h
  | _ :: _, [], h, _ => by simp at h
  | v :: vs, d :: ds, h, g => .cons (g 0 v d rfl rfl) (RDs.of_get (by simpa using h) fun i v' d' e1 e2 => g (i + 1) v' d' (by simpa using e1) (by simpa using e2))
/-! ### kinds, owned data -/
/-- a kind of one's own: what it says of a value, its datum, what it owns -/
structure Own where
  rel : PySem.W.Frag → Hp → Hp → V → D → FpS → Prop
  mono : ∀ {K : PySem.W.Frag} {F H : Hp} {v : V} {d : D} {fp fp' : FpS}, rel K F H v d fp → (∀ a, fp a → fp' a) → rel K F H v d fp'
  frame : ∀ {K : PySem.W.Frag} {F F' H H' : Hp} {v : V} {d : D} {fp : FpS}, Same F F' → rel K F H v d fp → (∀ a o, fp a → H a = some o → H' a = some o) → rel K F' H' v d fp
  dp : ∀ {K : PySem.W.Frag} {F H : Hp} {v : V} {d : D} {fp : FpS}, Same F H → (∀ ps, d ≠ .dict ps) → rel K F H v d fp → Dp K H v d
inductive Kind where
  /-- an immediate datum -/
  | v (b : Bool)
  /-- an owned list -/
  | lst (k : Kind)
  /-- the law's script: a list of ints that is read -/
  | scr
  /-- the very object u (a parameter that is changed) -/
  | fix (u : V) (k : Kind)
  /-- the very object u (a def, a class) -/
  | tok (u : V)
  /-- a caught error at a, its dict at dx; the datum is its value -/
  | exc (a dx : Addr) (cls : Value) (R : Addr → Prop)
  /-- an owned dict, its keys tuples of texts and ints -/
  | dT (b : Bool)
  /-- an owned dict, its keys texts and ints -/
  | dK (b : Bool)
  /-- a kind of one's own -/
  | ext (o : Own)
abbrev Kind.imm : Kind := .v true
abbrev Kind.st : Kind := .v false
inductive ODl (R : V → D → FpS → Prop) : List V → List D → FpS → Prop
  | nil {fp : FpS} : ODl R [] [] fp
  | cons {v : V} {d : D} {vs : List V} {ds : List D} {f g fp : FpS} : R v d f → ODl R vs ds g → (∀ a, f a → ¬ g a) → (∀ a, f a → fp a) → (∀ a, g a → fp a) → ODl R (v :: vs) (d :: ds) fp
/-- kinds that are read as data -/
def dk : Kind → Bool
  | .v _ => true
  | .lst k => dk k
  | .scr => true
  | .fix _ k => dk k
  | _ => false
/-- a key's datum -/
def kD : Key → D
  | .inl i => .int i
  | .inr s => .str s
/-- a dict's pairs -/
inductive RKT (b : Bool) (K : PySem.W.Frag) (F : Hp) : List (List Key × V) → List (D × D) → Prop
  | nil : RKT b K F [] []
  | cons {k : List Key} {v : V} {d : D} {kvs : List (List Key × V)} {ps : List (D × D)} : RD b K F v d → RKT b K F kvs ps → RKT b K F ((k, v) :: kvs) ((.tuple (k.map kD), d) :: ps)
inductive RKK (b : Bool) (K : PySem.W.Frag) (F : Hp) : List (Key × V) → List (D × D) → Prop
  | nil : RKK b K F [] []
  | cons {k : Key} {v : V} {d : D} {kvs : List (Key × V)} {ps : List (D × D)} : RD b K F v d → RKK b K F kvs ps → RKK b K F ((k, v) :: kvs) ((kD k, d) :: ps)
theorem RKT.mono {b : Bool} {K : PySem.W.Frag} {F F' : Hp} (e : Same F F') {kvs : List (List Key × V)} {ps : List (D × D)} (h : RKT b K F kvs ps) : RKT b K F' kvs ps := by
  induction h with
  | nil => exact .nil
  | cons r _ ih => exact .cons (r.mono e) ih
theorem RKK.mono {b : Bool} {K : PySem.W.Frag} {F F' : Hp} (e : Same F F') {kvs : List (Key × V)} {ps : List (D × D)} (h : RKK b K F kvs ps) : RKK b K F' kvs ps := by
  induction h with
  | nil => exact .nil
  | cons r _ ih => exact .cons (r.mono e) ih
def OD (K : PySem.W.Frag) (F H : Hp) : Kind → V → D → FpS → Prop
  | .v b, v, d, _ => RD b K F v d
  | .lst k, v, d, fp => ∃ (a : Addr) (vs : List V) (ds : List D) (g : FpS), v = .ref a ∧ d = .list ds ∧ H a = some (.lst vs) ∧ fp a ∧ ¬ g a ∧ (∀ b, g b → fp b) ∧ ODl (fun v d f => dk k = true ∧ OD K F H k v d f) vs ds g
  | .scr, v, d, _ => ∃ (a : Addr) (ns : List Int), v = .ref a ∧ d = .list (ns.map .int) ∧ SqL K F a (ns.map V.int)
  | .fix _ k, v, d, fp => OD K F H k v d fp
  | .tok u, v, d, _ => v = u ∧ d = .dict []
  | .exc a dx cls R, v, d, _ => v = .ref a ∧ ∃ (y : V) (d' : D), d = .dict [(.none, d')] ∧ F dx = some (.xd [(("value" : Str), y)]) ∧ RD true K F y d' ∧ ∃ C, cls = .ref C ∧ XfC K C ∧ PySem.W.findIn K (.ref C) "value" = some none ∧ R C
  | .dT b, v, d, fp => ∃ (a : Addr) (kvs : List (List Key × V)) (ps : List (D × D)), v = .ref a ∧ d = .dict ps ∧ H a = some (.dT kvs) ∧ fp a ∧ RKT b K F kvs ps
  | .dK b, v, d, fp => ∃ (a : Addr) (kvs : List (Key × V)) (ps : List (D × D)), v = .ref a ∧ d = .dict ps ∧ H a = some (.dK kvs) ∧ fp a ∧ RKK b K F kvs ps
  | .ext o, v, d, fp => o.rel K F H v d fp
theorem ODl.imp {R R' : V → D → FpS → Prop} : ∀ {vs : List V} {ds : List D} {fp : FpS}, ODl R vs ds fp → (∀ v d f, R v d f → (∀ a, f a → fp a) → R' v d f) → ODl R' vs ds fp
  | _, _, _, .nil, _ => .nil
  | _, _, _, .cons r t d h1 h2, i => .cons (i _ _ _ r h1) (ODl.imp t fun v d f q z => i v d f q fun a y => h2 a (z a y)) d h1 h2
theorem ODl.mono {R : V → D → FpS → Prop} {vs : List V} {ds : List D} {fp fp' : FpS} (h : ODl R vs ds fp) (s : ∀ a, fp a → fp' a) : ODl R vs ds fp' := by
  cases h with
  | nil => exact .nil
  | cons r t d h1 h2 => exact .cons r t d (fun a z => s a (h1 a z)) fun a z => s a (h2 a z)
theorem OD.mono {K : PySem.W.Frag} {F H : Hp} : ∀ {k : Kind} {v : V} {d : D} {fp fp' : FpS}, OD K F H k v d fp → (∀ a, fp a → fp' a) → OD K F H k v d fp'
  | .v _, _, _, _, _, h, _ => h
  | .lst _, _, _, _, _, ⟨a, vs, ds, g, e1, e2, e3, h1, h2, h3, t⟩, s => ⟨a, vs, ds, g, e1, e2, e3, s a h1, h2, fun b z => s b (h3 b z), t⟩
  | .scr, _, _, _, _, h, _ => h
  | .fix _ k, _, _, _, _, h, s => OD.mono (k := k) h s
  | .tok _, _, _, _, _, h, _ => h
  | .exc _ _ _ _, _, _, _, _, h, _ => h
  | .dT _, _, _, _, _, ⟨a, kvs, ps, e1, e2, e3, h1, t⟩, s => ⟨a, kvs, ps, e1, e2, e3, s a h1, t⟩
  | .dK _, _, _, _, _, ⟨a, kvs, ps, e1, e2, e3, h1, t⟩, s => ⟨a, kvs, ps, e1, e2, e3, s a h1, t⟩
  | .ext o, _, _, _, _, h, s => o.mono h s
theorem OD.frame {K : PySem.W.Frag} {F F' H H' : Hp} (eF : Same F F') : ∀ {k : Kind} {v : V} {d : D} {fp : FpS}, OD K F H k v d fp → (∀ a o, fp a → H a = some o → H' a = some o) → OD K F' H' k v d fp
  | .v _, _, _, _, h, _ => RD.mono eF h
  | .lst k, _, _, _, ⟨a, vs, ds, g, e1, e2, e3, h1, h2, h3, t⟩, s => ⟨a, vs, ds, g, e1, e2, s a _ h1 e3, h1, h2, h3, t.imp fun v d f r z => ⟨r.1, OD.frame eF (k := k) r.2 fun b o y q => s b o (h3 b (z b y)) q⟩⟩
  | .scr, _, _, _, ⟨a, ns, e1, e2, h⟩, _ => ⟨a, ns, e1, e2, eF.seq h⟩
  | .fix _ k, _, _, _, h, s => OD.frame eF (k := k) h s
  | .tok _, _, _, _, h, _ => h
  | .exc _ _ _ _, _, _, _, ⟨e1, y, d', e2, e3, h, r⟩, _ => ⟨e1, y, d', e2, eF _ _ e3, RD.mono eF h, r⟩
  | .dT _, _, _, _, ⟨a, kvs, ps, e1, e2, e3, h1, t⟩, s => ⟨a, kvs, ps, e1, e2, s a _ h1 e3, h1, t.mono eF⟩
  | .dK _, _, _, _, ⟨a, kvs, ps, e1, e2, e3, h1, t⟩, s => ⟨a, kvs, ps, e1, e2, s a _ h1 e3, h1, t.mono eF⟩
  | .ext o, _, _, _, h, s => o.frame eF h s
theorem dpAll_of {K : PySem.W.Frag} {H : Hp} {R : V → D → FpS → Prop} : ∀ {vs : List V} {ds : List D} {fp : FpS}, ODl R vs ds fp → (∀ v d f, R v d f → Dp K H v d) → DpAll K H vs ds
  | _, _, _, .nil, _ => .nil
  | _, _, _, .cons r t _ _ _, i => .cons (i _ _ _ r) (dpAll_of t i)
theorem Dp_same {b : Bool} {K : PySem.W.Frag} {H H' : Hp} (e : Same H H') {v : V} {d : D} (h : RD b K H v d) : Dp K H' v d := (h.mono e).dp
theorem OD.dp {K : PySem.W.Frag} {F H : Hp} (eF : Same F H) : ∀ {k : Kind} {v : V} {d : D} {fp : FpS}, dk k = true → OD K F H k v d fp → Dp K H v d
  | .v _, _, _, _, _, h => Dp_same eF h
  | .lst k, _, _, _, _, ⟨a, vs, ds, g, e1, e2, e3, h1, h2, h3, t⟩ => by
    subst e1; subst e2
    exact .lst (SqL.of e3) (dpAll_of t fun v d f r => OD.dp eF (k := k) r.1 r.2)
  | .scr, _, _, _, _, ⟨a, ns, e1, e2, h⟩ => by
    subst e1; subst e2
    exact .lst (eF.seq h) (RDs.ints (b := true) (K := K) (F := H) ns).dp
  | .fix _ k, _, _, _, hd, h => OD.dp eF (k := k) hd h
/-- .. read off the datum -/
theorem OD.dpn {K : PySem.W.Frag} {F H : Hp} (eF : Same F H) : ∀ {k : Kind} {v : V} {d : D} {fp : FpS}, (∀ ps, d ≠ .dict ps) → OD K F H k v d fp → Dp K H v d
  | .v _, _, _, _, _, h => Dp_same eF h
  | .lst k, _, _, _, _, ⟨a, vs, ds, g, e1, e2, e3, h1, h2, h3, t⟩ => by
    subst e1; subst e2
    exact .lst (SqL.of e3) (dpAll_of t fun v d f r => OD.dp eF (k := k) r.1 r.2)
  | .scr, _, _, _, _, ⟨a, ns, e1, e2, h⟩ => by
    subst e1; subst e2
    exact .lst (eF.seq h) (RDs.ints (b := true) (K := K) (F := H) ns).dp
  | .fix _ k, _, _, _, hd, h => OD.dpn eF (k := k) hd h
  | .tok _, _, _, _, hd, ⟨_, e⟩ => absurd e (hd _)
  | .exc _ _ _ _, _, _, _, hd, ⟨_, _, _, e, _⟩ => absurd e (hd _)
  | .dT _, _, _, _, hd, ⟨_, _, _, _, e, _⟩ => absurd e (hd _)
  | .dK _, _, _, _, hd, ⟨_, _, _, _, e, _⟩ => absurd e (hd _)
  | .ext o, _, _, _, hd, h => o.dp eF hd h
/-! ### slots -/
abbrev Env := List (Option D)
inductive Slots (K : PySem.W.Frag) (F H : Hp) : List Kind → Env → L2.St → FpS → Prop
  | nil {fp : FpS} : Slots K F H [] [] [] fp
  | skip {k : Kind} {κ : List Kind} {ρ : Env} {o : Option V} {σ : L2.St} {fp : FpS} : Slots K F H κ ρ σ fp → Slots K F H (k :: κ) (none :: ρ) (o :: σ) fp
  | cons {k : Kind} {κ : List Kind} {d : D} {ρ : Env} {v : V} {σ : L2.St} {f g fp : FpS} : OD K F H k v d f → Slots K F H κ ρ σ g → (∀ a, f a → ¬ g a) → (∀ a, f a → fp a) → (∀ a, g a → fp a) → Slots K F H (k :: κ) (some d :: ρ) (some v :: σ) fp
section
variable {K : PySem.W.Frag} {F H F' H' : Hp}
theorem Slots.mono {κ : List Kind} {ρ : Env} {σ : L2.St} {fp fp' : FpS} (h : Slots K F H κ ρ σ fp) (s : ∀ a, fp a → fp' a) : Slots K F H κ ρ σ fp' := by
  induction h generalizing fp' with
  | nil => exact .nil
  | skip _ ih => exact .skip (ih s)
  | cons r t d h1 h2 ih => exact .cons r t d (fun a z => s a (h1 a z)) fun a z => s a (h2 a z)
theorem Slots.frame (eF : Same F F') {κ : List Kind} {ρ : Env} {σ : L2.St} {fp : FpS} (h : Slots K F H κ ρ σ fp) (s : ∀ a o, fp a → H a = some o → H' a = some o) : Slots K F' H' κ ρ σ fp := by
  induction h with
  | nil => exact .nil
  | skip _ ih => exact .skip (ih s)
  | cons r t d h1 h2 ih => exact .cons (r.frame eF fun a o z => s a o (h1 a z)) (ih fun a o z => s a o (h2 a z)) d h1 h2
theorem Slots.lengths {κ : List Kind} {ρ : Env} {σ : L2.St} {fp : FpS} (h : Slots K F H κ ρ σ fp) : κ.length = σ.length ∧ ρ.length = σ.length := by
  induction h with
  | nil => exact ⟨rfl, rfl⟩
  | skip _ ih => simp [ih.1, ih.2]
  | cons _ _ _ _ _ ih => simp [ih.1, ih.2]
theorem Slots.get {κ : List Kind} {ρ : Env} {σ : L2.St} {fp : FpS} (h : Slots K F H κ ρ σ fp) : ∀ {i : Nat} {d : D} {k : Kind}, ρ[i]? = some (some d) → κ[i]? = some k → ∃ v f, σ[i]? = some (some v) ∧ OD K F H k v d f ∧ (∀ a, f a → fp a) := by
  induction h with
  | nil => intro i d k e; simp at e
  | skip _ ih =>
    intro i d k e1 e2
    cases i with
    | zero => simp at e1
    | succ i => exact ih (by simpa using e1) (by simpa using e2)
  | @cons k κ d ρ v σ f g fp r t dj h1 h2 ih =>
    intro i d k e1 e2
    cases i with
    | zero =>
      simp only [List.getElem?_cons_zero, Option.some.injEq] at e1 e2
      subst e1; subst e2
      exact ⟨_, _, rfl, r, h1⟩
    | succ i =>
      obtain ⟨v, f, q1, q2, q3⟩ := ih (i := i) (by simpa using e1) (by simpa using e2)
      exact ⟨v, f, by simpa using q1, q2, fun a z => h2 a (q3 a z)⟩
/-- a slot forgotten -/
theorem Slots.drop {κ : List Kind} {ρ : Env} {σ : L2.St} {fp : FpS} (h : Slots K F H κ ρ σ fp) (i : Nat) : Slots K F H κ (ρ.set i none) σ fp := by
  induction h generalizing i with
  | nil => exact .nil
  | skip t ih =>
    cases i with
    | zero => exact .skip t
    | succ i => exact .skip (ih i)
  | cons r t dj h1 h2 ih =>
    cases i with
    | zero => exact .skip (t.mono h2)
    | succ i => exact .cons r (ih i) dj h1 h2
/-- a slot taken out -/
theorem Slots.out {κ : List Kind} {ρ : Env} {σ : L2.St} {fp : FpS} (h : Slots K F H κ ρ σ fp) : ∀ {i : Nat} {d : D} {k : Kind}, ρ[i]? = some (some d) → κ[i]? = some k →
    ∃ v f g, σ[i]? = some (some v) ∧ OD K F H k v d f ∧ Slots K F H κ (ρ.set i none) σ g ∧ (∀ a, f a → ¬ g a) ∧ (∀ a, f a → fp a) ∧ (∀ a, g a → fp a) := by
  induction h with
  | nil => intro i d k e; simp at e
  | skip _ ih =>
    intro i d k e1 e2
    cases i with
    | zero => simp at e1
    | succ i =>
      obtain ⟨v, f, g, q1, q2, q3, q4, q5, q6⟩ := ih (i := i) (by simpa using e1) (by simpa using e2)
      exact ⟨v, f, g, by simpa using q1, q2, .skip q3, q4, q5, q6⟩
  | @cons k κ d ρ v σ f g fp r t dj h1 h2 ih =>
    intro i d k e1 e2
    cases i with
    | zero =>
      simp only [List.getElem?_cons_zero, Option.some.injEq] at e1 e2
      subst e1; subst e2
      exact ⟨_, _, _, rfl, r, .skip t, dj, h1, h2⟩
    | succ i =>
      obtain ⟨v', f', g', q1, q2, q3, q4, q5, q6⟩ := ih (i := i) (by simpa using e1) (by simpa using e2)
      refine ⟨v', f', fun a => f a ∨ g' a, by simpa using q1, q2, .cons r q3 (fun a z y => dj a z (q6 a y)) (fun a z => .inl z) (fun a z => .inr z), fun a z y => ?_, fun a z => h2 a (q5 a z), fun a z => z.elim (h1 a) fun y => h2 a (q6 a y)⟩
      rcases y with y | y
      · exact dj a y (q5 a z)
      · exact q4 a z y
/-- a slot filled anew -/
theorem Slots.put {κ : List Kind} {ρ : Env} {σ : L2.St} {g : FpS} (h : Slots K F H κ ρ σ g) : ∀ {i : Nat} {d : D} {k : Kind} {v : V} {f : FpS}, i < σ.length → OD K F H k v d f → (∀ a, f a → ¬ g a) →
    Slots K F H (κ.set i k) (ρ.set i (some d)) (σ.set i (some v)) (fun a => f a ∨ g a) := by
  induction h with
  | nil => intro i d k v f hi; simp at hi
  | @skip k0 κ ρ o σ fp t ih =>
    intro i d k v f hi r dj
    cases i with
    | zero => exact .cons r t dj (fun a z => .inl z) fun a z => .inr z
    | succ i => exact .skip (ih (i := i) (by simpa using hi) r dj)
  | @cons k0 κ d0 ρ v0 σ f0 g0 fp r0 t dj0 h1 h2 ih =>
    intro i d k v f hi r dj
    cases i with
    | zero => exact .cons r t (fun a z y => dj a z (h2 a y)) (fun a z => .inl z) fun a z => .inr (h2 a z)
    | succ i =>
      refine .cons r0 (ih (i := i) (by simpa using hi) r fun a z y => dj a z (h2 a y)) (fun a z y => ?_) (fun a z => .inr (h1 a z)) fun a z => z.elim .inl fun y => .inr (h2 a y)
      rcases y with y | y
      · exact dj a y (h1 a z)
      · exact dj0 a z y
/-- a kind changed where the slot is empty -/
theorem Slots.rekind {κ : List Kind} {ρ : Env} {σ : L2.St} {fp : FpS} (h : Slots K F H κ ρ σ fp) : ∀ {i : Nat} (k : Kind), ρ[i]? = some none → Slots K F H (κ.set i k) ρ σ fp := by
  induction h with
  | nil => intro i k e; simp at e
  | skip t ih =>
    intro i k e
    cases i with
    | zero => exact .skip t
    | succ i => exact .skip (ih k (by simpa using e))
  | cons r t dj h1 h2 ih =>
    intro i k e
    cases i with
    | zero => simp at e
    | succ i => exact .cons r (ih k (by simpa using e)) dj h1 h2
end
/-! ### worlds -/
structure Wd where
  F : Hp
  H : Hp
  fp : FpS
structure Rel (K : PySem.W.Frag) (κ : List Kind) (ρ : Env) (σ : L2.St) (w : Wd) : Prop where
  same : Same w.F w.H
  frz : ∀ a, w.fp a → w.F a = none
  live : ∀ a, w.fp a → w.H a ≠ none
  fixed : ∀ (i : Nat) (u : V) (k : Kind), κ[i]? = some (Kind.fix u k) → σ[i]? = some (some u)
  slots : Slots K w.F w.H κ ρ σ w.fp
structure Ext (w w' : Wd) : Prop where
  same : Same w.F w'.F
  new : ∀ a o, w'.F a = some o → w.F a = some o ∨ w.fp a ∨ w.H a = none
  keep : ∀ a o, w.H a = some o → ¬ w.fp a → w'.H a = some o
  fp : ∀ a, w'.fp a → w.fp a ∨ w.H a = none
theorem Ext.refl (w : Wd) : Ext w w := ⟨Same.refl _, fun _ _ h => .inl h, fun _ _ h _ => h, fun _ h => .inl h⟩
theorem Ext.nofp {w w' : Wd} (e : Ext w w') {a : Addr} {o : HO} (h : w.H a = some o) (n : ¬ w.fp a) : ¬ w'.fp a := fun z => by
  rcases e.fp a z with y | y
  · exact n y
  · rw [h] at y; cases y
theorem Ext.trans {w w1 w2 : Wd} (a : Ext w w1) (b : Ext w1 w2) : Ext w w2 where
  same := a.same.trans b.same
  new := fun c o h => by
    have key : w1.fp c ∨ w1.H c = none → w.fp c ∨ w.H c = none := fun z => by
      rcases z with z | z
      · exact a.fp c z
      · cases q : w.H c with
        | none => exact .inr rfl
        | some o1 =>
          by_cases y : w.fp c
          · exact .inl y
          · rw [a.keep c o1 q y] at z; cases z
    rcases b.new c o h with z | z
    · rcases a.new c o z with y | y
      · exact .inl y
      · exact .inr y
    · exact .inr (key z)
  keep := fun c o h n => b.keep c o (a.keep c o h n) (a.nofp h n)
  fp := fun c h => by
    rcases b.fp c h with z | z
    · exact a.fp c z
    · cases q : w.H c with
      | none => exact .inr rfl
      | some o1 =>
        by_cases y : w.fp c
        · exact .inl y
        · rw [a.keep c o1 q y] at z; cases z
/-- a value of kind k that has come since w, in no slot -/
def Temp (K : PySem.W.Frag) (k : Kind) (w w' : Wd) (d : D) (v : V) : Prop :=
  ∃ g : FpS, OD K w'.F w'.H k v d g ∧ ∀ a, g a → ¬ w'.fp a ∧ w'.F a = none ∧ w'.H a ≠ none ∧ (w.fp a ∨ w.H a = none)
section
variable {K : PySem.W.Frag} {w w1 w2 : Wd} {k : Kind} {d : D} {v : V}
theorem temp_keep {g : FpS} (e : Ext w1 w2) (h : OD K w1.F w1.H k v d g) (c : ∀ a, g a → ¬ w1.fp a ∧ w1.F a = none ∧ w1.H a ≠ none) : OD K w2.F w2.H k v d g ∧ ∀ a, g a → ¬ w2.fp a ∧ w2.F a = none ∧ w2.H a ≠ none := by
  refine ⟨h.frame e.same fun a o z q => e.keep a o q (c a z).1, fun a z => ?_⟩
  obtain ⟨c1, c2, c3⟩ := c a z
  cases q : w1.H a with
  | none => exact absurd q c3
  | some o =>
    refine ⟨e.nofp q c1, ?_, by rw [e.keep a o q c1]; intro y; cases y⟩
    cases y : w2.F a with
    | none => rfl
    | some u =>
      rcases e.new a u y with y | y | y
      · rw [c2] at y; cases y
      · exact absurd y c1
      · rw [q] at y; cases y
theorem Temp.keep (t : Temp K k w w1 d v) (e : Ext w1 w2) : Temp K k w w2 d v := by
  obtain ⟨g, h, c⟩ := t
  obtain ⟨h', c'⟩ := temp_keep e h fun a z => ⟨(c a z).1, (c a z).2.1, (c a z).2.2.1⟩
  exact ⟨g, h', fun a z => ⟨(c' a z).1, (c' a z).2.1, (c' a z).2.2, (c a z).2.2.2⟩⟩
theorem Temp.since (t : Temp K k w1 w2 d v) (e : Ext w w1) : Temp K k w w2 d v := by
  obtain ⟨g, h, c⟩ := t
  refine ⟨g, h, fun a z => ?_⟩
  obtain ⟨c1, c2, c3, c4⟩ := c a z
  refine ⟨c1, c2, c3, ?_⟩
  rcases c4 with y | y
  · exact e.fp a y
  · cases q : w.H a with
    | none => exact .inr rfl
    | some o =>
      by_cases n : w.fp a
      · exact .inl n
      · rw [e.keep a o q n] at y; cases y
theorem Temp.imm {b : Bool} (h : RD b K w1.F v d) : Temp K (.v b) w w1 d v := ⟨fun _ => False, h, fun _ z => z.elim⟩
theorem Temp.rd {b : Bool} (t : Temp K (.v b) w w1 d v) : RD b K w1.F v d := t.elim fun _ h => h.1
theorem Temp.dp (hk : dk k = true) (t : Temp K k w w1 d v) (e : Same w1.F w1.H) : Dp K w1.H v d := t.elim fun _ h => OD.dp e hk h.1
end
end FN
set_option Elab.async false
set_option linter.all false
set_option maxRecDepth 100000
set_option maxHeartbeats 4000000
/-! FN2: outcomes, expressions, arguments, tests. -/
namespace FN
open PySem PySem.Spec PyProof.Rows L2
inductive Out (α : Type) where
  | ok (a : α) (ρ : Env)
  | err (c : Str) (d : D) (ρ : Env)
abbrev M (α : Type) := Env → Option (Out α)
structure Ct where
  K : PySem.W.Frag
  mg : Str → Option Value
  W : WX
def ErrAt (c : Ct) (n : Str) (d : D) (cls : Value) (dx : Addr) (w : Wd) : Prop :=
  ∃ (C : Addr) (v : V), c.mg n = some (.ref C) ∧ cls = .ref C ∧ w.F dx = some (.xd [(("value" : Str), v)]) ∧ RD true c.K w.F v d
def ErrOk (c : Ct) (κ : List Kind) (σ : L2.St) (w : Wd) (n : Str) (d : D) (ρ : Env) : Prop :=
  ∀ cls dx w', Rel c.K κ ρ σ w' → Ext w w' → ErrAt c n d cls dx w' → c.W cls (some dx) σ w'.H
inductive Md where
  /-- a value of kind k -/
  | t (k : Kind)
  /-- the object in slot i -/
  | r (i : Nat)
def TempM (K : PySem.W.Frag) (m : Md) (σ : L2.St) (w w' : Wd) (d : D) (v : V) : Prop := match m with
  | .t k => Temp K k w w' d v
  | .r i => σ[i]? = some (some v)
def PostV (c : Ct) (κ : List Kind) (σ : L2.St) (m : Md) (w : Wd) (Q : VK) : Option (Out D) → Prop
  | some (.ok d ρ) => ∀ v w', Rel c.K κ ρ σ w' → Ext w w' → TempM c.K m σ w w' d v → Q v w'.H
  | some (.err n d ρ) => ErrOk c κ σ w n d ρ
  | none => False
def tV (c : Ct) (κ : List Kind) (m : Md) (f : M D) : TE := fun σ H Q => ∃ ρ w, w.H = H ∧ Rel c.K κ ρ σ w ∧ PostV c κ σ m w Q (f ρ)
abbrev ctx (X : Cx) (W : WX) : Ct := ⟨X.K, X.mg, W⟩
def FV (X : Cx) (W : WX) (κ : List Kind) (m : Md) (e : Expr) (f : M D) : Prop := PE X e (tV (ctx X W) κ m f)
/-- a reading weakened -/
theorem _root_.L2.PE.imp {X : Cx} {e : Expr} {t t' : TE} (h : PE X e t) (i : ∀ σ H Q, t' σ H Q → t σ H Q) : PE X e t' := ⟨fun pins s σ H Q I q => h.run pins s σ H Q I (i σ H Q q)⟩
theorem _root_.L2.PT.imp {X : Cx} {e : Expr} {t t' : TT} (h : PT X e t) (i : ∀ σ H Q, t' σ H Q → t σ H Q) : PT X e t' := ⟨fun pins s σ H Q I q => h.run pins s σ H Q I (i σ H Q q)⟩
theorem _root_.L2.PA.imp {X : Cx} {e : List Expr} {t t' : TA} (h : PA X e t) (i : ∀ σ H Q, t' σ H Q → t σ H Q) : PA X e t' := ⟨fun pos pins s σ H Q I q => h.run pos pins s σ H Q I (i σ H Q q)⟩
theorem _root_.L2.PS.imp {X : Cx} {e : Stmt} {t t' : TS} (h : PS X e t) (i : ∀ D σ H, t' D σ H → t D σ H) : PS X e t' := ⟨fun pins s σ H Q I q => h.run pins s σ H Q I (i Q σ H q)⟩
theorem _root_.L2.PSs.imp {X : Cx} {e : List Stmt} {t t' : TS} (h : PSs X e t) (i : ∀ D σ H, t' D σ H → t D σ H) : PSs X e t' := ⟨fun pins s σ H Q I q => h.run pins s σ H Q I (i Q σ H q)⟩
/-- one after another; e: how an error is handed on -/
def bnd {α β : Type} (r : Option (Out α)) (e : Str → D → Env → β) (g : α → Env → Option β) : Option β := match r with
  | some (.ok a ρ) => g a ρ
  | some (.err c d ρ) => some (e c d ρ)
  | none => none
abbrev bdo {α β : Type} (r : Option (Out α)) (g : α → Env → Option (Out β)) : Option (Out β) := bnd r Out.err g
section
variable {c : Ct} {κ : List Kind} {σ : L2.St} {w w1 : Wd}
theorem seqV {β : Type} {m : Md} {fa : M D} {ρ : Env} {P : Option β → Prop} {e : Str → D → Env → β} {g : D → Env → Option β} {R : VK} (rel : Rel c.K κ ρ σ w1) (h : P (bnd (fa ρ) e g)) (hN : ¬ P none) (hE : ∀ n d ρ', P (some (e n d ρ')) → ErrOk c κ σ w1 n d ρ')
    (hR : ∀ d ρ2 v w2, Rel c.K κ ρ2 σ w2 → Ext w1 w2 → TempM c.K m σ w1 w2 d v → P (g d ρ2) → R v w2.H) : tV c κ m fa σ w1.H R := by
  refine ⟨ρ, w1, rfl, rel, ?_⟩
  cases q : fa ρ with
  | none =>
    rw [q] at h
    exact hN h
  | some o =>
    rw [q] at h
    cases o with
    | ok d ρ2 => exact fun v w2 r2 e2 t2 => hR d ρ2 v w2 r2 e2 t2 h
    | err n d ρ2 => exact hE n d ρ2 h
theorem ErrOk.since {n : Str} {d : D} {ρ : Env} (h : ErrOk c κ σ w n d ρ) (e : Ext w w1) : ErrOk c κ σ w1 n d ρ := fun cls dx w' r x a => h cls dx w' r (e.trans x) a
theorem PostV.N {m : Md} {Q : VK} : ¬ PostV c κ σ m w Q none := fun h => h
theorem TempM.since {m : Md} {w2 : Wd} {d : D} {v : V} (t : TempM c.K m σ w1 w2 d v) (e : Ext w w1) : TempM c.K m σ w w2 d v := by
  cases m with
  | t k => exact Temp.since t e
  | r i => exact t
theorem TempM.keep {m : Md} {w2 : Wd} {d : D} {v : V} (t : TempM c.K m σ w w1 d v) (e : Ext w1 w2) : TempM c.K m σ w w2 d v := by
  cases m with
  | t k => exact Temp.keep t e
  | r i => exact t
/-- the data of an operand, read behind all that was evaluated -/
def rd (m : Md) (d : D) (ρ : Env) : Option D := match m with
  | .t k => match dk k with
    | true => some d
    | false => none
  | .r i => match ρ[i]? with
    | some (some (.dict _)) => none
    | some (some d) => some d
    | _ => none
theorem rd_r {i : Nat} {d d' : D} {ρ : Env} (h : rd (.r i) d ρ = some d') : ρ[i]? = some (some d') ∧ ∀ ps, d' ≠ .dict ps := by
  unfold rd at h
  dsimp only at h
  split at h
  · cases h
  · rename_i d2 hn e
    cases h
    exact ⟨e, fun ps z => hn ps z⟩
  · cases h
theorem rd_t {k : Kind} {d d' : D} {ρ : Env} (h : rd (.t k) d ρ = some d') : d' = d ∧ dk k = true := by
  unfold rd at h
  dsimp only at h
  split at h
  · rename_i e
    cases h
    exact ⟨rfl, e⟩
  · cases h
theorem join_some {α : Type} {o : Option (Option α)} {a : α} (h : o.join = some a) : o = some (some a) := by
  cases o with
  | none => cases h
  | some o => exact congrArg some h
theorem kind_at {K : PySem.W.Frag} {κ : List Kind} {ρ : Env} {σ : L2.St} {w : Wd} {i : Nat} {d : D} (rel : Rel K κ ρ σ w) (h : ρ[i]? = some (some d)) : ∃ k, κ[i]? = some k := by
  have l := rel.slots.lengths
  have hi : i < ρ.length := (List.getElem?_eq_some_iff.mp h).1
  exact ⟨κ[i]'(by omega), List.getElem?_eq_getElem _⟩
theorem rd_dp {m : Md} {ρ : Env} {d d' : D} {v : V} (rel : Rel c.K κ ρ σ w1) (t : TempM c.K m σ w w1 d v) (h : rd m d ρ = some d') : Dp c.K w1.H v d' := by
  cases m with
  | t k =>
    obtain ⟨rfl, hk⟩ := rd_t h
    exact Temp.dp hk t rel.same
  | r i =>
    obtain ⟨h', hn⟩ := rd_r h
    obtain ⟨k, hk⟩ := kind_at rel h'
    obtain ⟨v', f, e, o, _⟩ := rel.slots.get h' hk
    rw [show σ[i]? = some (some v) from t] at e
    cases e
    exact OD.dpn rel.same hn o
/-- an immediate datum -/
theorem rd_imm {b : Bool} {ρ : Env} {d d' : D} {v : V} (t : TempM c.K (.t (.v b)) σ w w1 d v) (h : rd (.t (.v b)) d ρ = some d') : RD b c.K w1.F v d' := by
  cases h
  exact Temp.rd t
end
/-! ### what a value-level step ends with -/
section
variable {c : Ct} {κ : List Kind} {σ : L2.St} {w w1 : Wd} {ρ : Env} {d : D} {Q : VK}
theorem fin_imm {b : Bool} {v : V} (h : PostV c κ σ (.t (.v b)) w Q (some (.ok d ρ))) (rel : Rel c.K κ ρ σ w1) (e : Ext w w1) (r : RD b c.K w1.F v d) : Q v w1.H := h v w1 rel e (Temp.imm r)
/-- a new frozen object -/
theorem world_new {K : PySem.W.Frag} {p : Addr} {o : HO} (rel : Rel K κ ρ σ w) (np : w.H p = none) : ∃ w', w'.H = upd w.H p o ∧ w'.F = upd w.F p o ∧ Rel K κ ρ σ w' ∧ Ext w w' := by
  have nF : w.F p = none := rel.same.free np
  have sF : Same w.F (upd w.F p o) := fun b u h => by rw [upd_ne (ne_of_none h nF)]; exact h
  have sH : Same w.H (upd w.H p o) := fun b u h => by rw [upd_ne (ne_of_none h np)]; exact h
  have ne : ∀ a, w.fp a → a ≠ p := fun a h z => rel.live a h (by rw [z]; exact np)
  refine ⟨⟨upd w.F p o, upd w.H p o, w.fp⟩, rfl, rfl, ⟨fun b u h => ?_, fun a h => ?_, fun a h => ?_, rel.fixed, rel.slots.frame sF fun a u _ h => sH a u h⟩, ⟨sF, fun a u h => ?_, fun a u h _ => sH a u h, fun a h => .inl h⟩⟩
  · have h' : upd w.F p o b = some u := h
    show upd w.H p o b = some u
    by_cases hb : b = p
    · rw [hb, upd_same] at h'
      rw [hb, upd_same]
      exact h'
    · rw [upd_ne hb] at h'
      rw [upd_ne hb]
      exact rel.same b u h'
  · show upd w.F p o a = none
    rw [upd_ne (ne a h)]
    exact rel.frz a h
  · show upd w.H p o a ≠ none
    rw [upd_ne (ne a h)]
    exact rel.live a h
  · by_cases hb : a = p
    · exact .inr (.inr (by rw [hb]; exact np))
    · have h' : upd w.F p o a = some u := h
      rw [upd_ne hb] at h'
      exact .inl h'
/-- a new object beside -/
theorem world_own {K : PySem.W.Frag} {p : Addr} {o : HO} (rel : Rel K κ ρ σ w) (np : w.H p = none) : ∃ w', w'.H = upd w.H p o ∧ w'.F = w.F ∧ w'.fp = w.fp ∧ Rel K κ ρ σ w' ∧ Ext w w' := by
  have sH : Same w.H (upd w.H p o) := fun b u h => by rw [upd_ne (ne_of_none h np)]; exact h
  have ne : ∀ a, w.fp a → a ≠ p := fun a h z => rel.live a h (by rw [z]; exact np)
  refine ⟨⟨w.F, upd w.H p o, w.fp⟩, rfl, rfl, rfl, ⟨rel.same.trans sH, rel.frz, fun a h => ?_, rel.fixed, rel.slots.frame (Same.refl _) fun a u _ h => sH a u h⟩, ⟨Same.refl _, fun a u h => .inl h, fun a u h _ => sH a u h, fun a h => .inl h⟩⟩
  show upd w.H p o a ≠ none
  rw [upd_ne (ne a h)]
  exact rel.live a h
theorem fin_tup {b : Bool} {p : Addr} {xs : List V} {ds : List D} (h : PostV c κ σ (.t (.v b)) w Q (some (.ok (.tuple ds) ρ))) (rel : Rel c.K κ ρ σ w1) (e : Ext w w1) (r : RDs b c.K w1.F xs ds) (np : w1.H p = none) : Q (.ref p) (upd w1.H p (.tup xs)) := by
  obtain ⟨w2, eH, eF, rel2, e2⟩ := world_new (o := .tup xs) rel np
  rw [← eH]
  exact h _ w2 rel2 (e.trans e2) (Temp.imm (.tup (by rw [eF, upd_same]) (r.mono e2.same)))
/-- a new list, frozen at once, or owned -/
def newL (b : Bool) : Kind → Prop
  | .v c => c = b
  | .lst (.v c) => c = b
  | _ => False
theorem odl_imm {b : Bool} {K : PySem.W.Frag} {F H : Hp} {fp : FpS} : ∀ {xs : List V} {ds : List D}, RDs b K F xs ds → ODl (fun v d f => dk (.v b) = true ∧ OD K F H (.v b) v d f) xs ds fp
  | _, _, .nil => .nil
  | _, _, .cons h t => .cons (f := fun _ => False) (g := fun _ => False) ⟨rfl, h⟩ (odl_imm t) (fun _ z => z.elim) (fun _ z => z.elim) fun _ z => z.elim
theorem fin_lst {b : Bool} {k : Kind} {p : Addr} {xs : List V} {ds : List D} (hk : newL b k) (h : PostV c κ σ (.t k) w Q (some (.ok (.list ds) ρ))) (rel : Rel c.K κ ρ σ w1) (e : Ext w w1) (r : RDs b c.K w1.F xs ds) (np : w1.H p = none) : Q (.ref p) (upd w1.H p (.lst xs)) := by
  cases k with
  | v c =>
    cases hk
    obtain ⟨w2, eH, eF, rel2, e2⟩ := world_new (o := .lst xs) rel np
    rw [← eH]
    exact h _ w2 rel2 (e.trans e2) (Temp.imm (.lst (by rw [eF, upd_same]) (r.mono e2.same)))
  | lst k =>
    cases k with
    | v c =>
      cases hk
      obtain ⟨w2, eH, eF, ef, rel2, e2⟩ := world_own (o := .lst xs) rel np
      rw [← eH]
      refine h _ w2 rel2 (e.trans e2) ⟨fun a => a = p, ⟨p, xs, ds, fun _ => False, rfl, rfl, by rw [eH, upd_same], rfl, fun z => z, fun _ z => z.elim, odl_imm (by rw [eF]; exact r)⟩, fun a ha => ?_⟩
      have ha' : a = p := ha
      rw [ha']
      refine ⟨fun z => ?_, ?_, ?_, ?_⟩
      · rw [ef] at z
        exact rel.live _ z np
      · rw [eF]
        exact rel.same.free np
      · rw [eH, upd_same]
        intro z; cases z
      · cases q : w.H p with
        | none => exact .inr rfl
        | some o =>
          by_cases y : w.fp p
          · exact .inl y
          · rw [e.keep p o q y] at np; cases np
    | lst _ => exact hk.elim
    | _ => exact hk.elim
  | _ => exact hk.elim
end
/-! ### names, constants -/
section
variable {X : Cx} {W : WX} {κ : List Kind} {pos : Pos}
def fVar (i : Nat) : M D := fun ρ => match ρ[i]? with
  | some (some d) => some (.ok d ρ)
  | _ => none
theorem ev_var {c : Ct} {b : Bool} {i : Nat} {σ : L2.St} {H : Hp} {Q : VK} (hk : κ[i]? = some (.v b)) (h : tV c κ (.t (.v b)) (fVar i) σ H Q) : tVar i σ H Q := by
  obtain ⟨ρ, w, rfl, rel, post⟩ := h
  unfold fVar at post
  split at post
  · rename_i d e
    obtain ⟨v, f, e1, o, _⟩ := rel.slots.get e hk
    exact ⟨v, e1, fin_imm post rel (Ext.refl _) o⟩
  · exact post.elim
/-- a name that holds an immediate datum -/
theorem fe_var {b : Bool} (i : Nat) {x : Str} (hk : κ[i]? = some (.v b) := by rfl) (hN : X.N[i]? = some x := by rfl) (hv : Vis X.env.scope x := by first | exact Or.inl rfl | exact Or.inr (Or.inl rfl) | exact Or.inr (Or.inr rfl)) (hd : (x == ("__debug__" : Str)) = false := by decide)
    (hcd : (x == ("__classdict__" : Str)) = false := by decide) : FV X W κ (.t (.v b)) (.Name x pos) (fVar i) := (pe_var hN hv hd hcd).imp fun _ _ _ h => ev_var hk h
/-- a name, as the object that it holds -/
def fRef (i : Nat) : M D := fun ρ => match ρ[i]? with
  | some (some _) => some (.ok .none ρ)
  | _ => none
theorem fe_ref (i : Nat) {x : Str} (hN : X.N[i]? = some x := by rfl) (hv : Vis X.env.scope x := by first | exact Or.inl rfl | exact Or.inr (Or.inl rfl) | exact Or.inr (Or.inr rfl)) (hd : (x == ("__debug__" : Str)) = false := by decide)
    (hcd : (x == ("__classdict__" : Str)) = false := by decide) : FV X W κ (.r i) (.Name x pos) (fRef i) := (pe_var hN hv hd hcd).imp fun σ H Q h => by
  obtain ⟨ρ, w, rfl, rel, post⟩ := h
  unfold fRef at post
  split at post
  · rename_i d e
    obtain ⟨k, hk⟩ := kind_at rel e
    obtain ⟨v, f, e1, o, _⟩ := rel.slots.get e hk
    exact ⟨v, e1, post v w rel (Ext.refl _) e1⟩
  · exact post.elim
def fC (d : D) : M D := fun ρ => some (.ok d ρ)
theorem ev_con {b : Bool} {c : Ct} {v : V} {d : D} {σ : L2.St} {H : Hp} {Q : VK} (r : ∀ F, RD b c.K F v d) (h : tV c κ (.t (.v b)) (fC d) σ H Q) : Q v H := by
  obtain ⟨ρ, w, rfl, rel, post⟩ := h
  exact fin_imm post rel (Ext.refl _) (r _)
theorem fe_int {b : Bool} {i j} : FV X W κ (.t (.v b)) (.Constant (.int i) j pos) (fC (.int i)) := pe_int.imp fun _ _ _ h => ev_con (fun _ => .int i) h
theorem fe_bl {b : Bool} {c j} : FV X W κ (.t (.v b)) (.Constant (.bool c) j pos) (fC (.bool c)) := pe_bl.imp fun _ _ _ h => ev_con (fun _ => .bl c) h
theorem fe_non {b : Bool} {j} : FV X W κ (.t (.v b)) (.Constant .none j pos) (fC .none) := pe_non.imp fun _ _ _ h => ev_con (fun _ => .non) h
theorem fe_str {b : Bool} {x j} : FV X W κ (.t (.v b)) (.Constant (.str x) j pos) (fC (.str x)) := pe_str.imp fun _ _ _ h => ev_con (fun _ => .str x) h
/-- a module's constant that is no object -/
theorem fe_glob {b : Bool} {x : Str} {v : V} {d : D} {u : Value} (hg : Gl X x) (hm : X.mg x = some u) (r : RelV v u) (q : ∀ F, RD b X.K F v d) (hd : (x == ("__debug__" : Str)) = false := by decide) : FV X W κ (.t (.v b)) (.Name x pos) (fC d) :=
  (pe_glob hg hm r hd).imp fun _ _ _ h => ev_con q h
end
/-! ### operators on two data -/
section
variable {X : Cx} {W : WX} {κ : List Kind} {pos : Pos} {a b : Expr} {fa fb : M D} {ma mb : Md}
/-- two operands, then op of their data -/
def f2 (ma mb : Md) (op : D → D → Option D) (fa fb : M D) : M D := fun ρ => bdo (fa ρ) fun x ρ1 => bdo (fb ρ1) fun y ρ2 => match rd ma x ρ2, rd mb y ρ2 with
  | some x, some y => (op x y).map fun z => .ok z ρ2
  | _, _ => none
/-- a value-level rule whose answer is an immediate datum that leans on no heap -/
def Sc (K : PySem.W.Frag) (r : R2) (op : D → D → Option D) : Prop := ∀ x y dx dy z (H : Hp) (Q : VK), Dp K H x dx → Dp K H y dy → op dx dy = some z → (∀ v, (∀ b F, RD b K F v z) → Q v H) → r x y H Q
theorem ev_2 {c : Ct} {k : Kind} {op : D → D → Option D} {r : R2} {σ : L2.St} {H : Hp} {Q : VK}
    (hr : ∀ ρ w w2 x y dx dy vx vy z, Rel c.K κ ρ σ w2 → Ext w w2 → TempM c.K ma σ w w2 dx vx → TempM c.K mb σ w w2 dy vy → rd ma dx ρ = some x → rd mb dy ρ = some y → op x y = some z → PostV c κ σ (.t k) w Q (some (.ok z ρ)) → r vx vy w2.H Q)
    (h : tV c κ (.t k) (f2 ma mb op fa fb) σ H Q) : tOp r (tV c κ ma fa) (tV c κ mb fb) σ H Q := by
  obtain ⟨ρ, w, rfl, rel, post⟩ := h
  refine seqV (P := PostV c κ σ (.t k) w Q) rel post (fun z => z) (fun n d ρ' z => z) fun dx ρ1 vx w1 rel1 e1 t1 post1 => ?_
  refine seqV (P := PostV c κ σ (.t k) w Q) rel1 post1 (fun z => z) (fun n d ρ' z => z.since e1) fun dy ρ2 vy w2 rel2 e2 t2 post2 => ?_
  split at post2
  · rename_i x y ex ey
    cases ez : op x y with
    | none =>
      rw [ez] at post2
      exact post2.elim
    | some z =>
      rw [ez] at post2
      exact hr ρ2 w w2 x y dx dy vx vy z rel2 (e1.trans e2) (t1.keep e2) (t2.since e1) ex ey ez post2
  · exact post2.elim
theorem fe_op {bb : Bool} {op : Operator} {r : R2} {o : D → D → Option D} (ho : OpR X (binaryOp op) r) (hs : Sc X.K r o) (ha : FV X W κ ma a fa) (hb : FV X W κ mb b fb) : FV X W κ (.t (.v bb)) (.BinOp a op b pos) (f2 ma mb o fa fb) :=
  (pe_op ho ha hb).imp fun _ _ _ h => ev_2 (fun _ _ _ _ _ _ _ _ _ _ rel e t1 t2 e1 e2 ez post => hs _ _ _ _ _ _ _ (rd_dp rel t1 e1) (rd_dp rel t2 e2) ez fun v q => fin_imm post rel e (q _ _)) h
theorem fe_cmp {bb : Bool} {op : CmpOp} {r : R2} {o : D → D → Option D} (ho : OpR X (compareOp op) r) (hs : Sc X.K r o) (ha : FV X W κ ma a fa) (hb : FV X W κ mb b fb) (hm : behindInMarks op b = false) : FV X W κ (.t (.v bb)) (.Compare a [op] [b] pos) (f2 ma mb o fa fb) :=
  (pe_cmpR ho ha hb hm).imp fun _ _ _ h => ev_2 (fun _ _ _ _ _ _ _ _ _ _ rel e t1 t2 e1 e2 ez post => hs _ _ _ _ _ _ _ (rd_dp rel t1 e1) (rd_dp rel t2 e2) ez fun v q => fin_imm post rel e (q _ _)) h
end
/-! ### the operators -/
section
variable {K : PySem.W.Frag}
theorem dp_int {H : Hp} {x : V} {i : Int} (h : Dp K H x (.int i)) : x = .int i := by cases h; rfl
theorem dp_str {H : Hp} {x : V} {i : Str} (h : Dp K H x (.str i)) : x = .str i := by cases h; rfl
theorem dp_bl {H : Hp} {x : V} {i : Bool} (h : Dp K H x (.bool i)) : x = .bl i := by cases h; rfl
/-- of two ints -/
def oI (p : Int → Int → Bool) (g : Int → Int → D) : D → D → Option D
  | .int i, .int j => if p i j then some (g i j) else none
  | _, _ => none
theorem sc_I {C : Int → Int → Prop} {p : Int → Int → Bool} {g : Int → Int → V} {gd : Int → Int → D} (hp : ∀ i j, p i j = true → C i j) (hg : ∀ i j b F, RD b K F (g i j) (gd i j)) : Sc K (rI C g) (oI p gd) := by
  intro x y dx dy z H Q hx hy ho q
  unfold oI at ho
  split at ho
  · rename_i i j
    split at ho
    · rename_i c
      cases ho
      exact ⟨i, j, dp_int hx, dp_int hy, hp i j c, q _ (hg i j)⟩
    · cases ho
  · cases ho
theorem sc_I0 {g : Int → Int → V} {gd : Int → Int → D} (hg : ∀ i j b F, RD b K F (g i j) (gd i j)) : Sc K (rI0 g) (oI (fun _ _ => true) gd) := by
  intro x y dx dy z H Q hx hy ho q
  unfold oI at ho
  split at ho
  · rename_i i j
    cases ho
    exact ⟨i, j, dp_int hx, dp_int hy, q _ (hg i j)⟩
  · cases ho
def bMul (i j : Int) : Bool := decide ((-(2 ^ 64) < i ∧ i < 2 ^ 64) ∨ (-(2 ^ 64) < j ∧ j < 2 ^ 64))
def dSub : D → D → Option D := oI (fun _ _ => true) fun i j => .int (i - j)
def dMod : D → D → Option D := oI (fun _ j => decide (0 < j)) fun i j => .int (i % j)
def dPow : D → D → Option D := oI (fun i j => decide (0 ≤ j ∧ j ≤ 1000000 ∧ i.natAbs < 2 ^ 64)) fun i j => .int (i ^ j.toNat)
def dLt : D → D → Option D := oI (fun _ _ => true) fun i j => .bool (decide (i < j))
def dLe : D → D → Option D := oI (fun _ _ => true) fun i j => .bool (decide (i ≤ j))
def dGt : D → D → Option D := oI (fun _ _ => true) fun i j => .bool (decide (j < i))
def dGe : D → D → Option D := oI (fun _ _ => true) fun i j => .bool (decide (j ≤ i))
theorem s_sub : Sc K (rI0 fun i j => .int (i - j)) dSub := sc_I0 fun i j b F => .int _
theorem s_mod : Sc K (rI (fun _ j => 0 < j) fun i j => .int (i % j)) dMod := sc_I (fun i j h => of_decide_eq_true h) fun i j b F => .int _
theorem s_pow : Sc K (rI CPow fun i j => .int (i ^ j.toNat)) dPow := sc_I (fun i j h => (of_decide_eq_true h : 0 ≤ j ∧ j ≤ 1000000 ∧ i.natAbs < 2 ^ 64)) fun i j b F => .int _
theorem s_lt : Sc K (rI0 fun i j => .bl (decide (i < j))) dLt := sc_I0 fun i j b F => .bl _
theorem s_le : Sc K (rI0 fun i j => .bl (decide (i ≤ j))) dLe := sc_I0 fun i j b F => .bl _
theorem s_gt : Sc K (rI0 fun i j => .bl (decide (j < i))) dGt := sc_I0 fun i j b F => .bl _
theorem s_ge : Sc K (rI0 fun i j => .bl (decide (j ≤ i))) dGe := sc_I0 fun i j b F => .bl _
def dEq (x y : D) : Option D := if SeqAt.shaped x && SeqAt.shaped y then some (.bool (PyData.eqv x y)) else none
def dNe (x y : D) : Option D := if SeqAt.shaped x && SeqAt.shaped y then some (.bool (!PyData.eqv x y)) else none
theorem s_eq : Sc K (rEqD K) dEq := by
  intro x y dx dy z H Q hx hy ho q
  unfold dEq at ho
  split at ho
  · rename_i c
    cases ho
    rw [Bool.and_eq_true] at c
    exact ⟨dx, dy, hx, hy, c.1, c.2, q _ fun b F => .bl _⟩
  · cases ho
theorem s_ne : Sc K (rNeD K) dNe := by
  intro x y dx dy z H Q hx hy ho q
  unfold dNe at ho
  split at ho
  · rename_i c
    cases ho
    rw [Bool.and_eq_true] at c
    exact ⟨dx, dy, hx, hy, c.1, c.2, q _ fun b F => .bl _⟩
  · cases ho
end
end FN
set_option Elab.async false
set_option linter.all false
set_option maxRecDepth 100000
set_option maxHeartbeats 4000000
/-! FN3: tests, and, or, not, displays, arguments, subscripts, slices. -/
namespace FN
open PySem PySem.Spec PyProof.Rows L2
/-! ### tests -/
def PostT (c : Ct) (κ : List Kind) (σ : L2.St) (w : Wd) (Q : Bool → Hp → Prop) : Option (Out Bool) → Prop
  | some (.ok b ρ) => ∀ w', Rel c.K κ ρ σ w' → Ext w w' → Q b w'.H
  | some (.err n d ρ) => ErrOk c κ σ w n d ρ
  | none => False
def tT (c : Ct) (κ : List Kind) (f : M Bool) : TT := fun σ H Q => ∃ ρ w, w.H = H ∧ Rel c.K κ ρ σ w ∧ PostT c κ σ w Q (f ρ)
def FT (X : Cx) (W : WX) (κ : List Kind) (e : Expr) (f : M Bool) : Prop := PT X e (tT (ctx X W) κ f)
def FW (X : Cx) (W : WX) (κ : List Kind) (e : Expr) (f : M Bool) : Prop := PW X e (tT (ctx X W) κ f)
theorem _root_.L2.PW.imp {X : Cx} {e : Expr} {t t' : TT} (h : PW X e t) (i : ∀ σ H Q, t' σ H Q → t σ H Q) : PW X e t' := ⟨fun wh pins s σ H Q I q => h.run wh pins s σ H Q I (i σ H Q q)⟩
section
variable {c : Ct} {κ : List Kind} {σ : L2.St} {w w1 : Wd}
theorem seqT {β : Type} {fa : M Bool} {ρ : Env} {P : Option β → Prop} {e : Str → D → Env → β} {g : Bool → Env → Option β} {R : Bool → Hp → Prop} (rel : Rel c.K κ ρ σ w1) (h : P (bnd (fa ρ) e g)) (hN : ¬ P none) (hE : ∀ n d ρ', P (some (e n d ρ')) → ErrOk c κ σ w1 n d ρ')
    (hR : ∀ b ρ2 w2, Rel c.K κ ρ2 σ w2 → Ext w1 w2 → P (g b ρ2) → R b w2.H) : tT c κ fa σ w1.H R := by
  refine ⟨ρ, w1, rfl, rel, ?_⟩
  cases q : fa ρ with
  | none =>
    rw [q] at h
    exact hN h
  | some o =>
    rw [q] at h
    cases o with
    | ok d ρ2 => exact fun w2 r2 e2 => hR d ρ2 w2 r2 e2 h
    | err n d ρ2 => exact hE n d ρ2 h
theorem PostV.since {m : Md} {Q : VK} {r : Option (Out D)} (h : PostV c κ σ m w Q r) (e : Ext w w1) : PostV c κ σ m w1 Q r := by
  cases r with
  | none => exact h
  | some o =>
    cases o with
    | ok d ρ => exact fun v w' r x t => h v w' r (e.trans x) (t.since e)
    | err n d ρ => exact ErrOk.since h e
theorem PostT.since {Q : Bool → Hp → Prop} {r : Option (Out Bool)} (h : PostT c κ σ w Q r) (e : Ext w w1) : PostT c κ σ w1 Q r := by
  cases r with
  | none => exact h
  | some o =>
    cases o with
    | ok d ρ => exact fun w' r x => h w' r (e.trans x)
    | err n d ρ => exact ErrOk.since h e
/-- truth of data -/
def truD : D → Option Bool
  | .none => some false
  | .bool b => some b
  | .int i => some (i != 0)
  | .str x => if x.length ≤ sizeLine then some ((x.length : Int) != 0) else none
  | .list xs => some !xs.isEmpty
  | .tuple xs => some !xs.isEmpty
  | .dict _ => none
theorem truD_ok {K : PySem.W.Frag} {H : Hp} {v : V} {d : D} {k : Bool} (h : Dp K H v d) (e : truD d = some k) : TruV K v H k := by
  cases h with
  | non => cases e; rfl
  | bl b => cases e; rfl
  | int i => cases e; rfl
  | str x =>
    have e' : (if x.length ≤ sizeLine then some ((x.length : Int) != 0) else none) = some k := e
    split at e'
    · rename_i hl
      cases e'
      exact ⟨hl, rfl⟩
    · cases e'
  | lst h t =>
    cases e
    refine .inl ⟨_, h, ?_⟩
    cases t <;> rfl
  | tup h t =>
    cases e
    refine .inr (.inl ⟨_, h, ?_⟩)
    cases t <;> rfl
def fTru (m : Md) (fa : M D) : M Bool := fun ρ => bdo (fa ρ) fun x ρ1 => match rd m x ρ1 with
  | some x => (truD x).map fun b => .ok b ρ1
  | none => none
end
section
variable {X : Cx} {W : WX} {κ : List Kind} {pos : Pos} {a b e : Expr} {fa fb : M D} {ma mb : Md} {ta tb : M Bool}
theorem ft_tru (ha : FV X W κ ma a fa) (he : ∀ whole, isTrue a X.env whole = (do let v ← whole; standAt a.pos; holding [v] (truthy v)) := by intro _; rfl) : FT X W κ a (fTru ma fa) :=
  (pt_truth ha he).imp fun σ H Q h => by
    obtain ⟨ρ, w, rfl, rel, post⟩ := h
    refine seqV (P := PostT (ctx X W) κ σ w Q) rel post (fun z => z) (fun n d ρ' z => z) fun d ρ1 v w1 rel1 e1 t1 post1 => ?_
    split at post1
    · rename_i x ex
      cases eb : truD x with
      | none =>
        rw [eb] at post1
        exact post1.elim
      | some k =>
        rw [eb] at post1
        exact ⟨k, truD_ok (rd_dp rel1 t1 ex) eb, post1 w1 rel1 e1⟩
    · exact post1.elim
def tAndF (ta tb : M Bool) : M Bool := fun ρ => bdo (ta ρ) fun c ρ1 => if c = true then tb ρ1 else some (.ok false ρ1)
def tOrF (ta tb : M Bool) : M Bool := fun ρ => bdo (ta ρ) fun c ρ1 => if c = true then some (.ok true ρ1) else tb ρ1
def tNotF (ta : M Bool) : M Bool := fun ρ => bdo (ta ρ) fun c ρ1 => some (.ok (!c) ρ1)
theorem fw_and1 (ha : FT X W κ a ta) : FW X W κ (.BoolOp .And [a] pos) ta := pw_and1 ha
theorem fw_or1 (ha : FT X W κ a ta) : FW X W κ (.BoolOp .Or [a] pos) ta := pw_or1 ha
theorem fw_and {rest : List Expr} (ha : FT X W κ a ta) (hb : FW X W κ (.BoolOp .And (b :: rest) pos) tb) : FW X W κ (.BoolOp .And (a :: b :: rest) pos) (tAndF ta tb) := (pw_and ha hb).imp fun σ H Q h => by
  obtain ⟨ρ, w, rfl, rel, post⟩ := h
  refine seqT (P := PostT (ctx X W) κ σ w Q) rel post (fun z => z) (fun n d ρ' z => z) fun k ρ1 w1 rel1 e1 post1 => ?_
  cases k with
  | true => exact ⟨ρ1, w1, rfl, rel1, PostT.since post1 e1⟩
  | false => exact post1 w1 rel1 e1
theorem fw_or {rest : List Expr} (ha : FT X W κ a ta) (hb : FW X W κ (.BoolOp .Or (b :: rest) pos) tb) : FW X W κ (.BoolOp .Or (a :: b :: rest) pos) (tOrF ta tb) := (pw_or ha hb).imp fun σ H Q h => by
  obtain ⟨ρ, w, rfl, rel, post⟩ := h
  refine seqT (P := PostT (ctx X W) κ σ w Q) rel post (fun z => z) (fun n d ρ' z => z) fun k ρ1 w1 rel1 e1 post1 => ?_
  cases k with
  | true => exact post1 w1 rel1 e1
  | false => exact ⟨ρ1, w1, rfl, rel1, PostT.since post1 e1⟩
theorem ft_w (h : FW X W κ e ta) : FT X W κ e ta := PW.pt h
theorem ft_not (ha : FT X W κ a ta) : FT X W κ (.UnaryOp .Not a pos) (tNotF ta) := (pt_not ha).imp fun σ H Q h => by
  obtain ⟨ρ, w, rfl, rel, post⟩ := h
  exact seqT (P := PostT (ctx X W) κ σ w Q) rel post (fun z => z) (fun n d ρ' z => z) fun k ρ1 w1 rel1 e1 post1 => post1 w1 rel1 e1
/-! ### and, or, not as values (bools but the last) -/
def fAnd (fa fb : M D) : M D := fun ρ => bdo (fa ρ) fun x ρ1 => match x with
  | .bool true => fb ρ1
  | .bool false => some (.ok (.bool false) ρ1)
  | _ => none
def fOr (fa fb : M D) : M D := fun ρ => bdo (fa ρ) fun x ρ1 => match x with
  | .bool true => some (.ok (.bool true) ρ1)
  | .bool false => fb ρ1
  | _ => none
def fNot (fa : M D) : M D := fun ρ => bdo (fa ρ) fun x ρ1 => match x with
  | .bool b => some (.ok (.bool !b) ρ1)
  | _ => none
theorem fe_one {op} {k : Kind} (ha : FV X W κ (.t k) a fa) : FV X W κ (.t k) (.BoolOp op [a] pos) fa := pe_one ha
theorem rd_bool {K : PySem.W.Frag} {b k : Bool} {w w1 : Wd} {v : V} (t : Temp K (.v b) w w1 (.bool k) v) : v = .bl k := dp_bl t.rd.dp
theorem fe_and {k : Bool} {rest : List Expr} (ha : FV X W κ (.t (.v k)) a fa) (hb : FV X W κ (.t (.v k)) (.BoolOp .And (b :: rest) pos) fb) : FV X W κ (.t (.v k)) (.BoolOp .And (a :: b :: rest) pos) (fAnd fa fb) := (pe_and ha hb).imp fun σ H Q h => by
  obtain ⟨ρ, w, rfl, rel, post⟩ := h
  refine seqV (P := PostV (ctx X W) κ σ (.t (.v k)) w Q) rel post (fun z => z) (fun n d ρ' z => z) fun d ρ1 v w1 rel1 e1 t1 post1 => ?_
  split at post1
  · exact ⟨true, rd_bool t1, ⟨ρ1, w1, rfl, rel1, PostV.since post1 e1⟩⟩
  · exact ⟨false, rd_bool t1, fin_imm post1 rel1 e1 (.bl false)⟩
  · exact post1.elim
theorem fe_or {k : Bool} {rest : List Expr} (ha : FV X W κ (.t (.v k)) a fa) (hb : FV X W κ (.t (.v k)) (.BoolOp .Or (b :: rest) pos) fb) : FV X W κ (.t (.v k)) (.BoolOp .Or (a :: b :: rest) pos) (fOr fa fb) := (pe_or ha hb).imp fun σ H Q h => by
  obtain ⟨ρ, w, rfl, rel, post⟩ := h
  refine seqV (P := PostV (ctx X W) κ σ (.t (.v k)) w Q) rel post (fun z => z) (fun n d ρ' z => z) fun d ρ1 v w1 rel1 e1 t1 post1 => ?_
  split at post1
  · exact ⟨true, rd_bool t1, fin_imm post1 rel1 e1 (.bl true)⟩
  · exact ⟨false, rd_bool t1, ⟨ρ1, w1, rfl, rel1, PostV.since post1 e1⟩⟩
  · exact post1.elim
theorem fe_not {k k' : Bool} (ha : FV X W κ (.t (.v k)) a fa) : FV X W κ (.t (.v k')) (.UnaryOp .Not a pos) (fNot fa) := (pe_not ha).imp fun σ H Q h => by
  obtain ⟨ρ, w, rfl, rel, post⟩ := h
  refine seqV (P := PostV (ctx X W) κ σ (.t (.v k')) w Q) rel post (fun z => z) (fun n d ρ' z => z) fun d ρ1 v w1 rel1 e1 t1 post1 => ?_
  split at post1
  · exact ⟨_, rd_bool t1, fin_imm post1 rel1 e1 (.bl _)⟩
  · exact post1.elim
/-! ### a if t else b -/
def fIf (t : M Bool) (fa fb : M D) : M D := fun ρ => bdo (t ρ) fun c ρ1 => if c = true then fa ρ1 else fb ρ1
theorem fe_if {c : Expr} {m : Md} (hc : FT X W κ c ta) (ha : FV X W κ m a fa) (hb : FV X W κ m b fb) : FV X W κ m (.IfExp c a b pos) (fIf ta fa fb) := (pe_ifExp hc ha hb).imp fun σ H Q h => by
  obtain ⟨ρ, w, rfl, rel, post⟩ := h
  refine seqT (P := PostV (ctx X W) κ σ m w Q) rel post (fun z => z) (fun n d ρ' z => z) fun k ρ1 w1 rel1 e1 post1 => ?_
  cases k with
  | true => exact ⟨ρ1, w1, rfl, rel1, PostV.since post1 e1⟩
  | false => exact ⟨ρ1, w1, rfl, rel1, PostV.since post1 e1⟩
/-! ### a < b < c -/
def fCh (ma mb mc : Md) (o o' : D → D → Option D) (fa fb fc : M D) : M D := fun ρ => bdo (fa ρ) fun x ρ1 => bdo (fb ρ1) fun y ρ2 => match rd ma x ρ2, rd mb y ρ2 with
  | some x', some y' => match o x' y' with
    | some (.bool true) => bdo (fc ρ2) fun z ρ3 => match rd mb y ρ3, rd mc z ρ3 with
      | some y', some z' => (o' y' z').map fun u => .ok u ρ3
      | _, _ => none
    | some (.bool false) => some (.ok (.bool false) ρ2)
    | _ => none
  | _, _ => none
theorem ev_ch {X : Cx} {W : WX} {bb : Bool} {fc : M D} {mc : Md} {r r' : R2} {o o' : D → D → Option D} {σ : L2.St} {H : Hp} {Q : VK} (hs : Sc X.K r o) (hs' : Sc X.K r' o') (h : tV (ctx X W) κ (.t (.v bb)) (fCh ma mb mc o o' fa fb fc) σ H Q) : tChain r r' (tV (ctx X W) κ ma fa) (tV (ctx X W) κ mb fb) (tV (ctx X W) κ mc fc) σ H Q := by
  obtain ⟨ρ, w, rfl, rel, post⟩ := h
  refine seqV (P := PostV (ctx X W) κ σ (.t (.v bb)) w Q) rel post (fun z => z) (fun n d ρ' z => z) fun dx ρ1 vx w1 rel1 e1 t1 post1 => ?_
  refine seqV (P := PostV (ctx X W) κ σ (.t (.v bb)) w Q) rel1 post1 (fun z => z) (fun n d ρ' z => z.since e1) fun dy ρ2 vy w2 rel2 e2 t2 post2 => ?_
  split at post2
  · rename_i x' y' ex ey
    have e12 := e1.trans e2
    split at post2
    · rename_i eo
      refine hs _ _ _ _ _ _ _ (rd_dp rel2 (t1.keep e2) ex) (rd_dp rel2 t2 ey) eo fun v q => ⟨true, dp_bl (q true (fun _ => none)).dp, ?_⟩
      rw [if_pos rfl]
      refine seqV (P := PostV (ctx X W) κ σ (.t (.v bb)) w Q) rel2 post2 (fun z => z) (fun n d ρ' z => z.since e12) fun dz ρ3 vz w3 rel3 e3 t3 post3 => ?_
      split at post3
      · rename_i y2 z2 ey2 ez2
        cases eu : o' y2 z2 with
        | none =>
          rw [eu] at post3
          exact post3.elim
        | some u =>
          rw [eu] at post3
          exact hs' _ _ _ _ _ _ _ (rd_dp rel3 (t2.keep e3) ey2) (rd_dp rel3 t3 ez2) eu fun v q => fin_imm post3 rel3 (e12.trans e3) (q _ _)
      · exact post3.elim
    · rename_i eo
      refine hs _ _ _ _ _ _ _ (rd_dp rel2 (t1.keep e2) ex) (rd_dp rel2 t2 ey) eo fun v q => ⟨false, dp_bl (q true (fun _ => none)).dp, ?_⟩
      rw [if_neg Bool.false_ne_true]
      exact fin_imm post2 rel2 e12 (.bl false)
    · exact post2.elim
  · exact post2.elim
theorem fe_ch {bb : Bool} {c : Expr} {fc : M D} {mc : Md} {op op' : CmpOp} {r r' : R2} {o o' : D → D → Option D} (ho : OpR X (compareOp op) r) (hs : Sc X.K r o) (ho' : OpR X (compareOp op') r') (hs' : Sc X.K r' o') (ha : FV X W κ ma a fa) (hb : FV X W κ mb b fb) (hc : FV X W κ mc c fc)
    (hm : lastMarks [op, op'] [b, c] = false := by with_unfolding_all rfl) : FV X W κ (.t (.v bb)) (.Compare a [op, op'] [b, c] pos) (fCh ma mb mc o o' fa fb fc) := (pe_chain ho ho' ha hb hc hm).imp fun _ _ _ h => ev_ch hs hs' h
/-! ### comparisons as tests -/
def fTst (fa : M D) : M Bool := fun ρ => bdo (fa ρ) fun d ρ1 => match d with
  | .bool b => some (.ok b ρ1)
  | _ => none
theorem tst_of {c : Ct} {f : M D} {σ : L2.St} {H : Hp} {Q : Bool → Hp → Prop} (h : tT c κ (fTst f) σ H Q) : tV c κ (.t (.v true)) f σ H (fun x H' => ∃ k, x = .bl k ∧ Q k H') := by
  obtain ⟨ρ, w, rfl, rel, post⟩ := h
  refine ⟨ρ, w, rfl, rel, ?_⟩
  unfold fTst at post
  cases e : f ρ with
  | none => rw [e] at post; exact post.elim
  | some o =>
    rw [e] at post
    cases o with
    | err n d ρ1 => exact post
    | ok d ρ1 =>
      intro v w1 rel1 e1 t1
      cases d with
      | bool b => exact ⟨b, rd_bool t1, (show PostT c κ σ w Q (some (.ok b ρ1)) from post) w1 rel1 e1⟩
      | _ => exact (show False from post).elim
theorem ft_cmp {op : CmpOp} {r : R2} {o : D → D → Option D} (ho : OpR X (compareOp op) r) (hs : Sc X.K r o) (ha : FV X W κ ma a fa) (hb : FV X W κ mb b fb) (hm : behindInMarks op b = false) : FT X W κ (.Compare a [op] [b] pos) (fTst (f2 ma mb o fa fb)) :=
  (pt_cmpR ho ha hb hm).imp fun _ _ _ h => ev_2 (fun _ _ _ _ _ _ _ _ _ _ rel e t1 t2 e1 e2 ez post => hs _ _ _ _ _ _ _ (rd_dp rel t1 e1) (rd_dp rel t2 e2) ez fun v q => fin_imm post rel e (q _ _)) (tst_of h)
theorem ft_ch {c : Expr} {fc : M D} {mc : Md} {op op' : CmpOp} {r r' : R2} {o o' : D → D → Option D} (ho : OpR X (compareOp op) r) (hs : Sc X.K r o) (ho' : OpR X (compareOp op') r') (hs' : Sc X.K r' o') (ha : FV X W κ ma a fa) (hb : FV X W κ mb b fb) (hc : FV X W κ mc c fc)
    (hm : lastMarks [op, op'] [b, c] = false := by with_unfolding_all rfl) : FT X W κ (.Compare a [op, op'] [b, c] pos) (fTst (fCh ma mb mc o o' fa fb fc)) := (pt_chain ho ho' ha hb hc hm).imp fun _ _ _ h => ev_ch hs hs' (tst_of h)
end
/-! ### arguments -/
inductive ArgsR (K : PySem.W.Frag) (σ : L2.St) (F H : Hp) : List Md → List D → List V → FpS → Prop
  | nil {fp : FpS} : ArgsR K σ F H [] [] [] fp
  | t {k : Kind} {d : D} {v : V} {ms : List Md} {ds : List D} {vs : List V} {f g fp : FpS} : OD K F H k v d f → ArgsR K σ F H ms ds vs g → (∀ a, f a → ¬ g a) → (∀ a, f a → fp a) → (∀ a, g a → fp a) → ArgsR K σ F H (.t k :: ms) (d :: ds) (v :: vs) fp
  | r {i : Nat} {d : D} {v : V} {ms : List Md} {ds : List D} {vs : List V} {fp : FpS} : σ[i]? = some (some v) → ArgsR K σ F H ms ds vs fp → ArgsR K σ F H (.r i :: ms) (d :: ds) (v :: vs) fp
def Args (K : PySem.W.Frag) (σ : L2.St) (w w' : Wd) (ms : List Md) (ds : List D) (vs : List V) : Prop :=
  ∃ g : FpS, ArgsR K σ w'.F w'.H ms ds vs g ∧ ∀ a, g a → ¬ w'.fp a ∧ w'.F a = none ∧ w'.H a ≠ none ∧ (w.fp a ∨ w.H a = none)
def PostA (c : Ct) (κ : List Kind) (σ : L2.St) (ms : List Md) (w : Wd) (Q : List V → Hp → Prop) : Option (Out (List D)) → Prop
  | some (.ok ds ρ) => ∀ vs w', Rel c.K κ ρ σ w' → Ext w w' → Args c.K σ w w' ms ds vs → Q vs w'.H
  | some (.err n d ρ) => ErrOk c κ σ w n d ρ
  | none => False
def tA (c : Ct) (κ : List Kind) (ms : List Md) (f : M (List D)) : TA := fun σ H Q => ∃ ρ w, w.H = H ∧ Rel c.K κ ρ σ w ∧ PostA c κ σ ms w Q (f ρ)
def FA (X : Cx) (W : WX) (κ : List Kind) (ms : List Md) (es : List Expr) (f : M (List D)) : Prop := PA X es (tA (ctx X W) κ ms f)
section
variable {c : Ct} {κ : List Kind} {σ : L2.St} {w w1 : Wd}
theorem seqA {β : Type} {ms : List Md} {fa : M (List D)} {ρ : Env} {P : Option β → Prop} {e : Str → D → Env → β} {g : List D → Env → Option β} {R : List V → Hp → Prop} (rel : Rel c.K κ ρ σ w1) (h : P (bnd (fa ρ) e g)) (hN : ¬ P none) (hE : ∀ n d ρ', P (some (e n d ρ')) → ErrOk c κ σ w1 n d ρ')
    (hR : ∀ ds ρ2 vs w2, Rel c.K κ ρ2 σ w2 → Ext w1 w2 → Args c.K σ w1 w2 ms ds vs → P (g ds ρ2) → R vs w2.H) : tA c κ ms fa σ w1.H R := by
  refine ⟨ρ, w1, rfl, rel, ?_⟩
  cases q : fa ρ with
  | none =>
    rw [q] at h
    exact hN h
  | some o =>
    rw [q] at h
    cases o with
    | ok d ρ2 => exact fun vs w2 r2 e2 t2 => hR d ρ2 vs w2 r2 e2 t2 h
    | err n d ρ2 => exact hE n d ρ2 h
def aNil : M (List D) := fun ρ => some (.ok [] ρ)
def aCons (fa : M D) (fr : M (List D)) : M (List D) := fun ρ => bdo (fa ρ) fun d ρ1 => bdo (fr ρ1) fun ds ρ2 => some (.ok (d :: ds) ρ2)
theorem args_cons {K : PySem.W.Frag} {w2 : Wd} {m : Md} {ms : List Md} {d : D} {v : V} {ds : List D} {vs : List V} (e1 : Ext w w1) (e2 : Ext w1 w2) (t : TempM K m σ w w1 d v) (a : Args K σ w1 w2 ms ds vs) : Args K σ w w2 (m :: ms) (d :: ds) (v :: vs) := by
  obtain ⟨g, h, c⟩ := a
  have cg : ∀ a, g a → ¬ w2.fp a ∧ w2.F a = none ∧ w2.H a ≠ none ∧ (w.fp a ∨ w.H a = none) := fun a z => by
    obtain ⟨c1, c2, c3, c4⟩ := c a z
    refine ⟨c1, c2, c3, ?_⟩
    rcases c4 with y | y
    · exact e1.fp a y
    · cases q : w.H a with
      | none => exact .inr rfl
      | some o =>
        by_cases n : w.fp a
        · exact .inl n
        · rw [e1.keep a o q n] at y; cases y
  cases m with
  | t k =>
    obtain ⟨f, o, cf⟩ := t
    obtain ⟨o', cf'⟩ := temp_keep e2 o fun a z => ⟨(cf a z).1, (cf a z).2.1, (cf a z).2.2.1⟩
    refine ⟨fun a => f a ∨ g a, .t o' h (fun a z y => ?_) (fun a z => .inl z) (fun a z => .inr z), fun a z => ?_⟩
    · rcases (c a y).2.2.2 with q | q
      · exact (cf a z).1 q
      · exact (cf a z).2.2.1 q
    · rcases z with z | z
      · exact ⟨(cf' a z).1, (cf' a z).2.1, (cf' a z).2.2, (cf a z).2.2.2⟩
      · exact cg a z
  | r i => exact ⟨g, .r t h, cg⟩
theorem Args.since {K : PySem.W.Frag} {w2 : Wd} {ms : List Md} {ds : List D} {vs : List V} (a : Args K σ w1 w2 ms ds vs) (e1 : Ext w w1) : Args K σ w w2 ms ds vs := by
  obtain ⟨g, h, c⟩ := a
  refine ⟨g, h, fun a z => ?_⟩
  obtain ⟨c1, c2, c3, c4⟩ := c a z
  refine ⟨c1, c2, c3, ?_⟩
  rcases c4 with y | y
  · exact e1.fp a y
  · cases q : w.H a with
    | none => exact .inr rfl
    | some o =>
      by_cases n : w.fp a
      · exact .inl n
      · rw [e1.keep a o q n] at y; cases y
end
section
variable {X : Cx} {W : WX} {κ : List Kind} {pos : Pos} {a b e : Expr} {es : List Expr} {fa fb : M D} {fr : M (List D)} {ma mb m : Md} {ms : List Md}
theorem fa_nil : FA X W κ [] [] aNil := pa_nil.imp fun σ H Q h => by
  obtain ⟨ρ, w, rfl, rel, post⟩ := h
  exact post [] w rel (Ext.refl _) ⟨fun _ => False, .nil, fun _ z => z.elim⟩
theorem fa_cons (ha : FV X W κ m a fa) (hr : FA X W κ ms es fr) (hs : starEach (a :: es) X.env = (false, eval a X.env) :: starEach es X.env := by rfl) : FA X W κ (m :: ms) (a :: es) (aCons fa fr) := (pa_cons ha hr hs).imp fun σ H Q h => by
  obtain ⟨ρ, w, rfl, rel, post⟩ := h
  refine seqV (P := PostA (ctx X W) κ σ (m :: ms) w Q) rel post (fun z => z) (fun n d ρ' z => z) fun d ρ1 v w1 rel1 e1 t1 post1 => ?_
  refine seqA (P := PostA (ctx X W) κ σ (m :: ms) w Q) rel1 post1 (fun z => z) (fun n d ρ' z => ErrOk.since z e1) fun ds ρ2 vs w2 rel2 e2 a2 post2 => ?_
  exact post2 (v :: vs) w2 rel2 (e1.trans e2) (args_cons e1 e2 t1 a2)
/-! ### displays -/
def allV (b : Bool) : List Md → Prop
  | [] => True
  | .t (.v c) :: ms => c = b ∧ allV b ms
  | _ => False
theorem args_rds {K : PySem.W.Frag} {σ : L2.St} {F H : Hp} {b : Bool} : ∀ {ms : List Md} {ds : List D} {vs : List V} {g : FpS}, allV b ms → ArgsR K σ F H ms ds vs g → RDs b K F vs ds
  | [], _, _, _, _, .nil => .nil
  | .t (.v c) :: ms, _, _, _, ⟨e, z⟩, .t o r _ _ _ => by
    subst e
    exact .cons o (args_rds z r)
  | .t (.lst _) :: _, _, _, _, z, _ => z.elim
  | .t .scr :: _, _, _, _, z, _ => z.elim
  | .t (.fix _ _) :: _, _, _, _, z, _ => z.elim
  | .r _ :: _, _, _, _, z, _ => z.elim
def fTup (fs : M (List D)) : M D := fun ρ => bdo (fs ρ) fun ds ρ1 => if ds.length ≤ sizeLine then some (.ok (.tuple ds) ρ1) else none
def fLst (fs : M (List D)) : M D := fun ρ => bdo (fs ρ) fun ds ρ1 => if ds.length ≤ sizeLine then some (.ok (.list ds) ρ1) else none
theorem fe_tup {k : Bool} {x1} (h : FA X W κ ms es fr) (hk : allV k ms := by repeat (first | exact True.intro | refine And.intro rfl ?_)) : FV X W κ (.t (.v k)) (.Tuple es x1 pos) (fTup fr) := (pe_tup h).imp fun σ H Q h => by
  obtain ⟨ρ, w, rfl, rel, post⟩ := h
  refine seqA (P := PostV (ctx X W) κ σ (.t (.v k)) w Q) rel post (fun z => z) (fun n d ρ' z => z) fun ds ρ1 vs w1 rel1 e1 a1 post1 => ?_
  obtain ⟨g, ar, _⟩ := a1
  have r := args_rds hk ar
  split at post1
  · rename_i hl
    exact ⟨by rw [r.length]; exact hl, fun p np => fin_tup post1 rel1 e1 r np⟩
  · exact post1.elim
theorem fe_lst {k : Bool} {kd : Kind} (h : FA X W κ ms es fr) (hd : newL k kd := by rfl) (hk : allV k ms := by repeat (first | exact True.intro | refine And.intro rfl ?_)) : FV X W κ (.t kd) (.List es pos) (fLst fr) := (pe_lst h).imp fun σ H Q h => by
  obtain ⟨ρ, w, rfl, rel, post⟩ := h
  refine seqA (P := PostV (ctx X W) κ σ (.t kd) w Q) rel post (fun z => z) (fun n d ρ' z => z) fun ds ρ1 vs w1 rel1 e1 a1 post1 => ?_
  obtain ⟨g, ar, _⟩ := a1
  have r := args_rds hk ar
  split at post1
  · rename_i hl
    exact ⟨by rw [r.length]; exact hl, fun p np => fin_lst hd post1 rel1 e1 r np⟩
  · exact post1.elim
end
/-! ### what an operand holds -/
/-- the slot's items are immediate data -/
def itK (b : Bool) : Option Kind → Prop
  | some (.v c) => c = b
  | some (.lst (.v c)) => c = b
  | some (.fix _ (.lst (.v c))) => c = b
  | _ => False
/-- the operand's items are immediate data -/
def itB (b : Bool) (κ : List Kind) : Md → Prop
  | .t (.v c) => c = b
  | .t (.lst (.v c)) => c = b
  | .r i => itK b κ[i]?
  | _ => False
theorem odl_rds {K : PySem.W.Frag} {F H : Hp} {b : Bool} : ∀ {xs : List V} {ds : List D} {fp : FpS}, ODl (fun v d f => dk (.v b) = true ∧ OD K F H (.v b) v d f) xs ds fp → RDs b K F xs ds
  | _, _, _, .nil => .nil
  | _, _, _, .cons r t _ _ _ => .cons r.2 (odl_rds t)
section
variable {c : Ct} {κ : List Kind} {σ : L2.St} {w w1 : Wd} {ρ : Env}
theorem od_list {K : PySem.W.Frag} {b : Bool} {k : Kind} {v : V} {ds : List D} {fp : FpS} {F H : Hp} (e : Same F H) (hk : k = .v b ∨ k = .lst (.v b) ∨ ∃ u, k = .fix u (.lst (.v b))) (o : OD K F H k v (.list ds) fp) : ∃ a xs, v = .ref a ∧ H a = some (.lst xs) ∧ RDs b K F xs ds := by
  rcases hk with rfl | rfl | ⟨u, rfl⟩
  · cases o with
    | lst h t => exact ⟨_, _, rfl, e _ _ h, t⟩
  · obtain ⟨a, vs, ds', g, e1, e2, e3, h1, h2, h3, t⟩ := o
    cases e2
    exact ⟨a, vs, e1, e3, odl_rds t⟩
  · obtain ⟨a, vs, ds', g, e1, e2, e3, h1, h2, h3, t⟩ := o
    cases e2
    exact ⟨a, vs, e1, e3, odl_rds t⟩
theorem it_cases {b : Bool} {i : Nat} (h : itB b κ (.r i)) : ∃ k, κ[i]? = some k ∧ (k = .v b ∨ k = .lst (.v b) ∨ ∃ u, k = .fix u (.lst (.v b))) := by
  have h' : itK b κ[i]? := h
  unfold itK at h'
  split at h'
  · rename_i c e
    exact ⟨_, e, .inl (by rw [h'])⟩
  · rename_i c e
    exact ⟨_, e, .inr (.inl (by rw [h']))⟩
  · rename_i u c e
    exact ⟨_, e, .inr (.inr ⟨u, by rw [h']⟩)⟩
  · exact h'.elim
theorem opd_od {m : Md} {b : Bool} {d d' : D} {v : V} (hm : itB b κ m) (rel : Rel c.K κ ρ σ w1) (t : TempM c.K m σ w w1 d v) (h : rd m d ρ = some d') : ∃ k fp, (k = .v b ∨ k = .lst (.v b) ∨ ∃ u, k = .fix u (.lst (.v b))) ∧ OD c.K w1.F w1.H k v d' fp := by
  cases m with
  | t k =>
    obtain ⟨rfl, _⟩ := rd_t h
    obtain ⟨g, o, _⟩ := t
    cases k with
    | v c => exact ⟨_, g, .inl (by rw [show c = b from hm]), o⟩
    | lst k =>
      cases k with
      | v c => exact ⟨_, g, .inr (.inl (by rw [show c = b from hm])), o⟩
      | _ => exact hm.elim
    | _ => exact hm.elim
  | r i =>
    obtain ⟨k, ek, hk⟩ := it_cases hm
    obtain ⟨v', f, e, o, _⟩ := rel.slots.get (rd_r h).1 ek
    rw [show σ[i]? = some (some v) from t] at e
    cases e
    exact ⟨k, f, hk, o⟩
theorem opd_list {m : Md} {b : Bool} {d : D} {ds : List D} {v : V} (hm : itB b κ m) (rel : Rel c.K κ ρ σ w1) (t : TempM c.K m σ w w1 d v) (h : rd m d ρ = some (.list ds)) : ∃ a xs, v = .ref a ∧ w1.H a = some (.lst xs) ∧ RDs b c.K w1.F xs ds := by
  obtain ⟨k, fp, hk, o⟩ := opd_od hm rel t h
  exact od_list rel.same hk o
theorem opd_tup {m : Md} {b : Bool} {d : D} {ds : List D} {v : V} (hm : itB b κ m) (rel : Rel c.K κ ρ σ w1) (t : TempM c.K m σ w w1 d v) (h : rd m d ρ = some (.tuple ds)) : ∃ a xs, v = .ref a ∧ SqT c.K w1.H a xs ∧ RD b c.K w1.F v (.tuple ds) ∧ RDs b c.K w1.F xs ds := by
  obtain ⟨k, fp, hk, o⟩ := opd_od hm rel t h
  rcases hk with rfl | rfl | ⟨u, rfl⟩
  · have o' : RD b c.K w1.F v (.tuple ds) := o
    cases o with
    | tup h1 t1 => exact ⟨_, _, rfl, SqT.of (rel.same _ _ h1), o', t1⟩
    | con z h1 t1 => exact ⟨_, _, rfl, sameT rel.same h1, o', t1⟩
  · obtain ⟨a, vs, ds', g, e1, e2, _⟩ := o
    cases e2
  · obtain ⟨a, vs, ds', g, e1, e2, _⟩ := o
    cases e2
end
end FN
set_option Elab.async false
set_option linter.all false
set_option maxRecDepth 100000
set_option maxHeartbeats 4000000
/-! FN4: +, *, subscripts, slices, built-in calls. -/
namespace FN
open PySem PySem.Spec PyProof.Rows L2
section
variable {X : Cx} {W : WX} {κ : List Kind} {pos : Pos} {a b e : Expr} {fa fb : M D} {ma mb m : Md}
/-! ### one operand -/
def f1 (m : Md) (op : D → Option D) (fa : M D) : M D := fun ρ => bdo (fa ρ) fun x ρ1 => match rd m x ρ1 with
  | some x => (op x).map fun z => .ok z ρ1
  | none => none
theorem ev_1 {c : Ct} {k : Kind} {op : D → Option D} {r : V → Hp → VK → Prop} {σ : L2.St} {H : Hp} {Q : VK}
    (hr : ∀ ρ w w1 x dx vx z, Rel c.K κ ρ σ w1 → Ext w w1 → TempM c.K m σ w w1 dx vx → rd m dx ρ = some x → op x = some z → PostV c κ σ (.t k) w Q (some (.ok z ρ)) → r vx w1.H Q)
    (h : tV c κ (.t k) (f1 m op fa) σ H Q) : tV c κ m fa σ H (fun x H1 => r x H1 Q) := by
  obtain ⟨ρ, w, rfl, rel, post⟩ := h
  refine seqV (P := PostV c κ σ (.t k) w Q) rel post (fun z => z) (fun n d ρ' z => z) fun dx ρ1 vx w1 rel1 e1 t1 post1 => ?_
  split at post1
  · rename_i x ex
    cases ez : op x with
    | none =>
      rw [ez] at post1
      exact post1.elim
    | some z =>
      rw [ez] at post1
      exact hr ρ1 w w1 x dx vx z rel1 e1 t1 ex ez post1
  · exact post1.elim
def dNeg : D → Option D
  | .int i => some (.int (-i))
  | _ => none
theorem fe_neg {k : Bool} (ha : FV X W κ m a fa) : FV X W κ (.t (.v k)) (.UnaryOp .USub a pos) (f1 m dNeg fa) := (pe_un un_neg ha).imp fun _ _ _ h => ev_1 (fun ρ w w1 x dx vx z rel e t ex ez post => by
  unfold dNeg at ez
  split at ez
  · cases ez
    exact ⟨_, dp_int (rd_dp rel t ex), fin_imm post rel e (.int _)⟩
  · cases ez) h
/-! ### a + b -/
def dAdd : D → D → Option D
  | .int i, .int j => some (.int (i + j))
  | .str x, .str y => if x.length + y.length ≤ sizeLine then some (.str (x ++ y)) else none
  | .tuple xs, .tuple ys => if xs.length + ys.length ≤ sizeLine then some (.tuple (xs ++ ys)) else none
  | .list xs, .list ys => if xs.length + ys.length ≤ sizeLine then some (.list (xs ++ ys)) else none
  | _, _ => none
theorem fe_add {k : Bool} {kd : Kind} (ha : FV X W κ ma a fa) (hb : FV X W κ mb b fb) (hd : kd = .v k := by rfl) (h1 : itB k κ ma := by rfl) (h2 : itB k κ mb := by rfl) : FV X W κ (.t kd) (.BinOp a .Add b pos) (f2 ma mb dAdd fa fb) := by
  subst hd
  refine (pe_op ((((op_add (X := X)).or op_add_str).or op_catA).or op_cat) ha hb).imp fun _ _ _ h => ev_2 (fun ρ w w2 x y dx dy vx vy z rel e t1 t2 e1 e2 ez post => ?_) h
  unfold dAdd at ez
  split at ez
  · cases ez
    exact .inl (.inl (.inl ⟨_, _, dp_int (rd_dp rel t1 e1), dp_int (rd_dp rel t2 e2), fin_imm post rel e (.int _)⟩))
  · split at ez
    · rename_i hl
      cases ez
      exact .inl (.inl (.inr ⟨_, _, dp_str (rd_dp rel t1 e1), dp_str (rd_dp rel t2 e2), hl, fin_imm post rel e (.str _)⟩))
    · cases ez
  · split at ez
    · rename_i xs ys hl
      cases ez
      obtain ⟨p, us, ep, sp, r1, rs1⟩ := opd_tup h1 rel t1 e1
      obtain ⟨q, vs, eq, sq, r2, rs2⟩ := opd_tup h2 rel t2 e2
      refine .inl (.inr ⟨p, q, us, vs, ep, eq, sp, sq, by rw [rs1.length, rs2.length]; exact hl, fun z => ?_, fun z1 z2 => ?_, fun z1 z2 p' np => ?_⟩)
      · subst z
        cases rs1
        rw [← eq]
        exact fin_imm post rel e r2
      · subst z2
        cases rs2
        rw [← ep]
        rw [List.append_nil] at post
        exact fin_imm post rel e r1
      · exact fin_tup post rel e (rs1.append rs2) np
    · cases ez
  · split at ez
    · rename_i xs ys hl
      cases ez
      obtain ⟨p, us, ep, sp, rs1⟩ := opd_list h1 rel t1 e1
      obtain ⟨q, vs, eq, sq, rs2⟩ := opd_list h2 rel t2 e2
      refine .inr ⟨p, q, us, vs, ep, eq, sp, sq, by rw [rs1.length, rs2.length]; exact hl, fun p' np => ?_⟩
      exact fin_lst (b := k) (k := .v k) rfl post rel e (rs1.append rs2) np
    · cases ez
  · cases ez
/-- list + list, owned -/
def dCat : D → D → Option D
  | .list xs, .list ys => if xs.length + ys.length ≤ sizeLine then some (.list (xs ++ ys)) else none
  | _, _ => none
theorem fe_cat {k : Bool} {kd : Kind} (ha : FV X W κ ma a fa) (hb : FV X W κ mb b fb) (hd : newL k kd := by rfl) (h1 : itB k κ ma := by rfl) (h2 : itB k κ mb := by rfl) : FV X W κ (.t kd) (.BinOp a .Add b pos) (f2 ma mb dCat fa fb) := by
  refine (pe_op (op_cat (X := X)) ha hb).imp fun _ _ _ h => ev_2 (fun ρ w w2 x y dx dy vx vy z rel e t1 t2 e1 e2 ez post => ?_) h
  unfold dCat at ez
  split at ez
  · split at ez
    · rename_i xs ys hl
      cases ez
      obtain ⟨p, us, ep, sp, rs1⟩ := opd_list h1 rel t1 e1
      obtain ⟨q, vs, eq, sq, rs2⟩ := opd_list h2 rel t2 e2
      exact ⟨p, q, us, vs, ep, eq, sp, sq, by rw [rs1.length, rs2.length]; exact hl, fun p' np => fin_lst (b := k) hd post rel e (rs1.append rs2) np⟩
    · cases ez
  · cases ez
/-! ### subscripts -/
def scrK : Option Kind → Prop
  | some .scr => True
  | some (.fix _ .scr) => True
  | _ => False
theorem scr_at {K : PySem.W.Frag} {F H : Hp} {κ : List Kind} {ρ : Env} {σ : L2.St} {fp : FpS} {i : Nat} {d : D} (h : Slots K F H κ ρ σ fp) (e : ρ[i]? = some (some d)) (hk : scrK κ[i]?) : ∃ v f, σ[i]? = some (some v) ∧ OD K F H .scr v d f := by
  unfold scrK at hk
  split at hk
  · rename_i q
    obtain ⟨v, f, e1, o, _⟩ := h.get e q
    exact ⟨v, f, e1, o⟩
  · rename_i u q
    obtain ⟨v, f, e1, o, _⟩ := h.get e q
    exact ⟨v, f, e1, o⟩
  · exact hk.elim
def dIx : D → D → Option D
  | .list ds, .int i => atI ds i
  | .tuple ds, .int i => atI ds i
  | .str z, .int i => if z.length ≤ sizeLine then (atI z.cps.toList i).map fun c => .str ⟨#[c]⟩ else none
  | _, _ => none
theorem rds_at {K : PySem.W.Frag} {k : Bool} {F : Hp} {xs : List V} {ds : List D} {i : Int} {d : D} (r : RDs k K F xs ds) (h : atI ds i = some d) : ∃ v, atI xs i = some v ∧ RD k K F v d := by
  unfold atI at h ⊢
  rw [r.length]
  cases q : ixN ds.length i with
  | none =>
    rw [q] at h
    cases h
  | some j =>
    rw [q] at h
    exact r.get h
theorem fe_ix {k : Bool} (ha : FV X W κ ma a fa) (hb : FV X W κ mb b fb) (hs : PlainIx b := by exact fun _ _ => rfl) (h1 : itB k κ ma := by rfl) : FV X W κ (.t (.v k)) (.Subscript a b pos) (f2 ma mb dIx fa fb) := by
  refine (pe_ix ix_seq ha hb hs).imp fun _ _ _ h => ev_2 (fun ρ w w2 x y dx dy vx vy z rel e t1 t2 e1 e2 ez post => ?_) h
  unfold dIx at ez
  split at ez
  · obtain ⟨p, us, ep, sp, rs1⟩ := opd_list h1 rel t1 e1
    obtain ⟨v, ev, rv⟩ := rds_at rs1 ez
    exact .inl ⟨p, us, _, v, ep, dp_int (rd_dp rel t2 e2), SqL.of sp, ev, fin_imm post rel e rv⟩
  · obtain ⟨p, us, ep, sp, r1, rs1⟩ := opd_tup h1 rel t1 e1
    obtain ⟨v, ev, rv⟩ := rds_at rs1 ez
    exact .inr (.inl ⟨p, us, _, v, ep, dp_int (rd_dp rel t2 e2), sp, ev, fin_imm post rel e rv⟩)
  · split at ez
    · rename_i hl
      cases q : atI (Array.toList _) _ with
      | none =>
        rw [q] at ez
        cases ez
      | some ch =>
        rw [q] at ez
        cases ez
        exact .inr (.inr ⟨_, _, ch, dp_str (rd_dp rel t1 e1), dp_int (rd_dp rel t2 e2), hl, q, fin_imm post rel e (.str _)⟩)
    · cases ez
  · cases ez
/-- the script's items -/
theorem fe_ixS {k : Bool} {i : Nat} (ha : FV X W κ (.r i) a fa) (hb : FV X W κ mb b fb) (hs : PlainIx b := by exact fun _ _ => rfl) (h1 : scrK κ[i]? := by exact True.intro) : FV X W κ (.t (.v k)) (.Subscript a b pos) (f2 (.r i) mb dIx fa fb) := by
  refine (pe_ix ix_list ha hb hs).imp fun _ _ _ h => ev_2 (fun ρ w w2 x y dx dy vx vy z rel e t1 t2 e1 e2 ez post => ?_) h
  obtain ⟨v', f, ev, o⟩ := scr_at rel.slots (rd_r e1).1 h1
  rw [show _ = some (some vx) from t1] at ev
  cases ev
  obtain ⟨p, ns, rfl, rfl, hl⟩ := o
  unfold dIx at ez
  split at ez
  · rename_i ds j ed
    cases ed
    obtain ⟨v, ev, rv⟩ := rds_at (RDs.ints (b := k) (K := (ctx X W).K) (F := w2.F) ns) ez
    exact ⟨p, _, _, v, rfl, dp_int (rd_dp rel t2 e2), rel.same.seq hl, ev, fin_imm post rel e rv⟩
  · rename_i ed
    cases ed
  · rename_i ed
    cases ed
  · cases ez
/-! ### slices -/
def cutD (ds : List D) (lo hi : Option Int) : List D := (ds.drop (HT.sIx ds.length 0 lo)).take (HT.sIx ds.length ds.length hi - HT.sIx ds.length 0 lo)
theorem rds_cut {K : PySem.W.Frag} {k : Bool} {F : Hp} {xs : List V} {ds : List D} (lo hi : Option Int) (r : RDs k K F xs ds) : RDs k K F (cutV xs lo hi) (cutD ds lo hi) := by
  unfold cutV cutD
  rw [r.length]
  exact (r.drop _).take _
theorem cut_whole {ds : List D} {lo hi : Option Int} (h1 : HT.sIx ds.length 0 lo = 0) (h2 : HT.sIx ds.length ds.length hi = ds.length) : cutD ds lo hi = ds := by
  unfold cutD
  rw [h1, h2, List.drop_zero, Nat.sub_zero, List.take_length]
def PostO (c : Ct) (κ : List Kind) (σ : L2.St) (w : Wd) (Q : Option Int → Hp → Prop) : Option (Out (Option Int)) → Prop
  | some (.ok o ρ) => ∀ w', Rel c.K κ ρ σ w' → Ext w w' → Q o w'.H
  | some (.err n d ρ) => ErrOk c κ σ w n d ρ
  | none => False
def tO (c : Ct) (κ : List Kind) (f : M (Option Int)) : TO := fun σ H Q => ∃ ρ w, w.H = H ∧ Rel c.K κ ρ σ w ∧ PostO c κ σ w Q (f ρ)
def FO (X : Cx) (W : WX) (κ : List Kind) (e : Option Expr) (f : M (Option Int)) : Prop := PO X e (tO (ctx X W) κ f)
theorem _root_.L2.PO.imp {X : Cx} {e : Option Expr} {t t' : TO} (h : PO X e t) (i : ∀ σ H Q, t' σ H Q → t σ H Q) : PO X e t' := ⟨fun pins s σ H Q I q => h.run pins s σ H Q I (i σ H Q q)⟩
theorem seqO {c : Ct} {σ : L2.St} {w1 : Wd} {β : Type} {fa : M (Option Int)} {ρ : Env} {P : Option β → Prop} {e : Str → D → Env → β} {g : Option Int → Env → Option β} {R : Option Int → Hp → Prop} (rel : Rel c.K κ ρ σ w1) (h : P (bnd (fa ρ) e g)) (hN : ¬ P none) (hE : ∀ n d ρ', P (some (e n d ρ')) → ErrOk c κ σ w1 n d ρ')
    (hR : ∀ b ρ2 w2, Rel c.K κ ρ2 σ w2 → Ext w1 w2 → P (g b ρ2) → R b w2.H) : tO c κ fa σ w1.H R := by
  refine ⟨ρ, w1, rfl, rel, ?_⟩
  cases q : fa ρ with
  | none =>
    rw [q] at h
    exact hN h
  | some o =>
    rw [q] at h
    cases o with
    | ok d ρ2 => exact fun w2 r2 e2 => hR d ρ2 w2 r2 e2 h
    | err n d ρ2 => exact hE n d ρ2 h
def oNone : M (Option Int) := fun ρ => some (.ok none ρ)
def oSome (fa : M D) : M (Option Int) := fun ρ => bdo (fa ρ) fun x ρ1 => match x with
  | .int i => some (.ok (some i) ρ1)
  | _ => none
theorem fo_none : FO X W κ none oNone := po_none.imp fun σ H Q h => by
  obtain ⟨ρ, w, rfl, rel, post⟩ := h
  exact post w rel (Ext.refl _)
theorem fo_some {k : Bool} (ha : FV X W κ (.t (.v k)) a fa) : FO X W κ (some a) (oSome fa) := (po_some ha).imp fun σ H Q h => by
  obtain ⟨ρ, w, rfl, rel, post⟩ := h
  refine seqV (P := PostO (ctx X W) κ σ w Q) rel post (fun z => z) (fun n d ρ' z => z) fun dx ρ1 vx w1 rel1 e1 t1 post1 => ?_
  split at post1
  · exact ⟨_, dp_int (Temp.rd t1).dp, post1 w1 rel1 e1⟩
  · exact post1.elim
/-- a[lo:hi] -/
def dCut : D → Option Int → Option Int → Option D
  | .tuple ds, lo, hi => some (.tuple (cutD ds lo hi))
  | .list ds, lo, hi => some (.list (cutD ds lo hi))
  | .str z, lo, hi => if z.length ≤ sizeLine then some (.str (cutS z lo hi)) else none
  | _, _, _ => none
def f3 (m : Md) (fa : M D) (fl fh : M (Option Int)) : M D := fun ρ => bdo (fa ρ) fun x ρ1 => bdo (fl ρ1) fun lo ρ2 => bdo (fh ρ2) fun hi ρ3 => match rd m x ρ3 with
  | some x => (dCut x lo hi).map fun z => .ok z ρ3
  | none => none
theorem ev_3 {c : Ct} {k : Kind} {r : V → Option Int → Option Int → Hp → VK → Prop} {fl fh : M (Option Int)} {σ : L2.St} {H : Hp} {Q : VK}
    (hr : ∀ ρ w w1 x dx vx lo hi z, Rel c.K κ ρ σ w1 → Ext w w1 → TempM c.K m σ w w1 dx vx → rd m dx ρ = some x → dCut x lo hi = some z → PostV c κ σ (.t k) w Q (some (.ok z ρ)) → r vx lo hi w1.H Q)
    (h : tV c κ (.t k) (f3 m fa fl fh) σ H Q) : tSl r (tV c κ m fa) (tO c κ fl) (tO c κ fh) σ H Q := by
  obtain ⟨ρ, w, rfl, rel, post⟩ := h
  refine seqV (P := PostV c κ σ (.t k) w Q) rel post (fun z => z) (fun n d ρ' z => z) fun dx ρ1 vx w1 rel1 e1 t1 post1 => ?_
  refine seqO (P := PostV c κ σ (.t k) w Q) rel1 post1 (fun z => z) (fun n d ρ' z => ErrOk.since z e1) fun lo ρ2 w2 rel2 e2 post2 => ?_
  refine seqO (P := PostV c κ σ (.t k) w Q) rel2 post2 (fun z => z) (fun n d ρ' z => ErrOk.since z (e1.trans e2)) fun hi ρ3 w3 rel3 e3 post3 => ?_
  split at post3
  · rename_i x ex
    cases ez : dCut x lo hi with
    | none =>
      rw [ez] at post3
      exact post3.elim
    | some z =>
      rw [ez] at post3
      exact hr ρ3 w w3 x dx vx lo hi z rel3 (e1.trans (e2.trans e3)) (t1.keep (e2.trans e3)) ex ez post3
  · exact post3.elim
theorem fe_sl {k : Bool} {fl fh : M (Option Int)} {lo hi : Option Expr} {p2 : Pos} (ha : FV X W κ m a fa) (hl : FO X W κ lo fl) (hh : FO X W κ hi fh) (h1 : itB k κ m := by rfl) : FV X W κ (.t (.v k)) (.Subscript a (.Slice lo hi none p2) pos) (f3 m fa fl fh) := by
  refine (pe_slice ((sl_tupA (X := X)).or (sl_list.or sl_str)) ha hl hh).imp fun _ _ _ h => ev_3 (fun ρ w w2 x dx vx lo hi z rel e t1 e1 ez post => ?_) h
  unfold dCut at ez
  split at ez
  · cases ez
    obtain ⟨p, us, ep, sp, r1, rs1⟩ := opd_tup h1 rel t1 e1
    refine .inl ⟨p, us, ep, sp, fun ⟨z1, z2⟩ => ?_, fun _ p' np => fin_tup post rel e (rds_cut lo hi rs1) np⟩
    rw [rs1.length] at z1 z2
    rw [cut_whole z1 z2] at post
    rw [← ep]
    exact fin_imm post rel e r1
  · cases ez
    obtain ⟨p, us, ep, sp, rs1⟩ := opd_list h1 rel t1 e1
    exact .inr (.inl ⟨p, us, ep, SqL.of sp, fun p' np => fin_lst (b := k) (k := .v k) rfl post rel e (rds_cut lo hi rs1) np⟩)
  · split at ez
    · rename_i hl
      cases ez
      exact .inr (.inr ⟨_, dp_str (rd_dp rel t1 e1), hl, fin_imm post rel e (.str _)⟩)
    · cases ez
  · cases ez
/-- a slice of the script -/
theorem fe_slS {k : Bool} {i : Nat} {fl fh : M (Option Int)} {lo hi : Option Expr} {p2 : Pos} (ha : FV X W κ (.r i) a fa) (hl : FO X W κ lo fl) (hh : FO X W κ hi fh) (h1 : scrK κ[i]? := by exact True.intro) : FV X W κ (.t (.v k)) (.Subscript a (.Slice lo hi none p2) pos) (f3 (.r i) fa fl fh) := by
  refine (pe_slice (sl_list (X := X)) ha hl hh).imp fun _ _ _ h => ev_3 (fun ρ w w2 x dx vx lo hi z rel e t1 e1 ez post => ?_) h
  obtain ⟨v', f, ev, o⟩ := scr_at rel.slots (rd_r e1).1 h1
  rw [show _ = some (some vx) from t1] at ev
  cases ev
  obtain ⟨p, ns, rfl, rfl, hl⟩ := o
  cases ez
  exact ⟨p, _, rfl, rel.same.seq hl, fun p' np => fin_lst (b := k) (k := .v k) rfl post rel e (rds_cut lo hi (RDs.ints ns)) np⟩
/-! ### calls of built-ins: one argument, two -/
theorem ev_c1 {c : Ct} {k : Kind} {op : D → Option D} {r : List V → Hp → VK → Prop} {σ : L2.St} {H : Hp} {Q : VK}
    (hr : ∀ ρ w w1 x dx vx z, Rel c.K κ ρ σ w1 → Ext w w1 → TempM c.K m σ w w1 dx vx → rd m dx ρ = some x → op x = some z → PostV c κ σ (.t k) w Q (some (.ok z ρ)) → r [vx] w1.H Q)
    (h : tV c κ (.t k) (f1 m op fa) σ H Q) : tCB r (tCons (tV c κ m fa) tNil) σ H Q := ev_1 (r := fun x H Q => r [x] H Q) hr h
theorem ev_c2 {c : Ct} {k : Kind} {op : D → D → Option D} {r : List V → Hp → VK → Prop} {σ : L2.St} {H : Hp} {Q : VK}
    (hr : ∀ ρ w w2 x y dx dy vx vy z, Rel c.K κ ρ σ w2 → Ext w w2 → TempM c.K ma σ w w2 dx vx → TempM c.K mb σ w w2 dy vy → rd ma dx ρ = some x → rd mb dy ρ = some y → op x y = some z → PostV c κ σ (.t k) w Q (some (.ok z ρ)) → r [vx, vy] w2.H Q)
    (h : tV c κ (.t k) (f2 ma mb op fa fb) σ H Q) : tCB r (tCons (tV c κ ma fa) (tCons (tV c κ mb fb) tNil)) σ H Q := ev_2 (r := fun x y H Q => r [x, y] H Q) hr h
/-- len -/
def dLen : D → Option D
  | .str x => if x.length ≤ sizeLine then some (.int x.length) else none
  | .list xs => some (.int xs.length)
  | .tuple xs => some (.int xs.length)
  | _ => none
theorem lenV_of {K : PySem.W.Frag} {H : Hp} {v : V} {d : D} {z : D} (h : Dp K H v d) (e : dLen d = some z) : ∃ n : Nat, z = .int n ∧ LenV K v H n := by
  cases h with
  | non => cases e
  | bl => cases e
  | int => cases e
  | str x =>
    have e' : (if x.length ≤ sizeLine then some (PyData.int x.length) else none) = some z := e
    split at e'
    · rename_i hl
      cases e'
      exact ⟨_, rfl, hl, rfl⟩
    · cases e'
  | lst h t =>
    cases e
    exact ⟨_, rfl, .inl ⟨_, h, (DpAll.length t).symm⟩⟩
  | tup h t =>
    cases e
    exact ⟨_, rfl, .inr ⟨_, h, (DpAll.length t).symm⟩⟩
theorem fe_len {k : Bool} {p : Pos} (hg : Gl X "len") (hm : X.mg "len" = none) (ha : FV X W κ m a fa) (hst : starEach (a :: []) X.env = (false, eval a X.env) :: starEach [] X.env := by rfl) : FV X W κ (.t (.v k)) (.Call (.Name "len" p) [a] [] pos) (f1 m dLen fa) :=
  (pe_callB call_len hg hm PySem.boot_len (pa_cons ha pa_nil hst) (by decide) (by decide) hst).imp fun _ _ _ h => ev_c1 (fun ρ w w1 x dx vx z rel e t ex ez post => by
    obtain ⟨n, rfl, hl⟩ := lenV_of (rd_dp rel t ex) ez
    exact ⟨vx, n, rfl, hl, fin_imm post rel e (.int _)⟩) h
end
end FN
set_option Elab.async false
set_option linter.all false
set_option maxRecDepth 100000
set_option maxHeartbeats 4000000
/-! FN5: defs by their mirrors; calls; statements. -/
namespace FN
open PySem PySem.Spec PyProof.Rows L2
/-! ### a def's promise by its mirror -/
/-- g: from the parameters' data (and what is left of the changed ones) to the answer -/
def spF (K : PySem.W.Frag) (mg : Str → Option Value) (ks : List Kind) (kr : Kind) (g : M D) : Sp := fun vs H Q E => ∃ ρ w, w.H = H ∧ Rel K ks ρ (vs.map some) w ∧ (match g ρ with
  | some (.ok d ρ') => ∀ v w', Rel K ks ρ' (vs.map some) w' → Ext w w' → Temp K kr w w' d v → Q v w'.H
  | some (.err n d _) => ∀ cls dx w', Same w'.F w'.H → Ext w w' → ErrAt ⟨K, mg, fun _ _ _ _ => False⟩ n d cls dx w' → E cls (some dx) w'.H
  | none => False)
/-- where g gives no error -/
def noErr (g : M D) : M D := fun ρ => match g ρ with
  | some (.ok d ρ') => some (.ok d ρ')
  | _ => none
theorem noErr_ne {g : M D} {ρ : Env} {n : Str} {d : D} {ρ' : Env} : noErr g ρ ≠ some (.err n d ρ') := by
  unfold noErr
  split
  · intro z; cases z
  · intro z; cases z
theorem spF_len {K : PySem.W.Frag} {mg : Str → Option Value} {ks : List Kind} {kr : Kind} {g : M D} {vs : List V} {H : Hp} {Q : VK} {E : XK} (h : spF K mg ks kr g vs H Q E) : vs.length = ks.length := by
  obtain ⟨ρ, w, _, rel, _⟩ := h
  have l := rel.slots.lengths
  rw [List.length_map] at l
  exact l.1.symm
/-! ### arguments into a def and back -/
/-- what goes into the def, what is left at the caller -/
def fill : List Md → List D → Env → Option (Env × Env)
  | [], [], ρ => some ([], ρ)
  | .t _ :: ms, d :: ds, ρ => (fill ms ds ρ).map fun p => (some d :: p.1, p.2)
  | .r i :: ms, _ :: ds, ρ => match ρ[i]? with
    | some (some d) => (fill ms ds (ρ.set i none)).map fun p => (some d :: p.1, p.2)
    | _ => none
  | _, _, _ => none
def back : List Md → Env → Env → Env
  | .r i :: ms, o :: os, ρ => back ms os (ρ.set i o)
  | .t _ :: ms, _ :: os, ρ => back ms os ρ
  | _, _, ρ => ρ
/-- the def's kinds fit what is handed in -/
inductive Fits (κ : List Kind) : List Md → List Kind → Prop
  | nil : Fits κ [] []
  | t {k : Kind} {ms : List Md} {ks : List Kind} : (∀ u k', k ≠ .fix u k') → Fits κ ms ks → Fits κ (.t k :: ms) (k :: ks)
  | r {i : Nat} {k : Kind} {ms : List Md} {ks : List Kind} : (κ[i]? = some k ∧ (∀ u k', k ≠ .fix u k')) ∨ (∃ u, κ[i]? = some (.fix u k) ∧ ∀ u' k', k ≠ .fix u' k') → Fits κ ms ks → Fits κ (.r i :: ms) (k :: ks)
theorem Fits.nofix {κ : List Kind} {ms : List Md} {ks : List Kind} (h : Fits κ ms ks) : ∀ (i : Nat) (u : V) (k : Kind), ks[i]? ≠ some (.fix u k) := by
  induction h with
  | nil => intro i u k z; simp at z
  | t n _ ih =>
    intro i u k z
    cases i with
    | zero =>
      simp only [List.getElem?_cons_zero, Option.some.injEq] at z
      exact n u k z
    | succ i => exact ih i u k (by simpa using z)
  | r hk _ ih =>
    intro i u k z
    cases i with
    | zero =>
      simp only [List.getElem?_cons_zero, Option.some.injEq] at z
      rcases hk with ⟨_, n⟩ | ⟨_, _, n⟩
      · exact n u k z
      · exact n u k z
    | succ i => exact ih i u k (by simpa using z)
section
variable {K : PySem.W.Frag} {σ : L2.St} {F H : Hp} {κ : List Kind}
theorem fill_ok : ∀ {ms : List Md} {ks : List Kind} {ds : List D} {vs : List V} {ρ ρc ρr : Env} {g fp : FpS}, Fits κ ms ks → ArgsR K σ F H ms ds vs g → Slots K F H κ ρ σ fp → (∀ a, g a → ¬ fp a) → fill ms ds ρ = some (ρc, ρr) →
    ∃ gc fr, Slots K F H ks ρc (vs.map some) gc ∧ Slots K F H κ ρr σ fr ∧ (∀ a, gc a → ¬ fr a) ∧ (∀ a, gc a → g a ∨ fp a) ∧ (∀ a, fr a → fp a) ∧ (∀ (p : Nat) (i : Nat), ms[p]? = some (.r i) → ∃ v, vs[p]? = some v ∧ σ[i]? = some (some v)) ∧ ρr.length = ρ.length
  | [], _, _, _, _, _, _, _, fp, .nil, .nil, s, dj, e => by
    cases e
    exact ⟨fun _ => False, fp, .nil, s, fun _ z => z.elim, fun _ z => z.elim, fun _ z => z, fun p i z => by simp at z, rfl⟩
  | .t k :: ms, _, _, _, ρ, ρc, ρr, g, fp, .t _ ft, .t (f := f) (g := g1) o ar d1 h1 h2, s, dj, e => by
    unfold fill at e
    cases q : fill ms _ ρ with
    | none =>
      rw [q] at e
      cases e
    | some p =>
      rw [q] at e
      cases e
      obtain ⟨gc, fr, s1, s2, x1, x2, x3, x4, x5⟩ := fill_ok ft ar s (fun a z => dj a (h2 a z)) q
      refine ⟨fun a => f a ∨ gc a, fr, .cons o s1 (fun a z y => ?_) (fun a z => .inl z) (fun a z => .inr z), s2, fun a z y => ?_, fun a z => ?_, x3, fun p i z => ?_, x5⟩
      · rcases x2 a y with y | y
        · exact d1 a z y
        · exact dj a (h1 a z) y
      · rcases z with z | z
        · exact dj a (h1 a z) (x3 a y)
        · exact x1 a z y
      · rcases z with z | z
        · exact .inl (h1 a z)
        · rcases x2 a z with y | y
          · exact .inl (h2 a y)
          · exact .inr y
      · cases p with
        | zero => simp at z
        | succ p => simpa using x4 p i (by simpa using z)
  | .r i :: ms, _, _, _, ρ, ρc, ρr, g, fp, .r (k := kk) hk ft, .r (v := v0) e1 ar, s, dj, e => by
    unfold fill at e
    split at e
    · rename_i dd ed
      cases q : fill ms _ (ρ.set i none) with
      | none =>
        rw [q] at e
        cases e
      | some p =>
        rw [q] at e
        cases e
        have hk' : ∃ k0, κ[i]? = some k0 := by
          rcases hk with ⟨z, _⟩ | ⟨u, z, _⟩
          · exact ⟨_, z⟩
          · exact ⟨_, z⟩
        obtain ⟨k0, ek⟩ := hk'
        obtain ⟨v, f, g0, ev, o, s0, y1, y2, y3⟩ := s.out ed ek
        have ev2 : v = v0 := by
          rw [e1] at ev
          exact (Option.some.inj (Option.some.inj ev)).symm
        subst ev2
        have o' : OD K F H kk v dd f := by
          rcases hk with ⟨z, _⟩ | ⟨u, z, _⟩
          · rw [ek] at z
            cases z
            exact o
          · rw [ek] at z
            cases z
            exact o
        obtain ⟨gc, fr, s1, s2, x1, x2, x3, x4, x5⟩ := fill_ok ft ar s0 (fun a z y => dj a z (y3 a y)) q
        refine ⟨fun a => f a ∨ gc a, fr, .cons o' s1 (fun a z y => ?_) (fun a z => .inl z) (fun a z => .inr z), s2, fun a z y => ?_, fun a z => ?_, fun a z => y3 a (x3 a z), fun p j z => ?_, by rw [x5, List.length_set]⟩
        · rcases x2 a y with y | y
          · exact dj a y (y2 a z)
          · exact y1 a z y
        · rcases z with z | z
          · exact y1 a z (x3 a y)
          · exact x1 a z y
        · rcases z with z | z
          · exact .inr (y2 a z)
          · rcases x2 a z with y | y
            · exact .inl y
            · exact .inr (y3 a y)
        · cases p with
          | zero =>
            simp only [List.getElem?_cons_zero, Option.some.injEq, Md.r.injEq] at z
            subst z
            exact ⟨v, rfl, e1⟩
          | succ p => simpa using x4 p j (by simpa using z)
    · cases e
theorem set_same {α : Type} : ∀ {l : List α} {i : Nat} {a : α}, l[i]? = some a → l.set i a = l
  | [], _, _, _ => rfl
  | _ :: _, 0, _, h => by
    rw [List.getElem?_cons_zero] at h
    cases h
    rfl
  | _ :: r, i + 1, _, h => by
    rw [List.getElem?_cons_succ] at h
    rw [List.set_cons_succ, set_same h]
theorem back_ok : ∀ {ms : List Md} {ks : List Kind} {vs : List V} {ρo ρr : Env} {g fp : FpS}, Fits κ ms ks → (∀ (p : Nat) (i : Nat), ms[p]? = some (.r i) → ∃ v, vs[p]? = some v ∧ σ[i]? = some (some v)) → Slots K F H ks ρo (vs.map some) g → Slots K F H κ ρr σ fp → (∀ a, g a → ¬ fp a) →
    ∃ fp', Slots K F H κ (back ms ρo ρr) σ fp' ∧ ∀ a, fp' a → g a ∨ fp a
  | [], _, _, ρo, ρr, g, fp, _, _, _, s, _ => ⟨fp, by unfold back; exact s, fun a z => .inr z⟩
  | .t k :: ms, _, [], _, _, _, _, .t _ ft, _, s1, _, _ => by cases s1
  | .r i :: ms, _, [], _, _, _, _, .r hk ft, _, s1, _, _ => by cases s1
  | .t k :: ms, _, v :: vs, _, ρr, g, fp, .t _ ft, hv, s1, s2, dj => by
    have hv' : ∀ (p : Nat) (i : Nat), ms[p]? = some (.r i) → ∃ v, vs[p]? = some v ∧ σ[i]? = some (some v) := fun p i z => by simpa using hv (p + 1) i (by simpa using z)
    cases s1 with
    | skip s =>
      obtain ⟨fp', a1, a2⟩ := back_ok ft hv' s s2 dj
      exact ⟨fp', by unfold back; exact a1, a2⟩
    | cons o s d1 h1 h2 =>
      obtain ⟨fp', a1, a2⟩ := back_ok ft hv' s s2 (fun a z => dj a (h2 a z))
      exact ⟨fp', by unfold back; exact a1, fun a z => (a2 a z).elim (fun y => .inl (h2 a y)) .inr⟩
  | .r i :: ms, _, v :: vs, _, ρr, g, fp, .r hk ft, hv, s1, s2, dj => by
    have hv' : ∀ (p : Nat) (i : Nat), ms[p]? = some (.r i) → ∃ v, vs[p]? = some v ∧ σ[i]? = some (some v) := fun p i z => by simpa using hv (p + 1) i (by simpa using z)
    obtain ⟨v', ev, es⟩ := hv 0 i rfl
    simp only [List.getElem?_cons_zero, Option.some.injEq] at ev
    subst ev
    have hi : i < σ.length := (List.getElem?_eq_some_iff.mp es).1
    cases s1 with
    | skip s =>
      obtain ⟨fp', a1, a2⟩ := back_ok (ρr := ρr.set i none) ft hv' s (s2.drop i) dj
      exact ⟨fp', by unfold back; exact a1, a2⟩
    | @cons _ _ d _ _ _ f g1 _ o s d1 h1 h2 =>
      have hk' : ∃ k0, κ[i]? = some k0 ∧ OD K F H k0 v d f := by
        rcases hk with ⟨z, _⟩ | ⟨u, z, _⟩
        · exact ⟨_, z, o⟩
        · exact ⟨_, z, o⟩
      obtain ⟨k0, ek, o'⟩ := hk'
      have p := s2.put hi o' (fun a z => dj a (h1 a z))
      rw [set_same ek, set_same es] at p
      obtain ⟨fp', a1, a2⟩ := back_ok ft hv' s p (fun a z y => y.elim (fun y => d1 a y z) (dj a (h2 a z)))
      exact ⟨fp', by unfold back; exact a1, fun a z => (a2 a z).elim (fun y => .inl (h2 a y)) fun y => y.elim (fun q => .inl (h1 a q)) .inr⟩
end
theorem frame_slots {K : PySem.W.Frag} {κ : List Kind} {ρ : Env} {σ : L2.St} {wc wc' : Wd} {fp : FpS} (e : Ext wc wc') (s : Slots K wc.F wc.H κ ρ σ fp) (n : ∀ a, fp a → ¬ wc.fp a) : Slots K wc'.F wc'.H κ ρ σ fp :=
  s.frame e.same fun a o z q => e.keep a o q (n a z)
/-! ### the call -/
def fCall (ms : List Md) (g : M D) (fs : M (List D)) : M D := fun ρ => bdo (fs ρ) fun ds ρ1 => match fill ms ds ρ1 with
  | some (ρc, ρr) => match g ρc with
    | some (.ok d ρo) => some (.ok d (back ms ρo ρr))
    | some (.err n d _) => some (.err n d ρr)
    | none => none
  | none => none
section
variable {X : Cx} {W : WX} {κ : List Kind} {pos p : Pos} {e : Expr} {es : List Expr} {fr : M (List D)} {ms : List Md} {ks : List Kind} {kr : Kind} {g : M D}
theorem ev_call {σ : L2.St} {H : Hp} {Q : VK} {E : XK} (hf : Fits κ ms ks) (hE : (∀ ρ n d ρ', g ρ ≠ some (.err n d ρ')) ∨ ∀ cls dx H, W cls dx σ H → E cls dx H) (h : tV (ctx X W) κ (.t kr) (fCall ms g fr) σ H Q) : tA (ctx X W) κ ms fr σ H (fun vs H1 => spF X.K X.mg ks kr g vs H1 Q E) := by
  obtain ⟨ρ, w, rfl, rel, post⟩ := h
  refine seqA (P := PostV (ctx X W) κ σ (.t kr) w Q) rel post (fun z => z) (fun n d ρ' z => z) fun ds ρ1 vs w1 rel1 e1 a1 post1 => ?_
  obtain ⟨ga, ar, ca⟩ := a1
  split at post1
  · rename_i ρc ρr ef
    obtain ⟨gc, fr', s1, s2, x1, x2, x3, x4, x5⟩ := fill_ok hf ar rel1.slots (fun a z => (ca a z).1) ef
    have gl : ∀ a, gc a → w1.F a = none ∧ w1.H a ≠ none := fun a z => (x2 a z).elim (fun y => ⟨(ca a y).2.1, (ca a y).2.2.1⟩) fun y => ⟨rel1.frz a y, rel1.live a y⟩
    have relc : Rel X.K ks ρc (vs.map some) ⟨w1.F, w1.H, gc⟩ := ⟨rel1.same, fun a z => (gl a z).1, fun a z => (gl a z).2, fun i u k z => absurd z (hf.nofix i u k), s1⟩
    · show spF X.K X.mg ks kr g vs w1.H Q E
      refine ⟨ρc, ⟨w1.F, w1.H, gc⟩, rfl, relc, ?_⟩
      have since : ∀ a, gc a → w.fp a ∨ w.H a = none := fun a z => (x2 a z).elim (fun y => (ca a y).2.2.2) fun y => e1.fp a y
      split at post1
      · rename_i d ρo eg
        intro v w' rel' ext' t'
        have ne' : ∀ a, w'.fp a → ¬ fr' a := fun a z y => by
          rcases ext'.fp a z with q | q
          · exact x1 a q y
          · exact rel1.live a (x3 a y) q
        have sr : Slots X.K w'.F w'.H κ ρr σ fr' := frame_slots ext' s2 fun a z y => x1 a y z
        obtain ⟨fp', s', hfp⟩ := back_ok hf x4 rel'.slots sr ne'
        obtain ⟨gt, ot, ct⟩ := t'
        have keepH : ∀ a, fr' a → w'.F a = none ∧ w'.H a ≠ none := fun a z => by
          have l := rel1.live a (x3 a z)
          cases q : w1.H a with
          | none => exact absurd q l
          | some o =>
            have nf : ¬ gc a := fun y => x1 a y z
            refine ⟨?_, by rw [ext'.keep a o q nf]; intro y; cases y⟩
            cases y : w'.F a with
            | none => rfl
            | some u =>
              rcases ext'.new a u y with r | r | r
              · rw [show w1.F a = none from rel1.frz a (x3 a z)] at r; cases r
              · exact absurd r nf
              · rw [show w1.H a = some o from q] at r; cases r
        have rel2 : Rel X.K κ (back ms ρo ρr) σ ⟨w'.F, w'.H, fp'⟩ := ⟨rel'.same, fun a z => (hfp a z).elim (rel'.frz a) fun y => (keepH a y).1, fun a z => (hfp a z).elim (rel'.live a) fun y => (keepH a y).2, rel1.fixed, s'⟩
        have toW : ∀ a, w1.fp a ∨ w1.H a = none → w.fp a ∨ w.H a = none := fun a z => by
          rcases z with z | z
          · exact e1.fp a z
          · cases q : w.H a with
            | none => exact .inr rfl
            | some o =>
              by_cases n : w.fp a
              · exact .inl n
              · rw [e1.keep a o q n] at z; cases z
        have ext2 : Ext w ⟨w'.F, w'.H, fp'⟩ := {
          same := e1.same.trans ext'.same
          new := fun a o q => by
            rcases ext'.new a o q with r | r | r
            · exact e1.new a o r
            · exact .inr (since a r)
            · exact .inr (toW a (.inr r))
          keep := fun a o q n => by
            have q1 := e1.keep a o q n
            refine ext'.keep a o q1 fun y => ?_
            rcases since a y with r | r
            · exact n r
            · rw [q] at r; cases r
          fp := fun a z => by
            rcases hfp a z with y | y
            · rcases ext'.fp a y with r | r
              · exact since a r
              · exact toW a (.inr r)
            · exact e1.fp a (x3 a y) }
        refine post1 v ⟨w'.F, w'.H, fp'⟩ rel2 ext2 ⟨gt, ot, fun a z => ?_⟩
        obtain ⟨c1, c2, c3, c4⟩ := ct a z
        refine ⟨fun y => ?_, c2, c3, ?_⟩
        · rcases hfp a y with q | q
          · exact c1 q
          · rcases c4 with r | r
            · exact x1 a r q
            · exact rel1.live a (x3 a q) r
        · rcases c4 with r | r
          · exact since a r
          · exact toW a (.inr r)
      · rename_i n d ρo eg
        intro cls dx w' sm' ext' ea
        have hE := hE.resolve_left fun z => z _ _ _ _ eg
        refine hE cls (some dx) w'.H ?_
        have sr : Slots X.K w'.F w'.H κ ρr σ fr' := frame_slots ext' s2 fun a z y => x1 a y z
        have keepH : ∀ a, fr' a → w'.F a = none ∧ w'.H a ≠ none := fun a z => by
          have l := rel1.live a (x3 a z)
          cases q : w1.H a with
          | none => exact absurd q l
          | some o =>
            have nf : ¬ gc a := fun y => x1 a y z
            refine ⟨?_, by rw [ext'.keep a o q nf]; intro y; cases y⟩
            cases y : w'.F a with
            | none => rfl
            | some u =>
              rcases ext'.new a u y with r | r | r
              · rw [show w1.F a = none from rel1.frz a (x3 a z)] at r; cases r
              · exact absurd r nf
              · rw [show w1.H a = some o from q] at r; cases r
        have toW : ∀ a, w1.fp a ∨ w1.H a = none → w.fp a ∨ w.H a = none := fun a z => by
          rcases z with z | z
          · exact e1.fp a z
          · cases q : w.H a with
            | none => exact .inr rfl
            | some o =>
              by_cases n : w.fp a
              · exact .inl n
              · rw [e1.keep a o q n] at z; cases z
        have ext2 : Ext w ⟨w'.F, w'.H, fr'⟩ := {
          same := e1.same.trans ext'.same
          new := fun a o q => by
            rcases ext'.new a o q with r | r | r
            · exact e1.new a o r
            · exact .inr (since a r)
            · exact .inr (toW a (.inr r))
          keep := fun a o q n => by
            have q1 := e1.keep a o q n
            refine ext'.keep a o q1 fun y => ?_
            rcases since a y with r | r
            · exact n r
            · rw [q] at r; cases r
          fp := fun a z => e1.fp a (x3 a z) }
        exact post1 cls dx ⟨w'.F, w'.H, fr'⟩ ⟨sm', fun a z => (keepH a z).1, fun a z => (keepH a z).2, rel1.fixed, sr⟩ ext2 ea
      · exact post1.elim
  · exact post1.elim
/-- f(e, ..), f raises nothing -/
theorem fe_call {k : Nat} {f : Addr} {fd : FuncData} {ps : List Str} {x : Str} (F : FnOk X.prog X.w X.K X.mg X.base CX0 k f fd ps (spF X.K X.mg ks kr (noErr g))) (hr : Room k X.A) (hg : Gl X x) (hm : X.mg x = some (.ref f)) (hk : PySem.W.keepIn X.K (.ref f) = true) (hb : Binds X.K fd ps [])
    (hf : Fits κ ms ks) (ha : FA X W κ ms (e :: es) fr) (hdb : (x == ("__debug__" : Str)) = false := by decide) (he : starEach (e :: es) X.env = (false, eval e X.env) :: starEach es X.env := by rfl) (hpl : (backTo pos (starEach es X.env)).any (·.1) = false := by rfl) :
    FV X W κ (.t kr) (.Call (.Name x p) (e :: es) [] pos) (fCall ms (noErr g) fr) := (pe_call F hr hg hm hk hb .nil pass0 ha hdb he hpl).imp fun σ H Q h => by
  have q := ev_call (E := E0) hf (.inl fun _ _ _ _ => noErr_ne) h
  unfold tCall
  simp only [List.append_nil]
  exact q
/-- f(e, ..), f may raise -/
theorem fe_callX {k : Nat} {f : Addr} {fd : FuncData} {ps : List Str} {x : Str} (F : FnOk X.prog X.w X.K X.mg X.base (L2.CX X.prog X.w) k f fd ps (spF X.K X.mg ks kr g)) (tk : Takes X W) (hr : Room k X.A) (hg : Gl X x) (hm : X.mg x = some (.ref f)) (hk : PySem.W.keepIn X.K (.ref f) = true) (hb : Binds X.K fd ps [])
    (hf : Fits κ ms ks) (ha : FA X W κ ms (e :: es) fr) (hdb : (x == ("__debug__" : Str)) = false := by decide) (he : starEach (e :: es) X.env = (false, eval e X.env) :: starEach es X.env := by rfl) (hpl : (backTo pos (starEach es X.env)).any (·.1) = false := by rfl) :
    FV X W κ (.t kr) (.Call (.Name x p) (e :: es) [] pos) (fCall ms g fr) := (pe_callS F hr hg hm hk hb (fun σ => passAt tk σ) ha hdb he hpl).imp fun σ H Q h => ev_call hf (.inr fun _ _ _ z => z) h
end
/-! ### statements -/
inductive Fl where
  | nx (ρ : Env)
  | ret (d : D) (ρ : Env)
  | bk (ρ : Env)
  | ct (ρ : Env)
  | err (c : Str) (d : D) (ρ : Env)
/-- the def around: its parameters' kinds, their values at the entry, the answer's kind; the kinds at a break or continue, at an error -/
structure FC where
  ks : List Kind
  vs : List V
  kr : Kind
  kl : List Kind
  ke : Option (List Kind)
/-- the changed parameters' ends -/
def keepK : Kind → Bool
  | .v _ => false
  | .fix _ _ => false
  | _ => true
def outs : List Kind → Env → Env
  | k :: ks, o :: ρ => (match keepK k with | true => o | false => none) :: outs ks ρ
  | _, _ => []
inductive RetK : List Kind → List V → List Kind → Prop
  | nil {κ : List Kind} : RetK [] [] κ
  | own {k : Kind} {v : V} {ks : List Kind} {vs : List V} {κ : List Kind} : keepK k = true → RetK ks vs κ → RetK (k :: ks) (v :: vs) (.fix v k :: κ)
  | oth {k k' : Kind} {v : V} {ks : List Kind} {vs : List V} {κ : List Kind} : keepK k = false → RetK ks vs κ → RetK (k :: ks) (v :: vs) (k' :: κ)
theorem ret_slots {K : PySem.W.Frag} {F H : Hp} : ∀ {ks : List Kind} {vs : List V} {κ : List Kind} {ρ : Env} {σ : L2.St} {fp : FpS}, RetK ks vs κ → Slots K F H κ ρ σ fp → (∀ (i : Nat) (u : V) (k : Kind), κ[i]? = some (Kind.fix u k) → σ[i]? = some (some u)) → Slots K F H ks (outs ks ρ) (vs.map some) fp
  | [], [], _, _, _, _, .nil, _, _ => by
    unfold outs
    exact .nil
  | k :: ks, v :: vs, _ :: κ, _, _, fp, .own n r, s, hf => by
    have hf' : ∀ (i : Nat) (u : V) (k : Kind), κ[i]? = some (Kind.fix u k) → _ := fun i u k z => hf (i + 1) u k (by simpa using z)
    have e : ∀ (o : Option D) (ρ : Env), outs (k :: ks) (o :: ρ) = o :: outs ks ρ := fun o ρ => by
      show (match keepK k with | true => o | false => none) :: outs ks ρ = _
      rw [n]
    cases s with
    | skip s =>
      rw [e]
      exact .skip (ret_slots r s fun i u k z => by simpa using hf' i u k z)
    | cons o s d h1 h2 =>
      rw [e]
      have e := hf 0 v _ rfl
      simp only [List.getElem?_cons_zero, Option.some.injEq] at e
      subst e
      exact .cons o (ret_slots r s fun i u k z => by simpa using hf' i u k z) d h1 h2
  | k :: ks, v :: vs, k' :: κ, _, _, fp, .oth n r, s, hf => by
    have hf' : ∀ (i : Nat) (u : V) (k : Kind), κ[i]? = some (Kind.fix u k) → _ := fun i u k z => hf (i + 1) u k (by simpa using z)
    have e : ∀ (o : Option D) (ρ : Env), outs (k :: ks) (o :: ρ) = none :: outs ks ρ := fun o ρ => by
      show (match keepK k with | true => o | false => none) :: outs ks ρ = _
      rw [n]
    cases s with
    | skip s =>
      rw [e]
      exact .skip (ret_slots r s fun i u k z => by simpa using hf' i u k z)
    | cons o s d h1 h2 =>
      rw [e]
      exact .skip ((ret_slots r s fun i u k z => by simpa using hf' i u k z).mono h2)
def PostS (c : Ct) (C : FC) (κn : List Kind) (D' : Ends) (w : Wd) : Option Fl → Prop
  | some (.nx ρ) => ∀ σ' w', Rel c.K κn ρ σ' w' → Ext w w' → D'.nx σ' w'.H
  | some (.bk ρ) => ∀ σ' w', Rel c.K C.kl ρ σ' w' → Ext w w' → D'.bk σ' w'.H
  | some (.ct ρ) => ∀ σ' w', Rel c.K C.kl ρ σ' w' → Ext w w' → D'.ct σ' w'.H
  | some (.ret d ρ) => ∀ v w', Rel c.K C.ks (outs C.ks ρ) (C.vs.map some) w' → Ext w w' → Temp c.K C.kr w w' d v → D'.rt v w'.H
  | some (.err n d ρ) => ∀ cls dx σ' w', Same w'.F w'.H → (∀ κ, C.ke = some κ → Rel c.K κ ρ σ' w') → Ext w w' → ErrAt c n d cls dx w' → c.W cls (some dx) σ' w'.H
  | none => False
def tS (c : Ct) (C : FC) (κ κn : List Kind) (f : Env → Option Fl) : TS := fun D' σ H => ∃ ρ w, w.H = H ∧ Rel c.K κ ρ σ w ∧ PostS c C κn D' w (f ρ)
def FS (X : Cx) (W : WX) (C : FC) (κ κn : List Kind) (st : Stmt) (f : Env → Option Fl) : Prop := PS X st (tS (ctx X W) C κ κn f)
def FSs (X : Cx) (W : WX) (C : FC) (κ κn : List Kind) (st : List Stmt) (f : Env → Option Fl) : Prop := PSs X st (tS (ctx X W) C κ κn f)
/-- errors at the kinds κ are let -/
def EK (C : FC) (κ : List Kind) : Prop := C.ke = none ∨ C.ke = some κ
section
variable {c : Ct} {C : FC} {κ κn : List Kind} {D' : Ends} {w w1 : Wd}
theorem PostS.since {r : Option Fl} (h : PostS c C κn D' w r) (e : Ext w w1) : PostS c C κn D' w1 r := by
  cases r with
  | none => exact h
  | some o =>
    cases o with
    | nx ρ => exact fun σ' w' r x => h σ' w' r (e.trans x)
    | bk ρ => exact fun σ' w' r x => h σ' w' r (e.trans x)
    | ct ρ => exact fun σ' w' r x => h σ' w' r (e.trans x)
    | ret d ρ => exact fun v w' r x t => h v w' r (e.trans x) (t.since e)
    | err n d ρ => exact fun cls dx σ' w' s r x a => h cls dx σ' w' s r (e.trans x) a
theorem errS {σ : L2.St} {n : Str} {d : D} {ρ : Env} (he : EK C κ) (h : PostS c C κn D' w (some (.err n d ρ))) : ErrOk c κ σ w n d ρ := fun cls dx w' r x a => h cls dx σ w' r.same (fun κ' z => by
  rcases he with y | y
  · rw [y] at z; cases z
  · rw [y] at z; cases z; exact r) x a
end
def sSeq (f g : Env → Option Fl) : Env → Option Fl := fun ρ => match f ρ with
  | some (.nx ρ') => g ρ'
  | o => o
def sNx : Env → Option Fl := fun ρ => some (.nx ρ)
section
variable {X : Cx} {W : WX} {C : FC} {κ κ1 κn : List Kind} {st : Stmt} {rest : List Stmt} {f g : Env → Option Fl} {pos : Pos} {e : Expr} {fa : M D}
theorem fss_nil : FSs X W C κ κ [] sNx := pss_nil.imp fun D' σ H h => by
  obtain ⟨ρ, w, rfl, rel, post⟩ := h
  exact post σ w rel (Ext.refl _)
theorem fss_cons (h1 : FS X W C κ κ1 st f) (h2 : FSs X W C κ1 κn rest g) : FSs X W C κ κn (st :: rest) (sSeq f g) := (pss_cons h1 h2).imp fun D' σ H h => by
  obtain ⟨ρ, w, rfl, rel, post⟩ := h
  refine ⟨ρ, w, rfl, rel, ?_⟩
  unfold sSeq at post
  cases q : f ρ with
  | none =>
    rw [q] at post
    exact post
  | some o =>
    rw [q] at post
    cases o with
    | nx ρ1 => exact fun σ1 w1 r1 e1 => ⟨ρ1, w1, rfl, r1, PostS.since post e1⟩
    | bk ρ => exact post
    | ct ρ => exact post
    | ret d ρ => exact post
    | err n d ρ => exact post
theorem fss_one (h1 : FS X W C κ κn st f) : FSs X W C κ κn [st] f := pss_one h1
def sDrop (fa : M D) : Env → Option Fl := fun ρ => bnd (fa ρ) Fl.err fun _ ρ1 => some (.nx ρ1)
theorem fs_expr {m : Md} (ha : FV X W κ m e fa) (he : EK C κ := by first | exact .inl rfl | exact .inr rfl) (hs : swapsWith e none pos.line X.env = pure false := by rfl) : FS X W C κ κ (.Expr e pos) (sDrop fa) := (ps_expr ha hs).imp fun D' σ H h => by
  obtain ⟨ρ, w, rfl, rel, post⟩ := h
  exact seqV (P := PostS (ctx X W) C κ D' w) rel post (fun z => z) (fun n d ρ' z => errS he z) fun d ρ1 v w1 rel1 e1 t1 post1 => post1 σ w1 rel1 e1
/-- what comes into slot i -/
theorem rel_set {K : PySem.W.Frag} {k : Kind} {i : Nat} {d : D} {v : V} {ρ : Env} {σ : L2.St} {w w1 : Wd} (rel : Rel K κ ρ σ w1) (t : Temp K k w w1 d v) (hi : i < σ.length) (hk : ∀ u k', k ≠ .fix u k') :
    ∃ w2, w2.H = w1.H ∧ w2.F = w1.F ∧ Rel K (κ.set i k) (ρ.set i (some d)) (σ.set i (some v)) w2 ∧ (Ext w w1 → Ext w w2) := by
  obtain ⟨g, o, cg⟩ := t
  have s := (rel.slots.drop i).put (k := k) (d := d) (v := v) hi o (fun a z => (cg a z).1)
  rw [List.set_set] at s
  refine ⟨⟨w1.F, w1.H, fun a => g a ∨ w1.fp a⟩, rfl, rfl, ⟨rel.same, fun a z => z.elim (fun y => (cg a y).2.1) (rel.frz a), fun a z => z.elim (fun y => (cg a y).2.2.1) (rel.live a), fun j u k' z => ?_, s⟩, fun e => ⟨e.same, e.new, e.keep, fun a z => z.elim (fun y => (cg a y).2.2.2) (e.fp a)⟩⟩
  by_cases hj : j = i
  · subst hj
    have hl : j < κ.length := by rw [rel.slots.lengths.1]; exact hi
    rw [List.getElem?_set_self hl] at z
    cases z
    exact absurd rfl (hk _ _)
  · rw [List.getElem?_set_ne (Ne.symm hj)] at z
    rw [List.getElem?_set_ne (Ne.symm hj)]
    exact rel.fixed j u k' z
def sSet (i : Nat) (fa : M D) : Env → Option Fl := fun ρ => bnd (fa ρ) Fl.err fun d ρ1 => some (.nx (ρ1.set i (some d)))
def nofix : Kind → Prop
  | .fix _ _ => False
  | _ => True
theorem nofix_ne {k : Kind} (h : nofix k) : ∀ u k', k ≠ .fix u k' := fun u k' z => by
  subst z
  exact h
theorem fs_set {k : Kind} {i : Nat} {x : Str} {pos' : Pos} (ha : FV X W κ (.t k) e fa) (hN : X.N.Nodup) (hi : X.N[i]? = some x := by rfl) (hx : Loc X.env.scope x := by first | exact .inl rfl | exact .inr rfl) (hl : i < κ.length := by decide) (hk : nofix k := by trivial) (he : EK C κ := by first | exact .inl rfl | exact .inr rfl)
    (hs : swapsWith e (some (.Name x pos')) pos.line X.env = pure false := by rfl) (hf : X.fn x = true ∨ X.env.scope.names.lookup x = some .local := by first | exact .inl rfl | exact .inr rfl) : FS X W C κ (κ.set i k) (.Assign [.Name x pos'] e pos) (sSet i fa) := (ps_set hN hi hx ha hs hf).imp fun D' σ H h => by
  obtain ⟨ρ, w, rfl, rel, post⟩ := h
  refine seqV (P := PostS (ctx X W) C (κ.set i k) D' w) rel post (fun z => z) (fun n d ρ' z => errS he z) fun d ρ1 v w1 rel1 e1 t1 post1 => ?_
  obtain ⟨w2, eH, _, rel2, ex⟩ := rel_set rel1 t1 (by rw [← rel1.slots.lengths.1]; exact hl) (nofix_ne hk)
  show D'.nx (σ.set i (some v)) w1.H
  rw [← eH]
  exact post1 _ w2 rel2 (ex e1)
/-! ### return -/
theorem rel_ret {K : PySem.W.Frag} {ρ : Env} {σ : L2.St} {w : Wd} (hk : RetK C.ks C.vs κ) (rel : Rel K κ ρ σ w) (hn : ∀ (i : Nat) (u : V) (k : Kind), C.ks[i]? ≠ some (Kind.fix u k)) : Rel K C.ks (outs C.ks ρ) (C.vs.map some) w :=
  ⟨rel.same, rel.frz, rel.live, fun i u k z => absurd z (hn i u k), ret_slots hk rel.slots rel.fixed⟩
/-- the def's parameters' kinds have none that is fixed -/
def noFixs : List Kind → Prop
  | [] => True
  | k :: ks => nofix k ∧ noFixs ks
theorem noFixs_ne : ∀ {ks : List Kind}, noFixs ks → ∀ (i : Nat) (u : V) (k : Kind), ks[i]? ≠ some (Kind.fix u k)
  | [], _, i, u, k, z => by simp at z
  | k0 :: ks, ⟨h, r⟩, 0, u, k, z => by
    simp only [List.getElem?_cons_zero, Option.some.injEq] at z
    exact nofix_ne h u k z
  | k0 :: ks, ⟨h, r⟩, i + 1, u, k, z => noFixs_ne r i u k (by simpa using z)
def sRet (fa : M D) : Env → Option Fl := fun ρ => bnd (fa ρ) Fl.err fun d ρ1 => some (.ret d ρ1)
theorem fs_ret {k : Kind} {κn : List Kind} (ha : FV X W κ (.t k) e fa) (hr : RetK C.ks C.vs κ) (hn : noFixs C.ks := by repeat (first | exact True.intro | refine And.intro True.intro ?_)) (hk : C.kr = k := by rfl) (he : EK C κ := by first | exact .inl rfl | exact .inr rfl) : FS X W C κ κn (.Return (some e) pos) (sRet fa) := (ps_ret ha).imp fun D' σ H h => by
  subst hk
  obtain ⟨ρ, w, rfl, rel, post⟩ := h
  exact seqV (P := PostS (ctx X W) C κn D' w) rel post (fun z => z) (fun n d ρ' z => errS he z) fun d ρ1 v w1 rel1 e1 t1 post1 => post1 v w1 (rel_ret hr rel1 (noFixs_ne hn)) e1 t1
def sRetN : Env → Option Fl := fun ρ => some (.ret .none ρ)
theorem fs_retN {b : Bool} {κn : List Kind} (hr : RetK C.ks C.vs κ) (hn : noFixs C.ks := by repeat (first | exact True.intro | refine And.intro True.intro ?_)) (hk : C.kr = .v b := by rfl) : FS X W C κ κn (.Return none pos) sRetN := ps_retN.imp fun D' σ H h => by
  obtain ⟨ρ, w, rfl, rel, post⟩ := h
  refine post .non w (rel_ret hr rel (noFixs_ne hn)) (Ext.refl _) ?_
  rw [hk]
  exact Temp.imm .non
/-- return of the object in slot i, which goes out of the slot -/
def sRetR (i : Nat) : Env → Option Fl := fun ρ => match ρ[i]? with
  | some (some d) => some (.ret d (ρ.set i none))
  | _ => none
theorem fs_retR {i : Nat} {κn : List Kind} (ha : FV X W κ (.r i) e (fRef i)) (hki : κ[i]? = some C.kr := by rfl) (hr : RetK C.ks C.vs κ) (hn : noFixs C.ks := by repeat (first | exact True.intro | refine And.intro True.intro ?_)) : FS X W C κ κn (.Return (some e) pos) (sRetR i) := (ps_ret ha).imp fun D' σ H h => by
  obtain ⟨ρ, w, rfl, rel, post⟩ := h
  unfold sRetR at post
  split at post
  · rename_i d ed
    refine ⟨ρ, w, rfl, rel, ?_⟩
    unfold fRef
    rw [ed]
    intro v w1 rel1 e1 t1
    obtain ⟨v', f, g, ev, o, s, y1, y2, y3⟩ := rel1.slots.out ed hki
    rw [show σ[i]? = some (some v) from t1] at ev
    cases ev
    have rel2 : Rel X.K κ (ρ.set i none) σ ⟨w1.F, w1.H, g⟩ := ⟨rel1.same, fun a z => rel1.frz a (y3 a z), fun a z => rel1.live a (y3 a z), rel1.fixed, s⟩
    exact post v ⟨w1.F, w1.H, g⟩ (rel_ret hr rel2 (noFixs_ne hn)) ⟨e1.same, e1.new, e1.keep, fun a z => e1.fp a (y3 a z)⟩ ⟨f, o, fun a z => ⟨y1 a z, rel1.frz a (y2 a z), rel1.live a (y2 a z), e1.fp a (y2 a z)⟩⟩
  · exact post.elim
/-! ### if, pass, break, continue -/
def sIf (t : M Bool) (f g : Env → Option Fl) : Env → Option Fl := fun ρ => bnd (t ρ) Fl.err fun b ρ1 => if b = true then f ρ1 else g ρ1
theorem fs_if {c : Expr} {t : M Bool} {a b : List Stmt} (hc : FT X W κ c t) (ha : FSs X W C κ κn a f) (hb : FSs X W C κ κn b g) (he : EK C κ := by first | exact .inl rfl | exact .inr rfl) : FS X W C κ κn (.If c a b pos) (sIf t f g) := (ps_if hc ha hb).imp fun D' σ H h => by
  obtain ⟨ρ, w, rfl, rel, post⟩ := h
  refine seqT (P := PostS (ctx X W) C κn D' w) rel post (fun z => z) (fun n d ρ' z => errS he z) fun k ρ1 w1 rel1 e1 post1 => ?_
  cases k with
  | true => exact ⟨ρ1, w1, rfl, rel1, PostS.since post1 e1⟩
  | false => exact ⟨ρ1, w1, rfl, rel1, PostS.since post1 e1⟩
theorem fs_pass : FS X W C κ κ (.Pass pos) sNx := ps_pass.imp fun D' σ H h => by
  obtain ⟨ρ, w, rfl, rel, post⟩ := h
  exact post σ w rel (Ext.refl _)
def sBk : Env → Option Fl := fun ρ => some (.bk ρ)
def sCt : Env → Option Fl := fun ρ => some (.ct ρ)
theorem fs_break (hk : C.kl = κ := by rfl) : FS X W C κ κn (.Break pos) sBk := ps_break.imp fun D' σ H h => by
  subst hk
  obtain ⟨ρ, w, rfl, rel, post⟩ := h
  exact post σ w rel (Ext.refl _)
theorem fs_continue (hk : C.kl = κ := by rfl) : FS X W C κ κn (.Continue pos) sCt := ps_continue.imp fun D' σ H h => by
  subst hk
  obtain ⟨ρ, w, rfl, rel, post⟩ := h
  exact post σ w rel (Ext.refl _)
end
end FN
set_option Elab.async false
set_option linter.all false
set_option maxRecDepth 100000
set_option maxHeartbeats 4000000
/-! FN6: targets, loops, the def's rule. -/
namespace FN
open PySem PySem.Spec PyProof.Rows L2
/-! ### a def by its body -/
def kin : List Kind → List V → List Kind
  | k :: ks, v :: vs => (match keepK k with | true => .fix v k | false => k) :: kin ks vs
  | _, _ => []
def runF (ks : List Kind) (kr : Kind) (n : Nat) (fb : Env → Option Fl) : M D := fun ρ => match fb (ρ ++ List.replicate n none) with
  | some (.ret d ρ') => some (.ok d (outs ks ρ'))
  | some (.nx ρ') => match kr with
    | .v _ => some (.ok .none (outs ks ρ'))
    | _ => none
  | some (.err c d ρ') => some (.err c d (outs ks ρ'))
  | _ => none
section
variable {K : PySem.W.Frag}
theorem slots_none {F H : Hp} {fp : FpS} : ∀ κl : List Kind, Slots K F H κl (List.replicate κl.length none) (List.replicate κl.length none) fp
  | [] => .nil
  | k :: κl => by
    rw [List.length_cons, List.replicate_succ, List.replicate_succ]
    exact .skip (slots_none κl)
theorem kin_cons {k : Kind} {v : V} {ks : List Kind} {vs : List V} : ∃ k', kin (k :: ks) (v :: vs) = k' :: kin ks vs ∧ (∀ (K : PySem.W.Frag) F H d fp, OD K F H k v d fp → OD K F H k' v d fp) ∧ (∀ u j, k' = .fix u j → (∀ u j, k ≠ .fix u j) → u = v) := by
  cases q : keepK k with
  | true => exact ⟨.fix v k, by show (match keepK k with | true => Kind.fix v k | false => k) :: kin ks vs = _; rw [q], fun _ _ _ _ _ h => h, fun u j e _ => by cases e; rfl⟩
  | false => exact ⟨k, by show (match keepK k with | true => Kind.fix v k | false => k) :: kin ks vs = _; rw [q], fun _ _ _ _ _ h => h, fun u j e n => absurd e (n u j)⟩
theorem slots_start {F H : Hp} (κl : List Kind) : ∀ {ks : List Kind} {vs : List V} {ρ : Env} {fp : FpS}, Slots K F H ks ρ (vs.map some) fp → Slots K F H (kin ks vs ++ κl) (ρ ++ List.replicate κl.length none) (vs.map some ++ List.replicate κl.length none) fp
  | [], [], _, _, .nil => slots_none κl
  | [], _ :: _, _, _, h => by cases h
  | _ :: _, [], _, _, h => by cases h
  | k :: ks, v :: vs, _, _, h => by
    obtain ⟨k', e, ho, _⟩ := kin_cons (k := k) (v := v) (ks := ks) (vs := vs)
    rw [e]
    cases h with
    | skip h => exact .skip (slots_start κl h)
    | cons o h d h1 h2 => exact .cons (ho _ _ _ _ _ o) (slots_start κl h) d h1 h2
theorem kin_fixed (κl : List Kind) (hl : noFixs κl) : ∀ {ks : List Kind} {vs : List V}, noFixs ks → ∀ (i : Nat) (u : V) (k : Kind), (kin ks vs ++ κl)[i]? = some (Kind.fix u k) → (vs.map some ++ List.replicate κl.length none)[i]? = some (some u)
  | [], vs, _, i, u, k, z => by
    rw [show kin [] vs = [] by cases vs <;> rfl, List.nil_append] at z
    exact absurd z (noFixs_ne hl i u k)
  | k0 :: ks, [], _, i, u, k, z => by
    rw [show kin (k0 :: ks) [] = [] by cases k0 <;> rfl, List.nil_append] at z
    exact absurd z (noFixs_ne hl i u k)
  | k0 :: ks, v :: vs, ⟨hn, r⟩, i, u, k, z => by
    obtain ⟨k', e, _, hu⟩ := kin_cons (k := k0) (v := v) (ks := ks) (vs := vs)
    rw [e] at z
    cases i with
    | zero =>
      simp only [List.cons_append, List.getElem?_cons_zero, Option.some.injEq] at z
      rw [hu u k z (nofix_ne hn)]
      rfl
    | succ i => simpa using kin_fixed κl hl (ks := ks) (vs := vs) r i u k (by simpa using z)
end
section
variable {P : Program} {w : World} {K : PySem.W.Frag} {mg : Str → Option Value} {base : Heap}
theorem run_body {X : Cx} {W : WX} {ks κl : List Kind} {kr : Kind} {fb : Env → Option Fl} {vs : List V} {H : Hp} {Q : VK} {E : XK} {σ : L2.St} {κn : List Kind} {x : Bool} (hn : noFixs ks) (hln : noFixs κl) (hσ : σ = vs.map some ++ List.replicate κl.length none) (hr : RetK ks vs κn)
    (hW : x = true → ∀ cls dx σ H, E cls dx H → W cls dx σ H) (h : spF X.K X.mg ks kr (if x = true then runF ks kr κl.length fb else noErr (runF ks kr κl.length fb)) vs H Q E) :
    tS (ctx X W) ⟨ks, vs, kr, [], none⟩ (kin ks vs ++ κl) κn fb { nx := fun _ H' => Q .non H', rt := Q } σ H := by
  obtain ⟨ρ, wd, rfl, rel, post⟩ := h
  subst hσ
  refine ⟨ρ ++ List.replicate κl.length none, wd, rfl, ⟨rel.same, rel.frz, rel.live, kin_fixed κl hln hn, slots_start κl rel.slots⟩, ?_⟩
  cases q : fb (ρ ++ List.replicate κl.length none) with
  | none =>
    cases x with
    | true =>
      rw [if_pos rfl] at post
      unfold runF at post
      rw [q] at post
      exact post
    | false =>
      rw [if_neg Bool.false_ne_true] at post
      unfold noErr runF at post
      rw [q] at post
      exact post
  | some o =>
    have key : ∀ d ρ', runF ks kr κl.length fb ρ = some (.ok d ρ') → ∀ v w', Rel X.K ks ρ' (vs.map some) w' → Ext wd w' → Temp X.K kr wd w' d v → Q v w'.H := fun d ρ' e => by
      cases x with
      | true =>
        rw [if_pos rfl, e] at post
        exact post
      | false =>
        rw [if_neg Bool.false_ne_true] at post
        unfold noErr at post
        rw [e] at post
        exact post
    cases o with
    | ret d ρ' => exact key d (outs ks ρ') (by unfold runF; rw [q])
    | nx ρ' =>
      cases kr with
      | v b =>
        have k2 := key .none (outs ks ρ') (by unfold runF; rw [q])
        exact fun σ' w' rel' e' => k2 .non w' (rel_ret (C := ⟨ks, vs, .v b, [], none⟩) hr rel' (noFixs_ne hn)) e' (Temp.imm .non)
      | lst k =>
        exfalso
        have e : runF ks (.lst k) κl.length fb ρ = none := by unfold runF; rw [q]
        cases x with
        | true => rw [if_pos rfl, e] at post; exact post
        | false => rw [if_neg Bool.false_ne_true] at post; unfold noErr at post; rw [e] at post; exact post
      | scr =>
        exfalso
        have e : runF ks .scr κl.length fb ρ = none := by unfold runF; rw [q]
        cases x with
        | true => rw [if_pos rfl, e] at post; exact post
        | false => rw [if_neg Bool.false_ne_true] at post; unfold noErr at post; rw [e] at post; exact post
      | fix u k =>
        exfalso
        have e : runF ks (.fix u k) κl.length fb ρ = none := by unfold runF; rw [q]
        cases x with
        | true => rw [if_pos rfl, e] at post; exact post
        | false => rw [if_neg Bool.false_ne_true] at post; unfold noErr at post; rw [e] at post; exact post
      | tok u =>
        exfalso
        have e : runF ks (.tok u) κl.length fb ρ = none := by unfold runF; rw [q]
        cases x with
        | true => rw [if_pos rfl, e] at post; exact post
        | false => rw [if_neg Bool.false_ne_true] at post; unfold noErr at post; rw [e] at post; exact post
      | exc a dx cls R =>
        exfalso
        have e : runF ks (.exc a dx cls R) κl.length fb ρ = none := by unfold runF; rw [q]
        cases x with
        | true => rw [if_pos rfl, e] at post; exact post
        | false => rw [if_neg Bool.false_ne_true] at post; unfold noErr at post; rw [e] at post; exact post
      | dT b =>
        exfalso
        have e : runF ks (.dT b) κl.length fb ρ = none := by unfold runF; rw [q]
        cases x with
        | true => rw [if_pos rfl, e] at post; exact post
        | false => rw [if_neg Bool.false_ne_true] at post; unfold noErr at post; rw [e] at post; exact post
      | dK b =>
        exfalso
        have e : runF ks (.dK b) κl.length fb ρ = none := by unfold runF; rw [q]
        cases x with
        | true => rw [if_pos rfl, e] at post; exact post
        | false => rw [if_neg Bool.false_ne_true] at post; unfold noErr at post; rw [e] at post; exact post
      | ext o =>
        exfalso
        have e : runF ks (.ext o) κl.length fb ρ = none := by unfold runF; rw [q]
        cases x with
        | true => rw [if_pos rfl, e] at post; exact post
        | false => rw [if_neg Bool.false_ne_true] at post; unfold noErr at post; rw [e] at post; exact post
    | bk ρ' =>
      exfalso
      have e : runF ks kr κl.length fb ρ = none := by unfold runF; rw [q]
      cases x with
      | true => rw [if_pos rfl, e] at post; exact post
      | false => rw [if_neg Bool.false_ne_true] at post; unfold noErr at post; rw [e] at post; exact post
    | ct ρ' =>
      exfalso
      have e : runF ks kr κl.length fb ρ = none := by unfold runF; rw [q]
      cases x with
      | true => rw [if_pos rfl, e] at post; exact post
      | false => rw [if_neg Bool.false_ne_true] at post; unfold noErr at post; rw [e] at post; exact post
    | err nm d ρ' =>
      have e : runF ks kr κl.length fb ρ = some (.err nm d (outs ks ρ')) := by unfold runF; rw [q]
      cases x with
      | true =>
        rw [if_pos rfl, e] at post
        exact fun cls dx σ' w' sm _ ex ea => hW rfl _ _ _ _ (post cls dx w' sm ex ea)
      | false =>
        rw [if_neg Bool.false_ne_true] at post
        unfold noErr at post
        rw [e] at post
        exact post.elim
/-- a def of the text that is known by its mirror -/
structure Kn (P : Program) (w : World) (K : PySem.W.Frag) (mg : Str → Option Value) (base : Heap) (CX : CXT) (k : Nat) (x : Str) (ps : List Str) (sp : Sp) : Prop where
  ex : ∃ (f : Addr) (fd : FuncData), FnOk P w K mg base CX k f fd ps sp ∧ mg x = some (.ref f) ∧ PySem.W.keepIn K (.ref f) = true ∧ Binds K fd ps [] ∧ ∃ (oc : Value) (od : Option Addr) (osl : Array (Option Value)), K.lookup f = some ⟨oc, od, .func fd, osl⟩
/-- where a def stands -/
structure At (K : PySem.W.Frag) (mg : Str → Option Value) (x : Str) (st : Stmt) (ps : List Str) : Prop where
  ex : ∃ (f : Addr) (fd : FuncData), Fun K x x st f fd ∧ mg x = some (.ref f) ∧ Binds K fd ps []
theorem fun_lk {x qual : Str} {st : Stmt} {f : Addr} {fd : FuncData} (F : Fun K x qual st f fd) : ∃ (oc : Value) (od : Option Addr) (osl : Array (Option Value)), K.lookup f = some ⟨oc, od, .func fd, osl⟩ := by
  obtain ⟨oc, od, kV, doc, pm, an, cdv, ct, osl, rfl, lk, hcd⟩ := F.ex
  exact ⟨oc, od, osl, lk⟩
/-- a def that raises nothing, by its mirror -/
theorem fn_ok0 {x : Str} {st : Stmt} {N ps : List Str} {k : Nat} {ks κl : List Kind} {kr : Kind} {fb : Env → Option Fl} (a : At K mg x st ps) (S : FnScope N ps (defScope st)) (hl : ks.length = ps.length) (hn : noFixs ks) (hln : noFixs κl) (hN : N.length = ps.length + κl.length)
    (hb : ∀ (f : Addr) (cdv : Value) (A : Around) (outer : List PySem.Env) (s : Shared) (H : Hp) (vs : List V) (E : XK), vs.length = ks.length → Room k (A.deeper (envOfC x (defScope st) s.heap.objs.size f cdv)) →
      ∃ κn, RetK ks vs κn ∧ FSs (cxOf CX0 P w K mg base N x (defScope st) f cdv A outer s H E).nox (fun _ _ _ _ => False) ⟨ks, vs, kr, [], none⟩ (kin ks vs ++ κl) κn (defBody st) fb) :
    Kn P w K mg base CX0 (k + 1) x ps (spF K mg ks kr (noErr (runF ks kr κl.length fb))) := by
  obtain ⟨f, fd, F, hm, bd⟩ := a.ex
  refine ⟨f, fd, F.ok S (fun vs H Q E h => (spF_len h).trans hl) (fun cdv A outer s H vs Q E hr h => ?_), hm, F.kp, bd, fun_lk F⟩
  obtain ⟨κn, hk, hbb⟩ := hb f cdv A outer s H vs E (spF_len h) hr
  refine ⟨_, hbb, run_body (X := (cxOf CX0 P w K mg base N x (defScope st) f cdv A outer s H E).nox) (x := false) (fb := fb) (E := E) hn hln ?_ hk (fun z => nomatch z) h⟩
  unfold L2.start
  rw [hN, spF_len h, hl, Nat.add_sub_cancel_left]
/-- a def that may raise -/
theorem fn_okX {x : Str} {st : Stmt} {N ps : List Str} {k : Nat} {ks κl : List Kind} {kr : Kind} {fb : Env → Option Fl} (a : At K mg x st ps) (S : FnScope N ps (defScope st)) (hl : ks.length = ps.length) (hn : noFixs ks) (hln : noFixs κl) (hN : N.length = ps.length + κl.length)
    (hb : ∀ (f : Addr) (cdv : Value) (A : Around) (outer : List PySem.Env) (s : Shared) (H : Hp) (vs : List V) (E : XK), vs.length = ks.length → Room k (A.deeper (envOfC x (defScope st) s.heap.objs.size f cdv)) →
      ∃ κn, RetK ks vs κn ∧ FSs (cxOf (L2.CX P w) P w K mg base N x (defScope st) f cdv A outer s H E) (fun cls d _ H => E cls d H) ⟨ks, vs, kr, [], none⟩ (kin ks vs ++ κl) κn (defBody st) fb) :
    Kn P w K mg base (L2.CX P w) (k + 1) x ps (spF K mg ks kr (runF ks kr κl.length fb)) := by
  obtain ⟨f, fd, F, hm, bd⟩ := a.ex
  refine ⟨f, fd, F.okX S (fun vs H Q E h => (spF_len h).trans hl) (fun cdv A outer s H vs Q E hr h => ?_), hm, F.kp, bd, fun_lk F⟩
  obtain ⟨κn, hk, hbb⟩ := hb f cdv A outer s H vs E (spF_len h) hr
  refine ⟨_, hbb, run_body (X := cxOf (L2.CX P w) P w K mg base N x (defScope st) f cdv A outer s H E) (x := true) (fb := fb) (E := E) hn hln ?_ hk (fun _ _ _ _ _ z => z) h⟩
  unfold L2.start
  rw [hN, spF_len h, hl, Nat.add_sub_cancel_left]
theorem Kn.mono {CX : CXT} {j k : Nat} {x : Str} {ps : List Str} {sp : Sp} (g : Kn P w K mg base CX j x ps sp) (h : j ≤ k) : Kn P w K mg base CX k x ps sp := by
  obtain ⟨f, fd, F, r⟩ := g.ex
  exact ⟨f, fd, F.mono h, r⟩
end
section
variable {X : Cx} {W : WX} {κ : List Kind} {pos p : Pos} {e : Expr} {es : List Expr} {fr : M (List D)} {ms : List Md} {ks : List Kind} {kr : Kind} {g : M D}
/-- f(e, ..) of a known def that raises nothing -/
theorem fe_fn {k : Nat} {ps : List Str} {x : Str} (G : Kn X.prog X.w X.K X.mg X.base CX0 k x ps (spF X.K X.mg ks kr (noErr g))) (hr : Room k X.A) (hf : Fits κ ms ks) (ha : FA X W κ ms (e :: es) fr) (hg : Gl X x := by rfl) (hdb : (x == ("__debug__" : Str)) = false := by decide)
    (he : starEach (e :: es) X.env = (false, eval e X.env) :: starEach es X.env := by rfl) (hpl : (backTo pos (starEach es X.env)).any (·.1) = false := by rfl) : FV X W κ (.t kr) (.Call (.Name x p) (e :: es) [] pos) (fCall ms (noErr g) fr) := by
  obtain ⟨f, fd, F, hm, hk, hb, _⟩ := G.ex
  exact fe_call F hr hg hm hk hb hf ha hdb he hpl
/-- .. that may raise -/
theorem fe_fnX {k : Nat} {ps : List Str} {x : Str} (G : Kn X.prog X.w X.K X.mg X.base (L2.CX X.prog X.w) k x ps (spF X.K X.mg ks kr g)) (tk : Takes X W) (hr : Room k X.A) (hf : Fits κ ms ks) (ha : FA X W κ ms (e :: es) fr) (hg : Gl X x := by rfl) (hdb : (x == ("__debug__" : Str)) = false := by decide)
    (he : starEach (e :: es) X.env = (false, eval e X.env) :: starEach es X.env := by rfl) (hpl : (backTo pos (starEach es X.env)).any (·.1) = false := by rfl) : FV X W κ (.t kr) (.Call (.Name x p) (e :: es) [] pos) (fCall ms g fr) := by
  obtain ⟨f, fd, F, hm, hk, hb, _⟩ := G.ex
  exact fe_callX F tk hr hg hm hk hb hf ha hdb he hpl
variable {C : FC} {κn : List Kind}
/-- x = e where the slot keeps its kind -/
theorem fs_setK {k : Kind} {i : Nat} {x : Str} {pos' : Pos} {fa : M D} (ha : FV X W κ (.t k) e fa) (hN : X.N.Nodup) (hk : κ[i]? = some k := by rfl) (hn : nofix k := by exact True.intro) (hi : X.N[i]? = some x := by rfl) (hx : Loc X.env.scope x := by first | exact .inl rfl | exact .inr rfl) (he : EK C κ := by first | exact .inl rfl | exact .inr rfl)
    (hs : swapsWith e (some (.Name x pos')) pos.line X.env = pure false := by rfl) (hf : X.fn x = true ∨ X.env.scope.names.lookup x = some .local := by first | exact .inl rfl | exact .inr rfl) : FS X W C κ κ (.Assign [.Name x pos'] e pos) (sSet i fa) := by
  have z := fs_set (κ := κ) (C := C) ha hN hi hx (List.getElem?_eq_some_iff.mp hk).1 hn he hs hf
  rw [set_same hk] at z
  exact z
end
/-! ### while -/
/-- one turn after the other, at most so many -/
def whN (t : M Bool) (b : Env → Option Fl) : Nat → Env → Option Fl
  | 0, _ => none
  | n + 1, ρ => bnd (t ρ) Fl.err fun c ρ1 => if c = true then match b ρ1 with
    | some (.nx ρ2) => whN t b n ρ2
    | some (.ct ρ2) => whN t b n ρ2
    | some (.bk ρ2) => some (.nx ρ2)
    | o => o
    else some (.nx ρ1)
theorem whN_more {t : M Bool} {b : Env → Option Fl} : ∀ {n : Nat} {ρ : Env} {r : Fl}, whN t b n ρ = some r → whN t b (n + 1) ρ = some r
  | 0, _, _, h => by
    unfold whN at h
    cases h
  | n + 1, ρ, r, h => by
    unfold whN at h ⊢
    unfold bnd at h ⊢
    split
    · rename_i c ρ1 e
      rw [e] at h
      dsimp only at h ⊢
      by_cases hc : c = true
      · rw [if_pos hc] at h ⊢
        split
        · rename_i ρ2 e2
          rw [e2] at h
          exact whN_more h
        · rename_i ρ2 e2
          rw [e2] at h
          exact whN_more h
        · rename_i ρ2 e2
          rw [e2] at h
          exact h
        · rename_i h1 h2 h3
          split at h
          · rename_i ρ2 e2
            exact absurd e2 (h1 ρ2)
          · rename_i ρ2 e2
            exact absurd e2 (h2 ρ2)
          · rename_i ρ2 e2
            exact absurd e2 (h3 ρ2)
          · exact h
      · rw [if_neg hc] at h ⊢
        exact h
    · rename_i e
      rw [e] at h
      exact h
    · rename_i e
      rw [e] at h
      exact h
theorem whN_le {t : M Bool} {b : Env → Option Fl} {n m : Nat} {ρ : Env} {r : Fl} (h : whN t b n ρ = some r) (l : n ≤ m) : whN t b m ρ = some r := by
  induction l with
  | refl => exact h
  | step _ ih => exact whN_more ih
open Classical in
noncomputable def sWh (t : M Bool) (b : Env → Option Fl) : Env → Option Fl := fun ρ => if h : ∃ n r, whN t b n ρ = some r then whN t b (choose h) ρ else none
theorem sWh_of {t : M Bool} {b : Env → Option Fl} {n : Nat} {ρ : Env} {r : Fl} (h : whN t b n ρ = some r) : sWh t b ρ = some r := by
  have ex : ∃ n r, whN t b n ρ = some r := ⟨n, r, h⟩
  unfold sWh
  rw [dif_pos ex]
  obtain ⟨r', h'⟩ := Classical.choose_spec ex
  have a := whN_le h' (Nat.le_max_left (Classical.choose ex) n)
  have b := whN_le h (Nat.le_max_right (Classical.choose ex) n)
  rw [a] at b
  rw [h', b]
theorem sWh_ex {t : M Bool} {b : Env → Option Fl} {ρ : Env} {r : Fl} (h : sWh t b ρ = some r) : ∃ n, whN t b n ρ = some r := by
  unfold sWh at h
  split at h
  · exact ⟨_, h⟩
  · cases h
theorem sWh_none {t : M Bool} {b : Env → Option Fl} {ρ : Env} (h : sWh t b ρ = none) : True := trivial
section
variable {X : Cx} {W : WX} {C : FC} {κ κ1 κn : List Kind} {st : Stmt} {rest : List Stmt} {f g : Env → Option Fl} {pos : Pos} {e : Expr} {fa : M D}
theorem fs_while {c : Expr} {t : M Bool} {body : List Stmt} (hp : PassesOwn (model X.prog X.w) X.A X.env X.xe) (hc : FT X W κ c t) (hb : FSs X W { C with kl := κ } κ κ body f) (he : EK C κ := by first | exact .inl rfl | exact .inr rfl) : FS X W C κ κ (.While c body [] pos) (sWh t f) := (ps_while hp hc hb).imp fun D' σ H h => by
  obtain ⟨ρ, w, rfl, rel, post⟩ := h
  cases q : sWh t f ρ with
  | none =>
    rw [q] at post
    exact post.elim
  | some r =>
    rw [q] at post
    obtain ⟨n, hn⟩ := sWh_ex q
    refine ⟨fun m σ H => ∃ ρ w1, w1.H = H ∧ Rel X.K κ ρ σ w1 ∧ Ext w w1 ∧ whN t f m ρ = some r, ⟨n, ρ, w, rfl, rel, Ext.refl _, hn⟩, ?_⟩
    rintro m σ _ ⟨ρ, w1, rfl, rel1, e1, hm⟩
    cases m with
    | zero =>
      unfold whN at hm
      cases hm
    | succ m =>
      unfold whN at hm
      refine seqT (P := fun o => o = some r) rel1 hm (fun z => nomatch z) (fun nm d ρ' z => ?_) fun b ρ2 w2 rel2 e2 h2 => ?_
      · cases z
        exact errS he (PostS.since post e1)
      · cases b with
        | false =>
          rw [if_neg Bool.false_ne_true] at h2 ⊢
          cases h2
          exact post σ w2 rel2 (e1.trans e2)
        | true =>
          rw [if_pos rfl] at h2 ⊢
          refine ⟨fun σ' H' => ∃ ρ3 w3, w3.H = H' ∧ Rel X.K κ ρ3 σ' w3 ∧ Ext w w3 ∧ whN t f m ρ3 = some r, fun σ' H' z => ⟨m, Nat.lt_succ_self _, z⟩, ρ2, w2, rfl, rel2, ?_⟩
          have e12 := e1.trans e2
          cases qb : f ρ2 with
          | none =>
            rw [qb] at h2
            cases h2
          | some o =>
            rw [qb] at h2
            cases o with
            | nx ρ3 => exact fun σ' w3 rel3 e3 => ⟨ρ3, w3, rfl, rel3, e12.trans e3, h2⟩
            | ct ρ3 => exact fun σ' w3 rel3 e3 => ⟨ρ3, w3, rfl, rel3, e12.trans e3, h2⟩
            | bk ρ3 =>
              cases h2
              exact fun σ' w3 rel3 e3 => post σ' w3 rel3 (e12.trans e3)
            | ret d ρ3 =>
              cases h2
              exact fun v w3 rel3 e3 t3 => post v w3 rel3 (e12.trans e3) (t3.since e12)
            | err nm d ρ3 =>
              cases h2
              exact fun cls dx σ' w3 sm r3 e3 ea => post cls dx σ' w3 sm r3 (e12.trans e3) ea
end
/-! ### targets -/
/-- the slots beside sl are as they were -/
def Upto (sl : List Nat) (σ σ' : L2.St) : Prop := σ'.length = σ.length ∧ ∀ j, j ∉ sl → σ'[j]? = σ[j]?
theorem Upto.refl (sl : List Nat) (σ : L2.St) : Upto sl σ σ := ⟨rfl, fun _ _ => rfl⟩
theorem Upto.trans {s1 s2 : List Nat} {σ σ1 σ2 : L2.St} (a : Upto s1 σ σ1) (b : Upto s2 σ1 σ2) : Upto (s1 ++ s2) σ σ2 := ⟨b.1.trans a.1, fun j h => (b.2 j fun z => h (List.mem_append_right _ z)).trans (a.2 j fun z => h (List.mem_append_left _ z))⟩
def tG (c : Ct) (b : Bool) (sl : List Nat) (κ κn : List Kind) (ft : D → Env → Option Env) : TG := fun v σ H Q => ∃ ρ w d, w.H = H ∧ Rel c.K κ ρ σ w ∧ RD b c.K w.F v d ∧ match ft d ρ with
  | some ρ' => ∀ σ' w', w'.H = w.H → Upto sl σ σ' → Rel c.K κn ρ' σ' w' → Ext w w' → Q σ' w'.H
  | none => False
def tGs (c : Ct) (b : Bool) (sl : List Nat) (κ κn : List Kind) (ft : List D → Env → Option Env) : TGs := fun vs σ H Q => ∃ ρ w ds, w.H = H ∧ Rel c.K κ ρ σ w ∧ RDs b c.K w.F vs ds ∧ match ft ds ρ with
  | some ρ' => ∀ σ' w', w'.H = w.H → Upto sl σ σ' → Rel c.K κn ρ' σ' w' → Ext w w' → Q σ' w'.H
  | none => False
def FG (X : Cx) (W : WX) (b : Bool) (sl : List Nat) (κ κn : List Kind) (e : Expr) (ft : D → Env → Option Env) : Prop := PG X e (tG (ctx X W) b sl κ κn ft)
def FGs (X : Cx) (W : WX) (b : Bool) (sl : List Nat) (κ κn : List Kind) (es : List Expr) (ft : List D → Env → Option Env) : Prop := PGs X es (tGs (ctx X W) b sl κ κn ft)
theorem _root_.L2.PG.imp {X : Cx} {e : Expr} {t t' : TG} (h : PG X e t) (i : ∀ v σ H Q, t' v σ H Q → t v σ H Q) : PG X e t' := ⟨fun pins s σ H v u Q I r q => h.run pins s σ H v u Q I r (i v σ H Q q)⟩
theorem _root_.L2.PGs.imp {X : Cx} {e : List Expr} {t t' : TGs} (h : PGs X e t) (i : ∀ v σ H Q, t' v σ H Q → t v σ H Q) : PGs X e t' := ⟨fun pins s σ H v u Q I r q => h.run pins s σ H v u Q I r (i v σ H Q q)⟩
section
variable {X : Cx} {W : WX} {C : FC} {b : Bool} {sl sl2 : List Nat} {κ κ1 κn : List Kind} {pos : Pos} {e : Expr} {es : List Expr}
def gNm (i : Nat) : D → Env → Option Env := fun d ρ => some (ρ.set i (some d))
theorem fg_name {i : Nat} {x : Str} (hN : X.N.Nodup) (hi : X.N[i]? = some x := by rfl) (hx : Loc X.env.scope x := by first | exact .inl rfl | exact .inr rfl) (hl : i < κ.length := by decide) (hf : X.fn x = true ∨ X.env.scope.names.lookup x = some .local := by first | exact .inl rfl | exact .inr rfl) : FG X W b [i] κ (κ.set i (.v b)) (.Name x pos) (gNm i) := (pg_name hN hi hx hf).imp fun v σ H Q h => by
  obtain ⟨ρ, w, d, rfl, rel, r, post⟩ := h
  obtain ⟨w2, eH, _, rel2, ex⟩ := rel_set (κ := κ) (k := .v b) (i := i) (w := w) rel (Temp.imm r) (by rw [← rel.slots.lengths.1]; exact hl) (fun _ _ z => nomatch z)
  show Q (σ.set i (some v)) w.H
  rw [← eH]
  exact post _ w2 eH ⟨List.length_set .., fun j h => List.getElem?_set_ne (fun z => h (by rw [z]; exact List.mem_singleton.mpr rfl))⟩ rel2 (ex (Ext.refl _))
theorem fg_nameK {i : Nat} {x : Str} (hN : X.N.Nodup) (hk : κ[i]? = some (.v b) := by rfl) (hi : X.N[i]? = some x := by rfl) (hx : Loc X.env.scope x := by first | exact .inl rfl | exact .inr rfl) (hf : X.fn x = true ∨ X.env.scope.names.lookup x = some .local := by first | exact .inl rfl | exact .inr rfl) : FG X W b [i] κ κ (.Name x pos) (gNm i) := by
  have z := fg_name (κ := κ) (b := b) (W := W) (pos := pos) hN hi hx (List.getElem?_eq_some_iff.mp hk).1 hf
  rw [set_same hk] at z
  exact z
def gsNil : List D → Env → Option Env := fun ds ρ => match ds with
  | [] => some ρ
  | _ => none
def gsCons (f : D → Env → Option Env) (g : List D → Env → Option Env) : List D → Env → Option Env := fun ds ρ => match ds with
  | d :: ds => (f d ρ).bind (g ds)
  | [] => none
theorem fgs_nil : FGs X W b [] κ κ [] gsNil := pgs_nil.imp fun vs σ H Q h => by
  obtain ⟨ρ, w, ds, rfl, rel, r, post⟩ := h
  cases r with
  | nil => exact ⟨rfl, post σ w rfl (Upto.refl _ _) rel (Ext.refl _)⟩
  | cons _ _ => exact post.elim
theorem fgs_cons {f : D → Env → Option Env} {g : List D → Env → Option Env} (h1 : FG X W b sl κ κ1 e f) (h2 : FGs X W b sl2 κ1 κn es g) (hs : (assignEach (e :: es) X.env).map (·.2) = assign e X.env :: (assignEach es X.env).map (·.2) := by rfl) : FGs X W b (sl ++ sl2) κ κn (e :: es) (gsCons f g) := (pgs_cons h1 h2 hs).imp fun vs σ H Q h => by
  obtain ⟨ρ, w, ds, rfl, rel, r, post⟩ := h
  cases r with
  | nil => exact post.elim
  | @cons v vs d ds r rs =>
    refine ⟨v, vs, rfl, ρ, w, d, rfl, rel, r, ?_⟩
    have post' : (match (f d ρ).bind (g ds) with
      | some ρ' => ∀ σ' w', w'.H = w.H → Upto (sl ++ sl2) σ σ' → Rel X.K κn ρ' σ' w' → Ext w w' → Q σ' w'.H
      | none => False) := post
    cases q : f d ρ with
    | none =>
      rw [q] at post'
      exact post'.elim
    | some ρ1 =>
      rw [q] at post'
      intro σ1 w1 eH u1 rel1 e1
      refine ⟨ρ1, w1, ds, rfl, rel1, rs.mono e1.same, ?_⟩
      have post2 : (match g ds ρ1 with
        | some ρ' => ∀ σ' w', w'.H = w.H → Upto (sl ++ sl2) σ σ' → Rel X.K κn ρ' σ' w' → Ext w w' → Q σ' w'.H
        | none => False) := post'
      cases q2 : g ds ρ1 with
      | none =>
        rw [q2] at post2
        exact post2.elim
      | some ρ2 =>
        rw [q2] at post2
        exact fun σ2 w2 eH2 u2 rel2 e2 => post2 σ2 w2 (eH2.trans eH) (u1.trans u2) rel2 (e1.trans e2)
def gTp (g : List D → Env → Option Env) : D → Env → Option Env := fun d ρ => match d with
  | .tuple ds => g ds ρ
  | _ => none
theorem fg_tup {g : List D → Env → Option Env} {k : Nat} {n : Nat} (hc : X.calm = true) (hl : ∀ ds ρ ρ', g ds ρ = some ρ' → ds.length = n) (h : FGs X W b sl κ κn es g) (hn : (assignEach es X.env).length = n := by rfl) (hst : (assignEach es X.env).findIdx? (·.1) = none := by rfl) : FG X W b sl κ κn (.Tuple es k pos) (gTp g) := (pg_tup hc h hn hst).imp fun v σ H Q h => by
  obtain ⟨ρ, w, d, rfl, rel, r, post⟩ := h
  have key : ∀ ds, d = .tuple ds → gTup X.K n (tGs (ctx X W) b sl κ κn g) v σ w.H Q := fun ds ed => by
    subst ed
    have post' : (match g ds ρ with
      | some ρ' => ∀ σ' w', w'.H = w.H → Upto sl σ σ' → Rel X.K κn ρ' σ' w' → Ext w w' → Q σ' w'.H
      | none => False) := post
    have q : ∃ ρ', g ds ρ = some ρ' := by
      cases y : g ds ρ with
      | none =>
        rw [y] at post'
        exact post'.elim
      | some ρ' => exact ⟨ρ', rfl⟩
    obtain ⟨ρ', q⟩ := q
    cases r with
    | tup h1 t1 => exact ⟨_, _, rfl, SqT.of (rel.same _ _ h1), by rw [t1.length]; exact hl _ _ _ q, ρ, w, ds, rfl, rel, t1, post⟩
    | con z h1 t1 => exact ⟨_, _, rfl, sameT rel.same h1, by rw [t1.length]; exact hl _ _ _ q, ρ, w, ds, rfl, rel, t1, post⟩
  cases d with
  | tuple ds => exact key ds rfl
  | none => exact post.elim
  | bool _ => exact post.elim
  | int _ => exact post.elim
  | str _ => exact post.elim
  | list _ => exact post.elim
  | dict _ => exact post.elim
theorem gs_len0 : ∀ ds ρ ρ', gsNil ds ρ = some ρ' → ds.length = 0 := fun ds ρ ρ' h => by
  cases ds with
  | nil => rfl
  | cons _ _ => cases h
theorem gs_lenS {f : D → Env → Option Env} {g : List D → Env → Option Env} {n : Nat} (h : ∀ ds ρ ρ', g ds ρ = some ρ' → ds.length = n) : ∀ ds ρ ρ', gsCons f g ds ρ = some ρ' → ds.length = n + 1 := fun ds ρ ρ' z => by
  cases ds with
  | nil => cases z
  | cons d ds =>
    have z' : (f d ρ).bind (g ds) = some ρ' := z
    cases q : f d ρ with
    | none => rw [q] at z'; cases z'
    | some ρ1 =>
      rw [q] at z'
      rw [List.length_cons, h ds ρ1 ρ' z']
/-- target = value -/
def sAsg (ft : D → Env → Option Env) (fa : M D) : Env → Option Fl := fun ρ => bnd (fa ρ) Fl.err fun d ρ1 => (ft d ρ1).map Fl.nx
theorem fs_asg {tg : Expr} {fa : M D} {ft : D → Env → Option Env} (ha : FV X W κ (.t (.v b)) e fa) (hg : FG X W b sl κ κn tg ft) (he : EK C κ := by first | exact .inl rfl | exact .inr rfl) (hs : swapsWithSole [tg] e pos.line X.env = pure false := by rfl) (hw : swappedStores [tg] e X.env = pure none := by rfl)
    (h1 : (assignEach [tg] X.env).map (·.2) = [assign tg X.env] := by rfl) : FS X W C κ κn (.Assign [tg] e pos) (sAsg ft fa) := (ps_asg ha hg hs hw h1).imp fun D' σ H h => by
  obtain ⟨ρ, w, rfl, rel, post⟩ := h
  refine seqV (P := PostS (ctx X W) C κn D' w) rel post (fun z => z) (fun n d ρ' z => errS he z) fun d ρ1 v w1 rel1 e1 t1 post1 => ?_
  refine ⟨ρ1, w1, d, rfl, rel1, Temp.rd t1, ?_⟩
  cases q : ft d ρ1 with
  | none =>
    rw [q] at post1
    exact post1.elim
  | some ρ2 =>
    rw [q] at post1
    exact fun σ' w' _ _ rel' e' => post1 σ' w' rel' (e1.trans e')
/-- a, b = x, y: two locals, no tuple is made -/
def sPar (i j : Nat) (fr : M (List D)) : Env → Option Fl := fun ρ => bnd (fr ρ) Fl.err fun ds ρ1 => match ds with
  | [d, e] => some (.nx ((ρ1.set i (some d)).set j (some e)))
  | _ => none
end
end FN
set_option Elab.async false
set_option linter.all false
set_option maxRecDepth 100000
set_option maxHeartbeats 4000000
/-! FN7: what is walked; for; comprehensions. -/
namespace FN
open PySem PySem.Spec PyProof.Rows L2
/-! ### walks -/
/-- J gives the data ds, one after the other, as long as what is frozen stands -/
def WalkD (b : Bool) (K : PySem.W.Frag) (J : It) (ds : List D) (F : Hp) : Prop := ∀ (i : Nat) (H : Hp), Same F H → (ds.length ≤ i → J.stop i H) ∧ ∀ d, ds[i]? = some d → J.go i H ∧ ∀ x H', J.yld i H x H' →
  (H' = H ∧ RD b K F x d) ∨ ∃ (T : Addr) (xs : List V) (es : List D), H T = none ∧ H' = upd H T (.tup xs) ∧ x = .ref T ∧ d = .tuple es ∧ RDs b K F xs es
def PostI (c : Ct) (b : Bool) (κ : List Kind) (σ : L2.St) (w : Wd) (R : It → Hp → Prop) : Option (Out (List D)) → Prop
  | some (.ok ds ρ) => ∀ w' J, Rel c.K κ ρ σ w' → Ext w w' → WalkD b c.K J ds w'.F → R J w'.H
  | some (.err n d ρ) => ErrOk c κ σ w n d ρ
  | none => False
def tI (c : Ct) (b : Bool) (κ : List Kind) (f : M (List D)) : TI := fun σ H R => ∃ ρ w, w.H = H ∧ Rel c.K κ ρ σ w ∧ PostI c b κ σ w R (f ρ)
def FI (X : Cx) (W : WX) (b : Bool) (κ : List Kind) (tg e : Expr) (f : M (List D)) : Prop := PI X tg e (tI (ctx X W) b κ f)
theorem _root_.L2.PI.imp {X : Cx} {tg e : Expr} {t t' : TI} (h : PI X tg e t) (i : ∀ σ H R, t' σ H R → t σ H R) : PI X tg e t' := ⟨fun pins s σ H R I q => h.run pins s σ H R I (i σ H R q)⟩
theorem seqI {c : Ct} {b : Bool} {κ : List Kind} {σ : L2.St} {w1 : Wd} {β : Type} {fa : M (List D)} {ρ : Env} {P : Option β → Prop} {e : Str → D → Env → β} {g : List D → Env → Option β} {R : It → Hp → Prop} (rel : Rel c.K κ ρ σ w1) (h : P (bnd (fa ρ) e g)) (hN : ¬ P none) (hE : ∀ n d ρ', P (some (e n d ρ')) → ErrOk c κ σ w1 n d ρ')
    (hR : ∀ ds ρ2 w2 J, Rel c.K κ ρ2 σ w2 → Ext w1 w2 → WalkD b c.K J ds w2.F → P (g ds ρ2) → R J w2.H) : tI c b κ fa σ w1.H R := by
  refine ⟨ρ, w1, rfl, rel, ?_⟩
  cases q : fa ρ with
  | none =>
    rw [q] at h
    exact hN h
  | some o =>
    rw [q] at h
    cases o with
    | ok d ρ2 => exact fun w2 J r2 e2 t2 => hR d ρ2 w2 J r2 e2 t2 h
    | err n d ρ2 => exact hE n d ρ2 h
theorem walk_list {b : Bool} {K : PySem.W.Frag} {F : Hp} {a : Addr} {xs : List V} {ds : List D} (h : SqL K F a xs) (r : RDs b K F xs ds) : WalkD b K (Itl K a) ds F := fun i H e => by
  have hq : SqL K H a xs := e.seq h
  refine ⟨fun l => ⟨xs, hq, by rw [r.length]; exact l⟩, fun d ed => ?_⟩
  obtain ⟨v, ev, rv⟩ := r.get ed
  refine ⟨⟨xs, v, hq, ev⟩, fun x H' y => ?_⟩
  obtain ⟨e1, y⟩ := y
  have := y xs hq
  rw [ev] at this
  cases this
  exact .inl ⟨e1, rv⟩
theorem walk_tup {b : Bool} {K : PySem.W.Frag} {F : Hp} {a : Addr} {xs : List V} {ds : List D} (h : SqT K F a xs) (r : RDs b K F xs ds) : WalkD b K (Itt K a) ds F := fun i H e => by
  have hq : SqT K H a xs := sameT e h
  refine ⟨fun l => ⟨xs, hq, by rw [r.length]; exact l⟩, fun d ed => ?_⟩
  obtain ⟨v, ev, rv⟩ := r.get ed
  refine ⟨⟨xs, v, hq, ev⟩, fun x H' y => ?_⟩
  obtain ⟨e1, y⟩ := y
  have := y xs hq
  rw [ev] at this
  cases this
  exact .inl ⟨e1, rv⟩
def chD (z : Str) : List D := z.cps.toList.map fun c => .str ⟨#[c]⟩
theorem walk_str {b : Bool} {K : PySem.W.Frag} {F : Hp} {z : Str} : WalkD b K (Its z) (chD z) F := fun i H _ => by
  refine ⟨fun l => (show z.cps.size ≤ i by simpa [chD] using l), fun d ed => ?_⟩
  unfold chD at ed
  rw [List.getElem?_map] at ed
  cases q : z.cps.toList[i]? with
  | none =>
    rw [q] at ed
    cases ed
  | some ch =>
    rw [q] at ed
    cases ed
    have q' : z.cps[i]? = some ch := by simpa using q
    refine ⟨(Array.getElem?_eq_some_iff.mp q').1, fun x H' y => ?_⟩
    obtain ⟨e1, c2, e2, e3⟩ := y
    rw [q'] at e2
    cases e2
    subst e3
    exact .inl ⟨e1, .str _⟩
theorem walk_range {b : Bool} {K : PySem.W.Frag} {F : Hp} {lo : Int} {n : Nat} : WalkD b K (Itr lo n) ((List.range n).map fun k => .int (lo + (k : Nat))) F := fun i H _ => by
  refine ⟨fun l => (show n ≤ i by simpa using l), fun d ed => ?_⟩
  rw [List.getElem?_map] at ed
  cases q : (List.range n)[i]? with
  | none =>
    rw [q] at ed
    cases ed
  | some j =>
    rw [q] at ed
    cases ed
    obtain ⟨hj, ej⟩ := List.getElem?_eq_some_iff.mp q
    rw [List.getElem_range] at ej
    subst ej
    refine ⟨(show i < n by simpa using hj), fun x H' y => ?_⟩
    obtain ⟨e1, e2⟩ := y
    subst e2
    exact .inl ⟨e1, .int _⟩
/-! ### a list, a tuple or a text, walked -/
def iAny (K : PySem.W.Frag) (tl : TE) : TI := fun σ H R => tl σ H fun x H1 => (∃ a xs, x = .ref a ∧ SqL K H1 a xs ∧ R (Itl K a) H1) ∨ (∃ a xs, x = .ref a ∧ SqT K H1 a xs ∧ R (Itt K a) H1) ∨ (∃ y, x = .str y ∧ R (Its y) H1)
theorem pi_any {X : Cx} {tg l : Expr} {tl : TE} (hl : PE X l tl) : PI X tg l (iAny X.K tl) := by
  constructor
  intro pins s σ H R I h
  refine thn (hl.run pins s σ H _ I h) (fun v s1 hh => ?_)
  obtain ⟨x, H1, I1, r1, q1⟩ := hh
  have new : ∀ (J : It) (tn : Nat → Heap → Prop) (o : Obj), Turn X.prog X.w X.K tg J [s1.heap.objs.size] s1.heap.objs.size tn → tn 0 (s1.heap.push o) → R J H1 → PIE X pins σ tg R (.ref s1.heap.objs.size) { s1 with heap := s1.heap.push o } := fun J tn o T st q => by
    refine ⟨_, [s1.heap.objs.size], tn, J, H1, rfl, I1.kept (t' := s1.toks) fun b ob e => (Heap.get?_push_of_some _ e), T, st, fun b hb => ?_, q⟩
    rw [List.mem_singleton.mp hb]
    exact I1.fpOk (Nat.le_refl _) (I1.hok.fresh (Nat.le_refl _))
  rcases q1 with ⟨a, xs, rfl, hq, q⟩ | ⟨a, xs, rfl, hq, q⟩ | ⟨y, rfl, q⟩
  · cases r1
    obtain ⟨its, _, p, _⟩ := I1.list hq
    exact wpAny_pyIter_list p.isList (new _ _ _ (turn_list a _) ⟨_, Heap.get?_push_size _ rfl, rfl, rfl⟩ q)
  · cases r1
    obtain ⟨its, _, p, _⟩ := I1.tuple hq
    exact wpAny_pyIter_tuple (show s1.heap.IsTuple a its.toArray from p) (new _ _ _ (turn_tuple a _) ⟨_, Heap.get?_push_size _ rfl, rfl, rfl⟩ q)
  · obtain ⟨t, rfl⟩ := r1
    cases ha : y.cps.all (· < 128)
    · exact wpAny_pyIter_wide ha (pi_one (tk := s1.toks) I1 _ (turn_str _ y t "str_iterator" (.inr rfl)) ⟨_, Heap.get?_push_size _ rfl, rfl, rfl⟩ q)
    · exact wpAny_pyIter_ascii ha (pi_one (tk := s1.toks) I1 _ (turn_str _ y t "str_ascii_iterator" (.inl rfl)) ⟨_, Heap.get?_push_size _ rfl, rfl, rfl⟩ q)
def iSeq (fa : M D) : M (List D) := fun ρ => bdo (fa ρ) fun x ρ1 => match x with
  | .list ds => some (.ok ds ρ1)
  | .tuple ds => some (.ok ds ρ1)
  | .str z => some (.ok (chD z) ρ1)
  | _ => none
section
variable {X : Cx} {W : WX} {C : FC} {b : Bool} {κ κ1 κn : List Kind} {pos p : Pos} {tg e a : Expr} {fa fb : M D} {m ma mb : Md}
theorem fi_seq (ha : FV X W κ (.t (.v b)) e fa) : FI X W b κ tg e (iSeq fa) := (pi_any ha).imp fun σ H R h => by
  obtain ⟨ρ, w, rfl, rel, post⟩ := h
  refine seqV (P := PostI (ctx X W) b κ σ w R) rel post (fun z => z) (fun n d ρ' z => z) fun d ρ1 v w1 rel1 e1 t1 post1 => ?_
  have r := Temp.rd t1
  split at post1
  · cases r with
    | lst h1 rs => exact .inl ⟨_, _, rfl, SqL.of (rel1.same _ _ h1), post1 w1 _ rel1 e1 (walk_list (SqL.of h1) rs)⟩
  · cases r with
    | tup h1 rs => exact .inr (.inl ⟨_, _, rfl, SqT.of (rel1.same _ _ h1), post1 w1 _ rel1 e1 (walk_tup (SqT.of h1) rs)⟩)
    | con z h1 rs => exact .inr (.inl ⟨_, _, rfl, sameT rel1.same h1, post1 w1 _ rel1 e1 (walk_tup h1 rs)⟩)
  · exact .inr (.inr ⟨_, dp_str r.dp, post1 w1 _ rel1 e1 walk_str⟩)
  · exact post1.elim
/-- the script, walked -/
def iScr (i : Nat) : M (List D) := fun ρ => match ρ[i]? with
  | some (some (.list ds)) => some (.ok ds ρ)
  | _ => none
theorem fi_str (ha : FV X W κ (.t (.v b)) e fa) : FI X W b κ tg e (fun ρ => bdo (fa ρ) fun x ρ1 => match x with
  | .str z => some (.ok (chD z) ρ1)
  | _ => none) := (pi_str ha).imp fun σ H R h => by
  obtain ⟨ρ, w, rfl, rel, post⟩ := h
  refine seqV (P := PostI (ctx X W) b κ σ w R) rel post (fun z => z) (fun n d ρ' z => z) fun d ρ1 v w1 rel1 e1 t1 post1 => ?_
  have r := Temp.rd t1
  split at post1
  · exact ⟨_, dp_str r.dp, post1 w1 _ rel1 e1 walk_str⟩
  · exact post1.elim
/-! ### range -/
def rgD (i j : Int) : List D := (List.range (j - i).toNat).map fun k => .int (i + (k : Nat))
def okR (i : Int) : Bool := decide (-(2 ^ 62) ≤ i ∧ i < 2 ^ 62)
def iRg1 (m : Md) (fa : M D) : M (List D) := fun ρ => bdo (fa ρ) fun x ρ1 => match rd m x ρ1 with
  | some (.int j) => if okR j = true then some (.ok (rgD 0 j) ρ1) else none
  | _ => none
theorem fi_range1 (hg : Gl X "range") (hm : X.mg "range" = none) (ha : FV X W κ m a fa) (hp : starEach (a :: []) X.env = (false, eval a X.env) :: starEach [] X.env := by rfl) (hs : starEach [a] X.env = [(false, eval a X.env)] := by rfl) : FI X W b κ tg (.Call (.Name "range" p) [a] [] pos) (iRg1 m fa) := (pi_range1 hg hm (pa_cons ha pa_nil hp) hs).imp fun σ H R h => by
  obtain ⟨ρ, w, rfl, rel, post⟩ := h
  refine seqV (P := PostI (ctx X W) b κ σ w R) rel post (fun z => z) (fun n d ρ' z => z) fun d ρ1 v w1 rel1 e1 t1 post1 => ?_
  split at post1
  · rename_i j ej
    split at post1
    · rename_i hok
      obtain ⟨h1, h2⟩ : -(2 ^ 62) ≤ j ∧ j < 2 ^ 62 := of_decide_eq_true hok
      have ev := dp_int (rd_dp rel1 t1 ej)
      subst ev
      refine ⟨j, rfl, h1, h2, post1 w1 _ rel1 e1 ?_⟩
      have := walk_range (b := b) (K := X.K) (F := w1.F) (lo := 0) (n := j.toNat)
      unfold rgD
      rw [Int.sub_zero]
      exact this
    · exact post1.elim
  · exact post1.elim
def iRg2 (ma mb : Md) (fa fb : M D) : M (List D) := fun ρ => bdo (fa ρ) fun x ρ1 => bdo (fb ρ1) fun y ρ2 => match rd ma x ρ2, rd mb y ρ2 with
  | some (.int i), some (.int j) => if okR i && okR j then some (.ok (rgD i j) ρ2) else none
  | _, _ => none
theorem fi_range2 {a' : Expr} (hg : Gl X "range") (hm : X.mg "range" = none) (ha : FV X W κ ma a fa) (hb : FV X W κ mb a' fb) (hp : starEach (a :: [a']) X.env = (false, eval a X.env) :: starEach [a'] X.env := by rfl) (hp2 : starEach (a' :: []) X.env = (false, eval a' X.env) :: starEach [] X.env := by rfl)
    (hs : starEach [a, a'] X.env = [(false, eval a X.env), (false, eval a' X.env)] := by rfl) (hs2 : starEach [a'] X.env = [(false, eval a' X.env)] := by rfl) : FI X W b κ tg (.Call (.Name "range" p) [a, a'] [] pos) (iRg2 ma mb fa fb) := (pi_range2 hg hm (pa_cons ha (pa_cons hb pa_nil hp2) hp) hs hs2).imp fun σ H R h => by
  obtain ⟨ρ, w, rfl, rel, post⟩ := h
  refine seqV (P := PostI (ctx X W) b κ σ w R) rel post (fun z => z) (fun n d ρ' z => z) fun dx ρ1 vx w1 rel1 e1 t1 post1 => ?_
  refine seqV (P := PostI (ctx X W) b κ σ w R) rel1 post1 (fun z => z) (fun n d ρ' z => ErrOk.since z e1) fun dy ρ2 vy w2 rel2 e2 t2 post2 => ?_
  split at post2
  · rename_i i j ei ej
    split at post2
    · rename_i hok
      rw [Bool.and_eq_true] at hok
      obtain ⟨h1, h2⟩ : -(2 ^ 62) ≤ i ∧ i < 2 ^ 62 := of_decide_eq_true hok.1
      obtain ⟨h3, h4⟩ : -(2 ^ 62) ≤ j ∧ j < 2 ^ 62 := of_decide_eq_true hok.2
      have ex := dp_int (rd_dp rel2 (t1.keep e2) ei)
      have ey := dp_int (rd_dp rel2 t2 ej)
      subst ex ey
      exact ⟨i, j, rfl, ⟨h1, h2, h3, h4⟩, post2 w2 _ rel2 (e1.trans e2) walk_range⟩
    · exact post2.elim
  · exact post2.elim
/-! ### for -/
/-- what a turn yields, in the world behind -/
theorem world_yield {K : PySem.W.Frag} {J : It} {ds : List D} {i : Nat} {d : D} {x : V} {H' : Hp} {ρ : Env} {σ : L2.St} {w : Wd} {F0 : Hp} (wk : WalkD b K J ds F0) (s0 : Same F0 w.F) (rel : Rel K κ ρ σ w) (ed : ds[i]? = some d) (y : J.yld i w.H x H') :
    ∃ w', w'.H = H' ∧ Rel K κ ρ σ w' ∧ Ext w w' ∧ RD b K w'.F x d := by
  obtain ⟨_, h⟩ := wk i w.H (s0.trans rel.same)
  rcases (h d ed).2 x H' y with ⟨rfl, r⟩ | ⟨T, xs, es, nT, rfl, rfl, rfl, rs⟩
  · exact ⟨w, rfl, rel, Ext.refl _, r.mono s0⟩
  · obtain ⟨w2, eH, eF, rel2, e2⟩ := world_new (o := .tup xs) rel nT
    exact ⟨w2, eH, rel2, e2, .tup (by rw [eF, upd_same]) ((rs.mono s0).mono e2.same)⟩
def forL (ft : D → Env → Option Env) (f : Env → Option Fl) : List D → Env → Option Fl
  | [], ρ => some (.nx ρ)
  | d :: ds, ρ => match ft d ρ with
    | some ρ1 => (match f ρ1 with
      | some (.nx ρ2) => forL ft f ds ρ2
      | some (.ct ρ2) => forL ft f ds ρ2
      | some (.bk ρ2) => some (.nx ρ2)
      | o => o)
    | none => none
def sFor (fi : M (List D)) (ft : D → Env → Option Env) (f : Env → Option Fl) : Env → Option Fl := fun ρ => bnd (fi ρ) Fl.err fun ds ρ1 => forL ft f ds ρ1
theorem fs_for {body : List Stmt} {fi : M (List D)} {ft : D → Env → Option Env} {f : Env → Option Fl} (hp : PassesOwn (model X.prog X.w) X.A X.env X.xe) (hc : X.calm = true) (hi : FI X W b κ tg e fi) {sl : List Nat} (hg : FG X W b sl κ κ tg ft) (hb : FSs X W { C with kl := κ } κ κ body f) (he : EK C κ := by first | exact .inl rfl | exact .inr rfl)
    (hs : ∀ x, foldedSetIterable e X.env x = pure x := by intro _; rfl) : FS X W C κ κ (.For tg e body [] pos) (sFor fi ft f) := (ps_for hp hc hi hg hb hs).imp fun D' σ H h => by
  obtain ⟨ρ, w, rfl, rel, post⟩ := h
  refine seqI (P := PostS (ctx X W) C κ D' w) rel post (fun z => z) (fun n d ρ' z => errS he z) fun ds ρ1 w1 J rel1 e1 wk post1 => ?_
  refine ⟨fun i m σ H => ∃ ρ w2, w2.H = H ∧ Rel X.K κ ρ σ w2 ∧ Ext w w2 ∧ Same w1.F w2.F ∧ m = ds.length - i ∧ PostS (ctx X W) C κ D' w (forL ft f (ds.drop i) ρ), ⟨ds.length, ρ1, w1, rfl, rel1, e1, Same.refl _, rfl, post1⟩, ?_⟩
  rintro i m σ _ ⟨ρ, w2, rfl, rel2, e2, s2, rfl, post2⟩
  have wk2 := wk i w2.H (s2.trans rel2.same)
  by_cases hi : i < ds.length
  · have ed : ds[i]? = some ds[i] := List.getElem?_eq_getElem hi
    rw [List.drop_eq_getElem_cons hi] at post2
    unfold forL at post2
    cases q : ft ds[i] ρ with
    | none =>
      rw [q] at post2
      exact post2.elim
    | some ρ3 =>
      rw [q] at post2
      refine .inr ⟨(wk2.2 _ ed).1, fun σ' H' => ∃ ρ w3, w3.H = H' ∧ Rel X.K κ ρ σ' w3 ∧ Ext w w3 ∧ Same w1.F w3.F ∧ PostS (ctx X W) C κ D' w (forL ft f (ds.drop (i + 1)) ρ), fun σ' H' z => ?_, fun x H' y => ?_⟩
      · obtain ⟨ρ, w3, z1, z2, z3, z4, z5⟩ := z
        exact ⟨ds.length - (i + 1), by omega, ρ, w3, z1, z2, z3, z4, rfl, z5⟩
      · obtain ⟨w3, eH, rel3, e3, r3⟩ := world_yield wk s2 rel2 ed y
        subst eH
        refine ⟨ρ, w3, ds[i], rfl, rel3, r3, ?_⟩
        rw [q]
        intro σ4 w4 eH4 _ rel4 e4
        have e24 := (e2.trans e3).trans e4
        have s24 := (s2.trans e3.same).trans e4.same
        refine ⟨ρ3, w4, rfl, rel4, ?_⟩
        dsimp only at post2
        cases qb : f ρ3 with
        | none =>
          rw [qb] at post2
          exact post2
        | some o =>
          rw [qb] at post2
          cases o with
          | nx ρ5 => exact fun σ' w5 rel5 e5 => ⟨ρ5, w5, rfl, rel5, e24.trans e5, s24.trans e5.same, post2⟩
          | ct ρ5 => exact fun σ' w5 rel5 e5 => ⟨ρ5, w5, rfl, rel5, e24.trans e5, s24.trans e5.same, post2⟩
          | bk ρ5 => exact fun σ' w5 rel5 e5 => post2 σ' w5 rel5 (e24.trans e5)
          | ret d ρ5 => exact fun v w5 rel5 e5 t5 => post2 v w5 rel5 (e24.trans e5) (t5.since e24)
          | err nm d ρ5 => exact fun cls dx σ' w5 sm r5 e5 ea => post2 cls dx σ' w5 sm r5 (e24.trans e5) ea
  · rw [List.drop_eq_nil_of_le (by omega)] at post2
    exact .inl ⟨wk2.1 (by omega), post2 σ w2 rel2 e2⟩
end
/-! ### comprehensions -/
section
variable {K : PySem.W.Frag} {F H : Hp}
def wipeE (ρ : Env) : List Nat → Env
  | [] => ρ
  | v :: vs => (wipeE ρ vs).set v none
theorem slots_wipe {κ : List Kind} {ρ : Env} {σ : L2.St} {fp : FpS} (h : Slots K F H κ ρ σ fp) : ∀ i : Nat, Slots K F H κ (ρ.set i none) (σ.set i none) fp := by
  induction h with
  | nil => exact fun i => .nil
  | skip t ih =>
    intro i
    cases i with
    | zero => exact .skip t
    | succ i => exact .skip (ih i)
  | cons r t dj h1 h2 ih =>
    intro i
    cases i with
    | zero => exact .skip (t.mono h2)
    | succ i => exact .cons r (ih i) dj h1 h2
theorem slots_wipes {κ : List Kind} {ρ : Env} {σ : L2.St} {fp : FpS} (h : Slots K F H κ ρ σ fp) : ∀ vs : List Nat, Slots K F H κ (wipeE ρ vs) (wipe σ vs) fp
  | [] => h
  | v :: vs => slots_wipe (slots_wipes h vs) v
theorem slots_unwipe {κ : List Kind} {ρ : Env} {σ' : L2.St} {fp : FpS} (h : Slots K F H κ ρ σ' fp) : ∀ {i : Nat} {σ : L2.St}, σ'.length = σ.length → (∀ j, j ≠ i → σ'[j]? = σ[j]?) → Slots K F H κ (ρ.set i none) σ fp := by
  induction h with
  | nil =>
    intro i σ hl _
    cases σ with
    | nil => exact .nil
    | cons _ _ => simp at hl
  | @skip k κ ρ o σ0 fp t ih =>
    intro i σ hl hj
    cases σ with
    | nil => simp at hl
    | cons o' σ =>
      cases i with
      | zero =>
        have : σ0 = σ := List.ext_getElem? fun j => by simpa using hj (j + 1) (by omega)
        subst this
        exact .skip t
      | succ i => exact .skip (ih (by simpa using hl) fun j hne => by simpa using hj (j + 1) (by omega))
  | @cons k κ d ρ v σ0 f g fp r t dj h1 h2 ih =>
    intro i σ hl hj
    cases σ with
    | nil => simp at hl
    | cons o' σ =>
      cases i with
      | zero =>
        have : σ0 = σ := List.ext_getElem? fun j => by simpa using hj (j + 1) (by omega)
        subst this
        exact .skip (t.mono h2)
      | succ i =>
        have e0 := hj 0 (by omega)
        simp only [List.getElem?_cons_zero, Option.some.injEq] at e0
        subst e0
        exact .cons r (ih (by simpa using hl) fun j hne => by simpa using hj (j + 1) (by omega)) dj h1 h2
theorem slots_unwipes {κ : List Kind} : ∀ {vs : List Nat} {ρ : Env} {σ : L2.St} {fp : FpS}, Slots K F H κ ρ (wipe σ vs) fp → Slots K F H κ (wipeE ρ vs) σ fp
  | [], _, _, _, h => h
  | v :: vs, ρ, σ, fp, h => by
    -- the last one first
    have h' : Slots K F H κ (ρ.set v none) (wipe σ vs) fp := slots_unwipe (i := v) h (by show ((wipe σ vs).set v none).length = _; rw [List.length_set]) fun j hj => by
      show ((wipe σ vs).set v none)[j]? = _
      rw [List.getElem?_set_ne (Ne.symm hj)]
    have q := slots_unwipes h'
    have e : ∀ (vs : List Nat) (ρ : Env), wipeE (ρ.set v none) vs = (wipeE ρ vs).set v none := by
      intro vs
      induction vs with
      | nil => intro ρ; rfl
      | cons u us ih =>
        intro ρ
        show (wipeE (ρ.set v none) us).set u none = ((wipeE ρ us).set u none).set v none
        rw [ih]
        by_cases huv : u = v
        · rw [huv]
        · rw [List.set_comm _ _ (Ne.symm huv)]
    rw [e] at q
    exact q
theorem wipe_get (σ : L2.St) : ∀ (vs : List Nat) (i : Nat), (wipe σ vs)[i]? = if i ∈ vs then (if i < σ.length then some none else none) else σ[i]?
  | [], i => by simp [wipe]
  | v :: vs, i => by
    show ((wipe σ vs).set v none)[i]? = _
    by_cases h : v = i
    · subst h
      rw [if_pos (List.mem_cons_self ..)]
      by_cases hl : v < σ.length
      · rw [if_pos hl, List.getElem?_set_self (by rw [wipe_length]; exact hl)]
      · rw [if_neg hl, List.getElem?_eq_none (by rw [List.length_set, wipe_length]; omega)]
    · rw [List.getElem?_set_ne h, wipe_get σ vs i]
      by_cases hm : i ∈ vs
      · rw [if_pos hm, if_pos (List.mem_cons_of_mem _ hm)]
      · rw [if_neg hm, if_neg (fun z => (List.mem_cons.mp z).elim (fun y => h y.symm) hm)]
theorem wipe_upto {σ σ' : L2.St} {sl vs : List Nat} (u : Upto sl (wipe σ vs) σ') (h : ∀ i ∈ sl, i ∈ vs) : wipe σ' vs = wipe σ vs := List.ext_getElem? fun i => by
  have hl : σ'.length = σ.length := by rw [u.1, wipe_length]
  rw [wipe_get, wipe_get, hl]
  by_cases hm : i ∈ vs
  · rw [if_pos hm, if_pos hm]
  · rw [if_neg hm, if_neg hm, u.2 i fun z => hm (h i z), wipe_get, if_neg hm]
end
/-- none of the slots is a changed parameter -/
def nfAt (κ : List Kind) : List Nat → Prop
  | [] => True
  | i :: vs => (match κ[i]? with | some (.fix _ _) => False | _ => True) ∧ nfAt κ vs
theorem nfAt_ne {κ : List Kind} : ∀ {vs : List Nat}, nfAt κ vs → ∀ i ∈ vs, ∀ (u : V) (k : Kind), κ[i]? ≠ some (Kind.fix u k)
  | [], _, i, hi, _, _, _ => by simp at hi
  | v :: vs, ⟨h, r⟩, i, hi, u, k, e => by
    rcases List.mem_cons.mp hi with z | z
    · subst z
      rw [e] at h
      exact h
    · exact nfAt_ne r i z u k e
theorem rel_wipe {K : PySem.W.Frag} {κ : List Kind} {ρ : Env} {σ : L2.St} {w : Wd} {vs : List Nat} (hv : nfAt κ vs) (rel : Rel K κ ρ σ w) : Rel K κ (wipeE ρ vs) (wipe σ vs) w :=
  ⟨rel.same, rel.frz, rel.live, fun i u k e => by
    rw [wipe_get, if_neg fun z => nfAt_ne hv i z u k e]
    exact rel.fixed i u k e, slots_wipes rel.slots vs⟩
theorem rel_unwipe {K : PySem.W.Frag} {κ : List Kind} {ρ : Env} {σ : L2.St} {w : Wd} {vs : List Nat} (hf : ∀ (i : Nat) (u : V) (k : Kind), κ[i]? = some (Kind.fix u k) → σ[i]? = some (some u)) (rel : Rel K κ ρ (wipe σ vs) w) : Rel K κ (wipeE ρ vs) σ w :=
  ⟨rel.same, rel.frz, rel.live, hf, slots_unwipes rel.slots⟩
/-- an owned list is frozen -/
theorem temp_freeze {K : PySem.W.Frag} {b : Bool} {κ : List Kind} {ρ : Env} {σ : L2.St} {w w1 : Wd} {d : D} {v : V} (rel : Rel K κ ρ σ w1) (e : Ext w w1) (t : Temp K (.lst (.v b)) w w1 d v) : ∃ w2, w2.H = w1.H ∧ Rel K κ ρ σ w2 ∧ Ext w w2 ∧ Temp K (.v b) w w2 d v := by
  obtain ⟨g, ⟨a, vs, ds, g', rfl, rfl, eH, ga, _, _, od⟩, cg⟩ := t
  obtain ⟨c1, c2, c3, c4⟩ := cg a ga
  have sF : Same w1.F (upd w1.F a (.lst vs)) := fun x o q => by rw [upd_ne (ne_of_none q c2)]; exact q
  have ne : ∀ x, w1.fp x → x ≠ a := fun x h z => c1 (by rw [← z]; exact h)
  refine ⟨⟨upd w1.F a (.lst vs), w1.H, w1.fp⟩, rfl, ⟨fun x o q => ?_, fun x h => ?_, rel.live, rel.fixed, rel.slots.frame sF fun _ _ _ h => h⟩, ⟨e.same.trans sF, fun x o q => ?_, e.keep, e.fp⟩, Temp.imm (.lst upd_same ((odl_rds od).mono sF))⟩
  · have q' : upd w1.F a (.lst vs) x = some o := q
    by_cases hx : x = a
    · rw [hx, upd_same] at q'
      cases q'
      show w1.H x = _
      rw [hx]
      exact eH
    · rw [upd_ne hx] at q'
      exact rel.same x o q'
  · show upd w1.F a (.lst vs) x = none
    rw [upd_ne (ne x h)]
    exact rel.frz x h
  · have q' : upd w1.F a (.lst vs) x = some o := q
    by_cases hx : x = a
    · rw [hx]
      exact .inr c4
    · rw [upd_ne hx] at q'
      exact e.new x o q'
theorem fin_temp {c : Ct} {b : Bool} {k : Kind} {κ : List Kind} {ρ : Env} {σ : L2.St} {w w1 : Wd} {d : D} {v : V} {Q : VK} (hk : newL b k) (h : PostV c κ σ (.t k) w Q (some (.ok d ρ))) (rel : Rel c.K κ ρ σ w1) (e : Ext w w1) (t : Temp c.K (.lst (.v b)) w w1 d v) : Q v w1.H := by
  cases k with
  | v c' =>
    cases hk
    obtain ⟨w2, eH, rel2, e2, t2⟩ := temp_freeze rel e t
    rw [← eH]
    exact h v w2 rel2 e2 t2
  | lst k =>
    cases k with
    | v c' =>
      cases hk
      exact h v w1 rel e t
    | lst _ => exact hk.elim
    | _ => exact hk.elim
  | _ => exact hk.elim
abbrev W0 : WX := fun _ _ _ _ => False
structure FTs (X : Cx) (κ : List Kind) (ifs : List Expr) (f : M Bool) : Prop where
  h : PTs X ifs (tT (ctx X W0) κ f)
theorem _root_.L2.PTs.imp {X : Cx} {e : List Expr} {t t' : TT} (h : PTs X e t) (i : ∀ σ H Q, t' σ H Q → t σ H Q) : PTs X e t' := ⟨fun pins s σ H Q I q => h.run pins s σ H Q I (i σ H Q q)⟩
def tYesF : M Bool := fun ρ => some (.ok true ρ)
section
variable {X : Cx} {W : WX} {C : FC} {b : Bool} {κ κ1 κn : List Kind} {pos p : Pos} {tg e a : Expr} {fa fb : M D} {m ma mb : Md}
theorem fts_nil : FTs X κ [] tYesF := ⟨pts_nil.imp fun σ H Q h => by
  obtain ⟨ρ, w, rfl, rel, post⟩ := h
  exact post w rel (Ext.refl _)⟩
theorem fts_one {t : M Bool} (h : FT X W0 κ a t) : FTs X κ [a] t := ⟨pts_one h⟩
def compL (vs : List Nat) (ft : D → Env → Option Env) (tt : M Bool) (fe : M D) : List D → List D → Env → Option (Out (List D))
  | [], acc, ρ => some (.ok acc (wipeE ρ vs))
  | d :: ds, acc, ρ => match ft d (wipeE ρ vs) with
    | some ρ1 => (match tt ρ1 with
      | some (.ok true ρ2) => (match fe ρ2 with
        | some (.ok y ρ3) => if acc.length < sizeLine then compL vs ft tt fe ds (acc ++ [y]) (wipeE ρ3 vs) else none
        | _ => none)
      | some (.ok false ρ2) => compL vs ft tt fe ds acc (wipeE ρ2 vs)
      | _ => none)
    | none => none
def fLc (vs : List Nat) (fi : M (List D)) (ft : D → Env → Option Env) (tt : M Bool) (fe : M D) : M D := fun ρ => bdo (fi ρ) fun ds ρ1 => bdo (compL vs ft tt fe ds [] ρ1) fun r ρ2 => some (.ok (.list r) ρ2)
theorem temp_app {K : PySem.W.Frag} {κ : List Kind} {ρ : Env} {σ : L2.St} {w1 w2 : Wd} {L : Addr} {acc : List V} {ds : List D} {y : V} {d : D} (rel : Rel K κ ρ σ w2) (e : Ext w1 w2) (nL : w1.H L = none) (t : Temp K (.lst (.v b)) w1 w2 (.list ds) (.ref L)) (ha : w2.H L = some (.lst acc)) (ry : RD b K w2.F y d) :
    ∃ w3, w3.H = upd w2.H L (.lst (acc ++ [y])) ∧ w3.F = w2.F ∧ Rel K κ ρ σ w3 ∧ Ext w1 w3 ∧ Temp K (.lst (.v b)) w1 w3 (.list (ds ++ [d])) (.ref L) := by
  obtain ⟨g, ⟨a, vs, ds', g', ea, ed, eH, ga, _, _, od⟩, cg⟩ := t
  cases ea
  cases ed
  rw [ha] at eH
  cases eH
  obtain ⟨c1, c2, c3, c4⟩ := cg L ga
  have ne : ∀ x, w2.fp x → x ≠ L := fun x h z => c1 (by rw [← z]; exact h)
  refine ⟨⟨w2.F, upd w2.H L (.lst (acc ++ [y])), w2.fp⟩, rfl, rfl, ⟨fun x o q => ?_, rel.frz, fun x h => ?_, rel.fixed, rel.slots.frame (Same.refl _) fun x o h q => ?_⟩, ⟨e.same, e.new, fun x o q n => ?_, e.fp⟩, ⟨fun x => x = L, ⟨L, _, _, fun _ => False, rfl, rfl, upd_same, rfl, fun z => z, fun _ z => z.elim, odl_imm ((odl_rds od).append (.cons ry .nil))⟩, fun x hx => ?_⟩⟩
  · show upd w2.H L _ x = some o
    rw [upd_ne (ne_of_none q c2)]
    exact rel.same x o q
  · show upd w2.H L _ x ≠ none
    rw [upd_ne (ne x h)]
    exact rel.live x h
  · show upd w2.H L _ x = some o
    rw [upd_ne (ne x h)]
    exact q
  · show upd w2.H L _ x = some o
    rw [upd_ne (ne_of_none q nL)]
    exact e.keep x o q n
  · have hx' : x = L := hx
    rw [hx']
    exact ⟨c1, c2, (by show upd w2.H L _ L ≠ none; rw [upd_same]; intro z; cases z), .inr nL⟩
theorem ev_lc {kd : Kind} {vs sl : List Nat} {fi : M (List D)} {ft : D → Env → Option Env} {tt : M Bool} {fe : M D} {σ : L2.St} {H : Hp} {Q : VK} (hd : newL b kd) (hv : nfAt κ vs) (hs : ∀ i ∈ sl, i ∈ vs)
    (h : tV (ctx X W) κ (.t kd) (fLc vs fi ft tt fe) σ H Q) : tLc (tI (ctx X W) b κ fi) (tG (ctx X W0) b sl κ κ ft) (tT (ctx X W0) κ tt) (tV (ctx X W0) κ (.t (.v b)) fe) vs σ H Q := by
  obtain ⟨ρ, w, rfl, rel, post⟩ := h
  refine seqI (P := PostV (ctx X W) κ σ (.t kd) w Q) rel post (fun z => z) (fun n d ρ' z => z) fun ds ρ1 w1 J rel1 e1 wk post1 => ?_
  intro L nL
  obtain ⟨w2, eH2, eF2, ef2, rel2, e2⟩ := world_own (o := .lst []) rel1 nL
  have t2 : Temp X.K (.lst (.v b)) w1 w2 (.list []) (.ref L) := ⟨fun x => x = L, ⟨L, [], [], fun _ => False, rfl, rfl, by rw [eH2, upd_same], rfl, fun z => z, fun _ z => z.elim, .nil⟩, fun x hx => by
    have hx' : x = L := hx
    rw [hx', ef2, eF2, eH2, upd_same]
    exact ⟨fun z => rel1.live L z nL, rel1.same.free nL, fun z => (nomatch z), .inr nL⟩⟩
  refine ⟨fun i m H => ∃ ρ wi acc, wi.H = H ∧ Rel X.K κ ρ (wipe σ vs) wi ∧ Ext w1 wi ∧ Temp X.K (.lst (.v b)) w1 wi (.list acc) (.ref L) ∧ m = ds.length - i ∧ PostV (ctx X W) κ σ (.t kd) w Q (bdo (compL vs ft tt fe (ds.drop i) acc ρ) fun r ρ2 => some (.ok (.list r) ρ2)), ⟨ds.length, wipeE ρ1 vs, w2, [], eH2, rel_wipe hv rel2, e2, t2, rfl, ?_⟩, ?_⟩
  · rw [List.drop_zero]
    have ww : ∀ (us : List Nat) (ρ : Env), wipeE (wipeE ρ us) us = wipeE ρ us := by
      intro us ρ
      have key : ∀ (us : List Nat) (v : Nat) (ρ : Env), wipeE (ρ.set v none) us = (wipeE ρ us).set v none := by
        intro us v
        induction us with
        | nil => intro ρ; rfl
        | cons u us ih =>
          intro ρ
          show (wipeE (ρ.set v none) us).set u none = ((wipeE ρ us).set u none).set v none
          rw [ih]
          by_cases huv : u = v
          · rw [huv]
          · rw [List.set_comm _ _ (Ne.symm huv)]
      induction us with
      | nil => rfl
      | cons u us ih =>
        show (wipeE ((wipeE ρ us).set u none) us).set u none = (wipeE ρ us).set u none
        rw [key, ih, List.set_set]
    have cw : ∀ ds acc, compL vs ft tt fe ds acc (wipeE ρ1 vs) = compL vs ft tt fe ds acc ρ1 := by
      intro ds acc
      cases ds with
      | nil => unfold compL; rw [ww]
      | cons d ds => unfold compL; rw [ww]
    rw [cw]
    exact post1
  rintro i m _ ⟨ρi, wi, acc, rfl, reli, ei, ti, rfl, posti⟩
  have wki := wk i wi.H (ei.same.trans reli.same)
  by_cases hi : i < ds.length
  · have ed : ds[i]? = some ds[i] := List.getElem?_eq_getElem hi
    rw [List.drop_eq_getElem_cons hi] at posti
    unfold compL at posti
    cases q : ft ds[i] (wipeE ρi vs) with
    | none =>
      rw [q] at posti
      exact posti.elim
    | some ρ3 =>
      rw [q] at posti
      dsimp only at posti
      refine .inr ⟨(wki.2 _ ed).1, fun H' => ∃ ρ wj acc, wj.H = H' ∧ Rel X.K κ ρ (wipe σ vs) wj ∧ Ext w1 wj ∧ Temp X.K (.lst (.v b)) w1 wj (.list acc) (.ref L) ∧ PostV (ctx X W) κ σ (.t kd) w Q (bdo (compL vs ft tt fe (ds.drop (i + 1)) acc ρ) fun r ρ2 => some (.ok (.list r) ρ2)), fun H' z => ?_, fun x H' y => ?_⟩
      · obtain ⟨ρ, wj, acc, z1, z2, z3, z4, z5⟩ := z
        exact ⟨ds.length - (i + 1), by omega, ρ, wj, acc, z1, z2, z3, z4, rfl, z5⟩
      · obtain ⟨w4, eH4, rel4, e4, r4⟩ := world_yield wk ei.same reli ed y
        subst eH4
        have relw : Rel X.K κ (wipeE ρi vs) (wipe σ vs) w4 := by
          have z := rel_wipe hv rel4
          have : wipe (wipe σ vs) vs = wipe σ vs := wipe_upto (sl := []) (Upto.refl _ _) (fun _ z => by simp at z)
          rw [this] at z
          exact z
        refine ⟨wipeE ρi vs, w4, ds[i], rfl, relw, r4, ?_⟩
        rw [q]
        intro σ5 w5 eH5 u5 rel5 e5
        have ew : wipe σ5 vs = wipe σ vs := wipe_upto u5 hs
        refine ⟨ew, ?_⟩
        have e15 := (ei.trans e4).trans e5
        have t5 := (ti.keep e4).keep e5
        refine ⟨ρ3, w5, rfl, rel5, ?_⟩
        cases qt : tt ρ3 with
        | none =>
          rw [qt] at posti
          exact posti.elim
        | some o =>
          rw [qt] at posti
          cases o with
          | err n d ρ' => exact posti.elim
          | ok bb ρ6 =>
            intro w6 rel6 e6
            have back : ∀ {ρ : Env} {w : Wd}, Rel X.K κ ρ σ5 w → Rel X.K κ (wipeE ρ vs) (wipe σ vs) w := fun r => by
              have z := rel_wipe hv r
              rw [ew] at z
              exact z
            cases bb with
            | false =>
              rw [if_neg Bool.false_ne_true]
              exact ⟨wipeE ρ6 vs, w6, acc, rfl, back rel6, e15.trans e6, t5.keep e6, posti⟩
            | true =>
              rw [if_pos rfl]
              dsimp only at posti
              refine ⟨ρ6, w6, rfl, rel6, ?_⟩
              cases qe : fe ρ6 with
              | none =>
                rw [qe] at posti
                exact posti.elim
              | some o =>
                rw [qe] at posti
                cases o with
                | err n d ρ' => exact posti.elim
                | ok yd ρ7 =>
                  dsimp only at posti
                  intro yv w7 rel7 e7 t7
                  split at posti
                  · rename_i hl
                    have t7L := (t5.keep e6).keep e7
                    obtain ⟨g, ⟨a, vs', ds', g', ea, ed', eHa, _, _, _, od⟩, _⟩ := id t7L
                    cases ea
                    cases ed'
                    refine ⟨vs', eHa, by rw [(odl_rds od).length]; exact hl, ?_⟩
                    obtain ⟨w8, eH8, _, rel8, e8, t8⟩ := temp_app (back rel7) ((e15.trans e6).trans e7) nL t7L eHa (Temp.rd t7)
                    exact ⟨wipeE ρ7 vs, w8, _, eH8, rel8, e8, t8, posti⟩
                  · exact posti.elim
  · rw [List.drop_eq_nil_of_le (by omega)] at posti
    exact .inl ⟨wki.1 (by omega), fin_temp hd posti (rel_unwipe rel1.fixed reli) (e1.trans ei) (ti.since e1)⟩
theorem fe_lc {kd : Kind} {elt iter : Expr} {ifs : List Expr} {scope : Scope} {own : List (Str × Nat)} {sl : List Nat} {fi : M (List D)} {ft : D → Env → Option Env} {tt : M Bool} {fe : M D} (hd : newL b kd) (hc : X.calm = true) (hN : X.N.Nodup) (hi : FI X W b κ tg iter fi) (ok : BlkOk X.N X.env.scope scope own) (hv : nfAt κ (own.map (·.2))) (hs : ∀ i ∈ sl, i ∈ own.map (·.2))
    (hg : ∀ (s : Shared) (H : Hp) (A : Addr) (cl : List (Str × Addr)) (fp : List Addr), FG (X.blk s H scope (compEnvC scope cl A X.env) fp) W0 b sl κ κ tg ft) (ht : ∀ (s : Shared) (H : Hp) (A : Addr) (cl : List (Str × Addr)) (fp : List Addr), FTs (X.blk s H scope (compEnvC scope cl A X.env) fp) κ ifs tt)
    (he : ∀ (s : Shared) (H : Hp) (A : Addr) (cl : List (Str × Addr)) (fp : List Addr), FV (X.blk s H scope (compEnvC scope cl A X.env) fp) W0 κ (.t (.v b)) elt fe) (hf : ∀ x, foldedSetIterable iter X.env x = pure x := by intro _; rfl) :
    FV X W κ (.t kd) (.ListComp elt [⟨tg, iter, ifs, 0⟩] scope pos) (fLc (own.map (·.2)) fi ft tt fe) :=
  (pe_lc (own := own) (g := tG (ctx X W0) b sl κ κ ft) (tt := tT (ctx X W0) κ tt) (te := tV (ctx X W0) κ (.t (.v b)) fe) hc hN hi ok hg (fun s H A cl fp => (ht s H A cl fp).h) he hf).imp fun σ H Q h => ev_lc hd hv hs h
end
end FN
set_option Elab.async false
set_option linter.all false
set_option maxRecDepth 100000
set_option maxHeartbeats 4000000
/-! FN8: lists that are changed, several targets, built-ins. -/
namespace FN
open PySem PySem.Spec PyProof.Rows L2
/-- the slot's list is owned -/
def ownK (b : Bool) : Option Kind → Prop
  | some (.lst (.v c)) => c = b
  | some (.fix _ (.lst (.v c))) => c = b
  | _ => False
theorem own_cases {b : Bool} {o : Option Kind} (h : ownK b o) : ∃ k, o = some k ∧ (k = .lst (.v b) ∨ ∃ u, k = .fix u (.lst (.v b))) := by
  unfold ownK at h
  split at h
  · exact ⟨_, rfl, .inl (by rw [h])⟩
  · exact ⟨_, rfl, .inr ⟨_, by rw [h]⟩⟩
  · exact h.elim
theorem own_list {K : PySem.W.Frag} {b : Bool} {κ : List Kind} {ρ : Env} {σ : L2.St} {w : Wd} {i : Nat} {ds : List D} (rel : Rel K κ ρ σ w) (hk : ownK b κ[i]?) (ed : ρ[i]? = some (some (.list ds))) :
    ∃ a xs, σ[i]? = some (some (.ref a)) ∧ w.H a = some (.lst xs) ∧ RDs b K w.F xs ds ∧ ∀ xs' ds', RDs b K w.F xs' ds' → ∃ w', w'.H = upd w.H a (.lst xs') ∧ w'.F = w.F ∧ Rel K κ (ρ.set i (some (.list ds'))) σ w' ∧ Ext w w' := by
  obtain ⟨k, ek, hk⟩ := own_cases hk
  obtain ⟨v, f, g, ev, o, s, y1, y2, y3⟩ := rel.slots.out ed ek
  have hi : i < σ.length := (List.getElem?_eq_some_iff.mp ev).1
  have o1 : OD K w.F w.H (.lst (.v b)) v (.list ds) f := by
    rcases hk with rfl | ⟨u, rfl⟩
    · exact o
    · exact o
  obtain ⟨a, xs, ds0, g', rfl, e2, eH, ga, _, _, od⟩ := o1
  cases e2
  refine ⟨a, xs, ev, eH, odl_rds od, fun xs' ds' r' => ?_⟩
  have nF : w.F a = none := rel.frz a (y2 a ga)
  have ne : ∀ x, g x → x ≠ a := fun x h z => y1 a ga (by rw [← z]; exact h)
  have s' : Slots K w.F (upd w.H a (.lst xs')) κ (ρ.set i none) σ g := s.frame (Same.refl _) fun x o h q => by rw [upd_ne (ne x h)]; exact q
  have o' : OD K w.F (upd w.H a (.lst xs')) k (.ref a) (.list ds') (fun x => x = a) := by
    have z : OD K w.F (upd w.H a (.lst xs')) (.lst (.v b)) (.ref a) (.list ds') (fun x => x = a) := ⟨a, xs', ds', fun _ => False, rfl, rfl, upd_same, rfl, fun z => z, fun _ z => z.elim, odl_imm r'⟩
    rcases hk with rfl | ⟨u, rfl⟩
    · exact z
    · exact z
  have p := s'.put hi o' (fun x hx hg => ne x hg hx)
  rw [List.set_set, set_same ek, set_same ev] at p
  refine ⟨⟨w.F, upd w.H a (.lst xs'), fun x => x = a ∨ g x⟩, rfl, rfl, ⟨fun x o q => ?_, fun x h => ?_, fun x h => ?_, rel.fixed, p⟩, ⟨Same.refl _, fun x o q => .inl q, fun x o q n => ?_, fun x h => .inl ?_⟩⟩
  · show upd w.H a _ x = some o
    rw [upd_ne (ne_of_none q nF)]
    exact rel.same x o q
  · rcases h with rfl | h
    · exact nF
    · exact rel.frz x (y3 x h)
  · show upd w.H a _ x ≠ none
    by_cases hx : x = a
    · rw [hx, upd_same]
      intro z
      cases z
    · rw [upd_ne hx]
      exact rel.live x (h.elim (fun z => absurd z hx) (y3 x))
  · show upd w.H a _ x = some o
    rw [upd_ne (fun z => n (by rw [z]; exact y2 a ga))]
    exact q
  · rcases h with rfl | h
    · exact y2 _ ga
    · exact y3 x h
theorem tyV_list {K : PySem.W.Frag} {H : Hp} {a : Addr} {xs : List V} (h : H a = some (.lst xs)) : tyV K "list" (.ref a) H := .inl ⟨rfl, xs, SqL.of h⟩
section
variable {X : Cx} {W : WX} {C : FC} {b : Bool} {κ κ1 κn : List Kind} {pos p apos cpos : Pos} {tg e a o : Expr} {fa fb : M D} {m ma mb : Md} {i : Nat}
/-- a method of the owned list in slot i, one argument: op gives the answer and the new list -/
def fMt (i : Nat) (op : List D → D → Option (D × List D)) (fa : M D) : M D := fun ρ => match ρ[i]? with
  | some (some (.list _)) => bdo (fa ρ) fun d ρ1 => match ρ1[i]? with
    | some (some (.list ds)) => (op ds d).map fun r => .ok r.1 (ρ1.set i (some (.list r.2)))
    | _ => none
  | _ => none
def fMt0 (i : Nat) (op : List D → Option (D × List D)) : M D := fun ρ => match ρ[i]? with
  | some (some (.list ds)) => (op ds).map fun r => .ok r.1 (ρ.set i (some (.list r.2)))
  | _ => none
theorem ev_mt {b2 : Bool} {r : V → List V → Hp → VK → Prop} {op : List D → D → Option (D × List D)} {σ : L2.St} {H : Hp} {Q : VK} (hk : ownK b κ[i]?) (hl : ∀ ρ, fa ρ = fa ρ)
    (hr : ∀ (ρ : Env) (w w2 : Wd) (a : Addr) (xs : List V) (ds : List D) (d : D) (v : V) (r0 : D) (ds' : List D), Rel X.K κ ρ σ w2 → Ext w w2 → w2.H a = some (.lst xs) → RDs b X.K w2.F xs ds → RD b2 X.K w2.F v d → op ds d = some (r0, ds') →
      (∀ v' xs', RD b X.K w2.F v' r0 → RDs b X.K w2.F xs' ds' → Q v' (upd w2.H a (.lst xs'))) → r (.ref a) [v] w2.H Q)
    (h : tV (ctx X W) κ (.t (.v b)) (fMt i op fa) σ H Q) : tBM X.K "list" r (tV (ctx X W) κ (.r i) (fRef i)) (tCons (tV (ctx X W) κ (.t (.v b2)) fa) tNil) σ H Q := by
  obtain ⟨ρ, w, rfl, rel, post⟩ := h
  unfold fMt at post
  split at post
  · rename_i ds0 ed0
    refine ⟨ρ, w, rfl, rel, ?_⟩
    unfold fRef
    rw [ed0]
    intro v0 w1 rel1 e1 t1
    obtain ⟨a, xs0, ev, eH0, _, _⟩ := own_list rel1 hk ed0
    rw [show σ[i]? = some (some v0) from t1] at ev
    cases ev
    refine ⟨tyV_list eH0, ?_⟩
    refine seqV (P := PostV (ctx X W) κ σ (.t (.v b)) w Q) rel1 post (fun z => z) (fun n d ρ' z => ErrOk.since z e1) fun d ρ2 v w2 rel2 e2 t2 post2 => ?_
    split at post2
    · rename_i ds ed
      obtain ⟨a', xs, ev, eH, rs, wr⟩ := own_list rel2 hk ed
      rw [show σ[i]? = some (some (V.ref a)) from t1] at ev
      cases ev
      cases q : op ds d with
      | none =>
        rw [q] at post2
        exact post2.elim
      | some r0 =>
        rw [q] at post2
        refine hr ρ2 w w2 a xs ds d v r0.1 r0.2 rel2 (e1.trans e2) eH rs (Temp.rd t2) (by rw [q]) fun v' xs' rv rxs => ?_
        obtain ⟨w3, eH3, eF3, rel3, e3⟩ := wr xs' r0.2 rxs
        rw [← eH3]
        exact post2 v' w3 rel3 ((e1.trans e2).trans e3) (Temp.imm (by rw [eF3]; exact rv))
    · exact post2.elim
  · exact post.elim
def oApp : List D → D → Option (D × List D) := fun ds d => if ds.length < sizeLine then some (.none, ds ++ [d]) else none
theorem fe_append {x : Str} {xp : Pos} (hk : ownK b κ[i]? := by rfl) (ho : FV X W κ (.r i) (.Name x xp) (fRef i)) (ha : FV X W κ (.t (.v b)) e fa)
    (hfew : ((backTo cpos (starEach (e :: []) X.env)).all (fun x => !x.1) && (backToKw cpos (keywordEach [] X.env)).all (fun x => x.1.isSome)
      && decide ((e :: []).length + ([] : List Keyword).length + (if ([] : List Keyword).isEmpty then 0 else 1) < 30)) = true := by rfl)
    (hline : (apos.endLine == cpos.line) = true := by rfl) (hs : starEach (e :: []) X.env = (false, eval e X.env) :: starEach [] X.env := by rfl) (hplain : (backTo cpos (starEach [] X.env)).any (·.1) = false := by rfl) :
    FV X W κ (.t (.v b)) (.Call (.Attribute (.Name x xp) "append" apos) [e] [] cpos) (fMt i oApp fa) :=
  (pe_bm PySem.F.plainAttrs_list PySem.F.slot_list_append PySem.F.type_list_append mt_append ho (pa_cons ha pa_nil hs) (by rfl) hfew hline hs hplain).imp fun σ H Q h => ev_mt hk (fun _ => rfl) (fun ρ w w2 a xs ds d v r0 ds' rel ext eH rs rv eo fin => by
    unfold oApp at eo
    split at eo
    · rename_i hl
      cases eo
      exact ⟨a, xs, v, rfl, rfl, eH, by rw [rs.length]; exact hl, fin _ _ .non (rs.append (.cons rv .nil))⟩
    · cases eo) h
def oPopAt : List D → D → Option (D × List D) := fun ds d => match d with
  | .int i => if okR i = true then (match ixN ds.length i with
    | some j => (match ds[j]? with
      | some y => some (y, ds.eraseIdx j)
      | none => none)
    | none => none) else none
  | _ => none
theorem fe_popAt {b2 : Bool} {x : Str} {xp : Pos} (hk : ownK b κ[i]? := by rfl) (ho : FV X W κ (.r i) (.Name x xp) (fRef i)) (ha : FV X W κ (.t (.v b2)) e fa)
    (hfew : ((backTo cpos (starEach (e :: []) X.env)).all (fun x => !x.1) && (backToKw cpos (keywordEach [] X.env)).all (fun x => x.1.isSome)
      && decide ((e :: []).length + ([] : List Keyword).length + (if ([] : List Keyword).isEmpty then 0 else 1) < 30)) = true := by rfl)
    (hline : (apos.endLine == cpos.line) = true := by rfl) (hs : starEach (e :: []) X.env = (false, eval e X.env) :: starEach [] X.env := by rfl) (hplain : (backTo cpos (starEach [] X.env)).any (·.1) = false := by rfl) :
    FV X W κ (.t (.v b)) (.Call (.Attribute (.Name x xp) "pop" apos) [e] [] cpos) (fMt i oPopAt fa) :=
  (pe_bm PySem.F.plainAttrs_list PySem.F.slot_list_pop PySem.F.type_list_pop mt_popAt ho (pa_cons ha pa_nil hs) (by rfl) hfew hline hs hplain).imp fun σ H Q h => ev_mt hk (fun _ => rfl) (fun ρ w w2 a xs ds d v r0 ds' rel ext eH rs rv eo fin => by
    unfold oPopAt at eo
    split at eo
    · rename_i i
      split at eo
      · rename_i hok
        obtain ⟨h1, h2⟩ : -(2 ^ 62) ≤ i ∧ i < 2 ^ 62 := of_decide_eq_true hok
        split at eo
        · rename_i j q
          split at eo
          · rename_i y q2
            cases eo
            obtain ⟨yv, ey, ry⟩ := rs.get q2
            obtain ⟨z1, z2, z3, z4⟩ := ixN_seq q
            exact ⟨a, xs, i, j, yv, rfl, by rw [dp_int rv.dp], eH, by omega, by omega, by rw [rs.length]; exact z1, ey, fin _ _ ry (rs.eraseIdx j)⟩
          · cases eo
        · cases eo
      · cases eo
    · cases eo) h
theorem ev_mt0 {r : V → List V → Hp → VK → Prop} {op : List D → Option (D × List D)} {σ : L2.St} {H : Hp} {Q : VK} (hk : ownK b κ[i]?)
    (hr : ∀ (ρ : Env) (w : Wd) (a : Addr) (xs : List V) (ds : List D) (r0 : D) (ds' : List D), Rel X.K κ ρ σ w → w.H a = some (.lst xs) → RDs b X.K w.F xs ds → op ds = some (r0, ds') →
      (∀ v' xs', RD b X.K w.F v' r0 → RDs b X.K w.F xs' ds' → Q v' (upd w.H a (.lst xs'))) → r (.ref a) [] w.H Q)
    (h : tV (ctx X W) κ (.t (.v b)) (fMt0 i op) σ H Q) : tBM0 X.K "list" r (tV (ctx X W) κ (.r i) (fRef i)) σ H Q := by
  obtain ⟨ρ, w, rfl, rel, post⟩ := h
  unfold fMt0 at post
  split at post
  · rename_i ds ed
    refine ⟨ρ, w, rfl, rel, ?_⟩
    unfold fRef
    rw [ed]
    intro v0 w1 rel1 e1 t1
    obtain ⟨a, xs, ev, eH, rs, wr⟩ := own_list rel1 hk ed
    rw [show σ[i]? = some (some v0) from t1] at ev
    cases ev
    refine ⟨tyV_list eH, ?_⟩
    cases q : op ds with
    | none =>
      rw [q] at post
      exact post.elim
    | some r0 =>
      rw [q] at post
      refine hr ρ w1 a xs ds r0.1 r0.2 rel1 eH rs (by rw [q]) fun v' xs' rv rxs => ?_
      obtain ⟨w3, eH3, eF3, rel3, e3⟩ := wr xs' r0.2 rxs
      rw [← eH3]
      exact post v' w3 rel3 (e1.trans e3) (Temp.imm (by rw [eF3]; exact rv))
  · exact post.elim
def oPop : List D → Option (D × List D) := fun ds => match ds[ds.length - 1]? with
  | some y => some (y, ds.dropLast)
  | none => none
theorem fe_pop {x : Str} {xp : Pos} (hk : ownK b κ[i]? := by rfl) (ho : FV X W κ (.r i) (.Name x xp) (fRef i)) (hline : (apos.endLine == cpos.line) = true := by rfl) :
    FV X W κ (.t (.v b)) (.Call (.Attribute (.Name x xp) "pop" apos) [] [] cpos) (fMt0 i oPop) :=
  (pe_bm0 PySem.F.plainAttrs_list PySem.F.slot_list_pop PySem.F.type_list_pop mt_pop ho (by rfl) hline).imp fun σ H Q h => ev_mt0 hk (fun ρ w a xs ds r0 ds' rel eH rs eo fin => by
    unfold oPop at eo
    split at eo
    · rename_i y q
      cases eo
      obtain ⟨yv, ey, ry⟩ := rs.get q
      exact ⟨a, xs, yv, rfl, rfl, eH, by rw [rs.length]; exact ey, fin _ _ ry rs.dropLast⟩
    · cases eo) h
/-- x.extend(ys), ys another list that stands by itself -/
def fExt (i : Nat) (fa : M D) : M D := fun ρ => match ρ[i]? with
  | some (some (.list _)) => bdo (fa ρ) fun d ρ1 => match ρ1[i]?, d with
    | some (some (.list ds)), .list es => if ds.length + es.length ≤ sizeLine then some (.ok .none (ρ1.set i (some (.list (ds ++ es))))) else none
    | _, _ => none
  | _ => none
def oExt : List D → D → Option (D × List D) := fun ds d => match d with
  | .list es => if ds.length + es.length ≤ sizeLine then some (.none, ds ++ es) else none
  | _ => none
theorem fe_extend {x : Str} {xp : Pos} (hk : ownK b κ[i]? := by rfl) (ho : FV X W κ (.r i) (.Name x xp) (fRef i)) (ha : FV X W κ (.t (.v b)) e fa)
    (hfew : ((backTo cpos (starEach (e :: []) X.env)).all (fun x => !x.1) && (backToKw cpos (keywordEach [] X.env)).all (fun x => x.1.isSome)
      && decide ((e :: []).length + ([] : List Keyword).length + (if ([] : List Keyword).isEmpty then 0 else 1) < 30)) = true := by rfl)
    (hline : (apos.endLine == cpos.line) = true := by rfl) (hs : starEach (e :: []) X.env = (false, eval e X.env) :: starEach [] X.env := by rfl) (hplain : (backTo cpos (starEach [] X.env)).any (·.1) = false := by rfl) :
    FV X W κ (.t (.v b)) (.Call (.Attribute (.Name x xp) "extend" apos) [e] [] cpos) (fMt i oExt fa) :=
  (pe_bm PySem.F.plainAttrs_list PySem.F.slot_list_extend PySem.F.type_list_extend mt_extend ho (pa_cons ha pa_nil hs) (by rfl) hfew hline hs hplain).imp fun σ H Q h => ev_mt hk (fun _ => rfl) (fun ρ w w2 a xs ds d v r0 ds' rel ext eH rs rv eo fin => by
    unfold oExt at eo
    split at eo
    · rename_i es
      split at eo
      · rename_i hl
        cases eo
        cases rv with
        | @lst a' xs' _ h1 t1 => exact ⟨a, a', xs, xs', rfl, rfl, eH, rel.same _ _ h1, by rw [rs.length, t1.length]; exact hl, fin _ _ .non (rs.append t1)⟩
      · cases eo
    · cases eo) h
/-! ### x[i] = e of an owned list -/
def sPut (i : Nat) (fi fa : M D) : Env → Option Fl := fun ρ => bnd (fa ρ) Fl.err fun d ρ1 => match ρ1[i]? with
  | some (some (.list _)) => bnd (fi ρ1) Fl.err fun k ρ2 => match ρ2[i]?, k with
    | some (some (.list ds)), .int k => (ixN ds.length k).map fun j => .nx (ρ2.set i (some (.list (ds.set j d))))
    | _, _ => none
  | _ => none
theorem fs_put {bi : Bool} {x : Str} {xp : Pos} {fi : M D} {ix : Expr} (hk : ownK b κ[i]? := by rfl) (ho : FV X W κ (.r i) (.Name x xp) (fRef i)) (hi : FV X W κ (.t (.v bi)) ix fi) (ha : FV X W κ (.t (.v b)) e fa) (he : EK C κ := by first | exact .inl rfl | exact .inr rfl)
    (hs : swapsWithSole [.Subscript (.Name x xp) ix p] e pos.line X.env = pure false := by rfl) (hw : swappedStores [.Subscript (.Name x xp) ix p] e X.env = pure none := by rfl) (h1 : (assignEach [.Subscript (.Name x xp) ix p] X.env).map (·.2) = [assign (.Subscript (.Name x xp) ix p) X.env] := by rfl)
    (h2 : ∀ v, assign (.Subscript (.Name x xp) ix p) X.env v = (do
      let ov ← holding [v] (eval (.Name x xp) X.env)
      let iv ← holding [v, ov] (eval ix X.env)
      standAt p
      holding [v, ov, iv] (setItem ov iv v)
      release [v, ov, iv] []) := by intro _; rfl) : FS X W C κ κ (.Assign [.Subscript (.Name x xp) ix p] e pos) (sPut i fi fa) := (ps_asg ha (pg_sub ho hi set_list h2) hs hw h1).imp fun D' σ H h => by
  obtain ⟨ρ, w, rfl, rel, post⟩ := h
  refine seqV (P := PostS (ctx X W) C κ D' w) rel post (fun z => z) (fun n d ρ' z => errS he z) fun d ρ1 v w1 rel1 e1 t1 post1 => ?_
  show gSub _ _ _ v σ w1.H D'.nx
  split at post1
  · rename_i ds0 ed0
    refine ⟨ρ1, w1, rfl, rel1, ?_⟩
    unfold fRef
    rw [ed0]
    intro v0 w2 rel2 e2 t2
    obtain ⟨a, xs0, ev0, _, _, _⟩ := own_list rel2 hk ed0
    rw [show σ[i]? = some (some v0) from t2] at ev0
    cases ev0
    refine seqV (P := PostS (ctx X W) C κ D' w) rel2 post1 (fun z => z) (fun n d ρ' z => ErrOk.since (errS he z) (e1.trans e2)) fun kd ρ3 kv w3 rel3 e3 t3 post3 => ?_
    split at post3
    · rename_i ds k ed
      obtain ⟨a', xs, ev, eH, rs, wr⟩ := own_list rel3 hk ed
      rw [show σ[i]? = some (some (V.ref a)) from t2] at ev
      cases ev
      cases q : ixN ds.length k with
      | none =>
        rw [q] at post3
        exact post3.elim
      | some j =>
        rw [q] at post3
        have rv : RD b X.K w3.F v d := ((Temp.rd t1).mono e2.same).mono e3.same
        obtain ⟨w4, eH4, _, rel4, e4⟩ := wr (xs.set j v) (ds.set j d) (rs.set rv j)
        refine ⟨a, xs, k, j, rfl, dp_int (Temp.rd t3).dp, eH, by rw [rs.length]; exact q, ?_⟩
        rw [← eH4]
        exact post3 σ w4 rel4 (((e1.trans e2).trans e3).trans e4)
    · exact post3.elim
  · exact post1.elim
/-! ### x += e, x -= e of ints and texts -/
def sAug (i : Nat) (op : D → D → Option D) (fa : M D) : Env → Option Fl := fun ρ => match ρ[i]? with
  | some (some x) => bnd (fa ρ) Fl.err fun y ρ1 => (op x y).map fun z => .nx (ρ1.set i (some z))
  | _ => none
def dAug : D → D → Option D
  | .int i, .int j => some (.int (i + j))
  | .str x, .str y => if x.length + y.length ≤ sizeLine then some (.str (x ++ y)) else none
  | _, _ => none
theorem fs_aug {op : Operator} {r : R2} {o : D → D → Option D} {x : Str} {pos' : Pos} (ho : OpR X (inplaceOp op) r) (hs : Sc X.K r o) (ha : FV X W κ (.t (.v b)) e fa) (hN : X.N.Nodup) (hk : κ[i]? = some (.v b) := by rfl) (hi : X.N[i]? = some x := by rfl) (hx : Loc X.env.scope x := by first | exact .inl rfl | exact .inr rfl) (he : EK C κ := by first | exact .inl rfl | exact .inr rfl)
    (hf : X.fn x = true ∨ X.env.scope.names.lookup x = some .local := by first | exact .inl rfl | exact .inr rfl) : FS X W C κ κ (.AugAssign (.Name x pos') op e pos) (sAug i o fa) := (ps_aug hN hi hx ha ho hf).imp fun D' σ H h => by
  obtain ⟨ρ, w, rfl, rel, post⟩ := h
  unfold sAug at post
  split at post
  · rename_i d0 ed
    obtain ⟨v0, f, ev, o0, _⟩ := rel.slots.get ed hk
    refine ⟨v0, ev, ?_⟩
    refine seqV (P := PostS (ctx X W) C κ D' w) rel post (fun z => z) (fun n d ρ' z => errS he z) fun d ρ1 v w1 rel1 e1 t1 post1 => ?_
    cases q : o d0 d with
    | none =>
      rw [q] at post1
      exact post1.elim
    | some z =>
      rw [q] at post1
      have r0 : RD b X.K w.F v0 d0 := o0
      refine hs _ _ _ _ _ _ _ (Dp_same rel1.same (r0.mono e1.same)) (Dp_same rel1.same (Temp.rd t1)) q fun v' rv => ?_
      have hil : i < σ.length := (List.getElem?_eq_some_iff.mp ev).1
      obtain ⟨w2, eH, _, rel2, ex⟩ := rel_set (κ := κ) (k := .v b) (i := i) (w := w) rel1 (Temp.imm (rv b w1.F)) hil (fun _ _ z => nomatch z)
      rw [set_same hk] at rel2
      show D'.nx (σ.set i (some v')) w1.H
      rw [← eH]
      exact post1 _ w2 rel2 (ex e1)
  · exact post.elim
theorem s_aug {K : PySem.W.Frag} : Sc K (fun x y H Q => rI0 (fun i j => .int (i + j)) x y H Q ∨ ∃ i j, x = .str i ∧ y = .str j ∧ i.length + j.length ≤ sizeLine ∧ Q (.str (i ++ j)) H) dAug := by
  intro x y dx dy z H Q hx hy ho q
  unfold dAug at ho
  split at ho
  · cases ho
    exact .inl ⟨_, _, dp_int hx, dp_int hy, q _ fun b F => .int _⟩
  · split at ho
    · rename_i hl
      cases ho
      exact .inr ⟨_, _, dp_str hx, dp_str hy, hl, q _ fun b F => .str _⟩
    · cases ho
  · cases ho
theorem s_isub {K : PySem.W.Frag} : Sc K (rI0 fun i j => .int (i - j)) dSub := s_sub
/-! ### a, b = x, y of plain locals -/
theorem fs_par {i j : Nat} {k1 k2 : Kind} {x y : Str} {ea eb : Expr} {fr : M (List D)} {px py pt : Pos} {kt k2' pt2} (hc : X.calm = true) (hN : X.N.Nodup) (ha : FA X W κ [.t k1, .t k2] [ea, eb] fr) (hij : i ≠ j := by decide) (hi : X.N[i]? = some x := by rfl) (hj : X.N[j]? = some y := by rfl)
    (hx : X.env.scope.names.lookup x = some .local := by rfl) (hy : X.env.scope.names.lookup y = some .local := by rfl) (hli : i < κ.length := by decide) (hlj : j < κ.length := by decide) (hn1 : nofix k1 := by trivial) (hn2 : nofix k2 := by trivial) (he : EK C κ := by first | exact .inl rfl | exact .inr rfl)
    (hw : swappedStores [.Tuple [.Name x px, .Name y py] kt pt] (.Tuple [ea, eb] k2' pt2) X.env = pure (some [x, y]) := by rfl)
    (hs : swapsWithSole [.Tuple [.Name x px, .Name y py] kt pt] (.Tuple [ea, eb] k2' pt2) pos.line X.env = pure false := by rfl) : FS X W C κ ((κ.set i k1).set j k2) (.Assign [.Tuple [.Name x px, .Name y py] kt pt] (.Tuple [ea, eb] k2' pt2) pos) (sPar i j fr) := (ps_par hc hN hi hj hij hx hy ha hw hs).imp fun D' σ H h => by
  obtain ⟨ρ, w, rfl, rel, post⟩ := h
  refine seqA (P := PostS (ctx X W) C ((κ.set i k1).set j k2) D' w) rel post (fun z => z) (fun n d ρ' z => errS (κn := (κ.set i k1).set j k2) he z) fun ds ρ1 vs w1 rel1 e1 a1 post1 => ?_
  obtain ⟨g, ar, cg⟩ := a1
  cases ar with
  | @t _ d1 v1 _ _ _ f1 g1 _ o1 ar dj h1 h2 =>
    cases ar with
    | @t _ d2 v2 _ _ _ f2 g2 _ o2 ar dj2 h3 h4 =>
      cases ar
      refine ⟨v1, v2, rfl, ?_⟩
      have hl := rel1.slots.lengths
      have p1 := (rel1.slots.drop i).put (i := i) (by rw [← hl.1]; exact hli) o1 (fun a z => (cg a (h1 a z)).1)
      rw [List.set_set] at p1
      have p2 := (p1.drop j).put (i := j) (by rw [List.length_set, ← hl.1]; exact hlj) o2 (fun a z y => y.elim (fun y => dj a y (h3 a z)) (cg a (h2 a (h3 a z))).1)
      rw [List.set_set] at p2
      have all : ∀ a, (f2 a ∨ f1 a ∨ w1.fp a) → w1.fp a ∨ g a := fun a z => by
        rcases z with z | z | z
        · exact .inr (h2 a (h3 a z))
        · exact .inr (h1 a z)
        · exact .inl z
      refine post1 _ ⟨w1.F, w1.H, fun a => f2 a ∨ f1 a ∨ w1.fp a⟩ ⟨rel1.same, fun a z => (all a z).elim (rel1.frz a) fun y => (cg a y).2.1, fun a z => (all a z).elim (rel1.live a) fun y => (cg a y).2.2.1, fun q u k z => ?_, p2⟩ ⟨e1.same, e1.new, e1.keep, fun a z => (all a z).elim (e1.fp a) fun y => (cg a y).2.2.2⟩
      by_cases hq2 : q = j
      · subst hq2
        rw [List.getElem?_set_self (by rw [List.length_set]; exact hlj)] at z
        cases z
        exact absurd rfl (nofix_ne hn2 _ _)
      · rw [List.getElem?_set_ne (Ne.symm hq2)] at z ⊢
        by_cases hq1 : q = i
        · subst hq1
          rw [List.getElem?_set_self hli] at z
          cases z
          exact absurd rfl (nofix_ne hn1 _ _)
        · rw [List.getElem?_set_ne (Ne.symm hq1)] at z ⊢
          exact rel1.fixed q u k z
theorem fs_parK {i j : Nat} {k1 k2 : Kind} {x y : Str} {ea eb : Expr} {fr : M (List D)} {px py pt : Pos} {kt k2' pt2} (hc : X.calm = true) (hN : X.N.Nodup) (ha : FA X W κ [.t k1, .t k2] [ea, eb] fr) (h1 : κ[i]? = some k1 := by rfl) (h2 : κ[j]? = some k2 := by rfl) (hij : i ≠ j := by decide) (hi : X.N[i]? = some x := by rfl) (hj : X.N[j]? = some y := by rfl)
    (hx : X.env.scope.names.lookup x = some .local := by rfl) (hy : X.env.scope.names.lookup y = some .local := by rfl) (hn1 : nofix k1 := by exact True.intro) (hn2 : nofix k2 := by exact True.intro) (he : EK C κ := by first | exact .inl rfl | exact .inr rfl)
    (hw : swappedStores [.Tuple [.Name x px, .Name y py] kt pt] (.Tuple [ea, eb] k2' pt2) X.env = pure (some [x, y]) := by rfl)
    (hs : swapsWithSole [.Tuple [.Name x px, .Name y py] kt pt] (.Tuple [ea, eb] k2' pt2) pos.line X.env = pure false := by rfl) : FS X W C κ κ (.Assign [.Tuple [.Name x px, .Name y py] kt pt] (.Tuple [ea, eb] k2' pt2) pos) (sPar i j fr) := by
  have z := fs_par (C := C) hc hN ha hij hi hj hx hy (List.getElem?_eq_some_iff.mp h1).1 (List.getElem?_eq_some_iff.mp h2).1 hn1 hn2 he hw hs
  rw [set_same h1, set_same h2] at z
  exact z
end
end FN
set_option Elab.async false
set_option linter.all false
set_option maxRecDepth 100000
set_option maxHeartbeats 4000000
/-! FN9: built-in functions. -/
namespace FN
open PySem PySem.Spec PyProof.Rows L2
/-! ### isinstance -/
def tyD : D → String
  | .none => "NoneType"
  | .bool _ => "bool"
  | .int _ => "int"
  | .str _ => "str"
  | .list _ => "list"
  | .tuple _ => "tuple"
  | .dict _ => "dict"
theorem tyX_of {K : PySem.W.Frag} {H : Hp} {v : V} {d : D} (h : Dp K H v d) : TyX K H v (.type (tyD d)) := by
  cases h with
  | non => exact .base .non
  | bl b => exact .base (.bl b)
  | int i => exact .base (.int i)
  | str x => exact .base (.str x)
  | lst h t =>
    rcases h with (h | ⟨o, h⟩) | ⟨o, _, _, hk, hc, _⟩
    · exact .base (.lst h)
    · exact .base (.frz h)
    · exact .kList hk hc
  | tup h t =>
    rcases h with (h | ⟨o, h⟩) | ⟨o, _, _, hk, hc, _⟩
    · exact .base (.tup h)
    · exact .fTuple h
    · exact .kTuple hk hc
def isInt : D → Bool
  | .int _ => true
  | .bool _ => true
  | _ => false
def isBool : D → Bool
  | .bool _ => true
  | _ => false
def isStr : D → Bool
  | .str _ => true
  | _ => false
def isList : D → Bool
  | .list _ => true
  | _ => false
def isTuple : D → Bool
  | .tuple _ => true
  | _ => false
def isDict : D → Bool
  | .dict _ => true
  | _ => false
/-- T's instances are those of p -/
def Isi (T : String) (p : D → Bool) : Prop := ∀ d, kitB (tyD d) T = some (p d)
theorem isi_int : Isi "int" isInt := fun d => by
  cases d with
  | none => exact (by decide +kernel : kitB "NoneType" "int" = some false)
  | bool _ => exact (by decide +kernel : kitB "bool" "int" = some true)
  | int _ => exact (by decide +kernel : kitB "int" "int" = some true)
  | str _ => exact (by decide +kernel : kitB "str" "int" = some false)
  | list _ => exact (by decide +kernel : kitB "list" "int" = some false)
  | tuple _ => exact (by decide +kernel : kitB "tuple" "int" = some false)
  | dict _ => exact (by decide +kernel : kitB "dict" "int" = some false)
theorem isi_bool : Isi "bool" isBool := fun d => by
  cases d with
  | none => exact (by decide +kernel : kitB "NoneType" "bool" = some false)
  | bool _ => exact (by decide +kernel : kitB "bool" "bool" = some true)
  | int _ => exact (by decide +kernel : kitB "int" "bool" = some false)
  | str _ => exact (by decide +kernel : kitB "str" "bool" = some false)
  | list _ => exact (by decide +kernel : kitB "list" "bool" = some false)
  | tuple _ => exact (by decide +kernel : kitB "tuple" "bool" = some false)
  | dict _ => exact (by decide +kernel : kitB "dict" "bool" = some false)
theorem isi_str : Isi "str" isStr := fun d => by
  cases d with
  | none => exact (by decide +kernel : kitB "NoneType" "str" = some false)
  | bool _ => exact (by decide +kernel : kitB "bool" "str" = some false)
  | int _ => exact (by decide +kernel : kitB "int" "str" = some false)
  | str _ => exact (by decide +kernel : kitB "str" "str" = some true)
  | list _ => exact (by decide +kernel : kitB "list" "str" = some false)
  | tuple _ => exact (by decide +kernel : kitB "tuple" "str" = some false)
  | dict _ => exact (by decide +kernel : kitB "dict" "str" = some false)
theorem isi_list : Isi "list" isList := fun d => by
  cases d with
  | none => exact (by decide +kernel : kitB "NoneType" "list" = some false)
  | bool _ => exact (by decide +kernel : kitB "bool" "list" = some false)
  | int _ => exact (by decide +kernel : kitB "int" "list" = some false)
  | str _ => exact (by decide +kernel : kitB "str" "list" = some false)
  | list _ => exact (by decide +kernel : kitB "list" "list" = some true)
  | tuple _ => exact (by decide +kernel : kitB "tuple" "list" = some false)
  | dict _ => exact (by decide +kernel : kitB "dict" "list" = some false)
theorem isi_tuple : Isi "tuple" isTuple := fun d => by
  cases d with
  | none => exact (by decide +kernel : kitB "NoneType" "tuple" = some false)
  | bool _ => exact (by decide +kernel : kitB "bool" "tuple" = some false)
  | int _ => exact (by decide +kernel : kitB "int" "tuple" = some false)
  | str _ => exact (by decide +kernel : kitB "str" "tuple" = some false)
  | list _ => exact (by decide +kernel : kitB "list" "tuple" = some false)
  | tuple _ => exact (by decide +kernel : kitB "tuple" "tuple" = some true)
  | dict _ => exact (by decide +kernel : kitB "dict" "tuple" = some false)
theorem isi_dict : Isi "dict" isDict := fun d => by
  cases d with
  | none => exact (by decide +kernel : kitB "NoneType" "dict" = some false)
  | bool _ => exact (by decide +kernel : kitB "bool" "dict" = some false)
  | int _ => exact (by decide +kernel : kitB "int" "dict" = some false)
  | str _ => exact (by decide +kernel : kitB "str" "dict" = some false)
  | list _ => exact (by decide +kernel : kitB "list" "dict" = some false)
  | tuple _ => exact (by decide +kernel : kitB "tuple" "dict" = some false)
  | dict _ => exact (by decide +kernel : kitB "dict" "dict" = some true)
section
variable {X : Cx} {W : WX} {C : FC} {b : Bool} {κ κ1 κn : List Kind} {pos p p2 : Pos} {tg e a : Expr} {fa fb : M D} {m ma mb : Md} {i : Nat}
def f1b (m : Md) (q : D → Bool) (fa : M D) : M D := f1 m (fun d => some (.bool (q d))) fa
/-- a built-in class, named -/
def Cls1 (X : Cx) (T : String) (e : Expr) : Prop := PE X e (tC (.ty T))
theorem cls1 {x : Str} {T : String} (hg : Gl X x) (hm : X.mg x = none) (hv : bootBuiltins x = some (.type T)) (hn : x ≠ "__name__" := by decide) (hd : (x == ("__debug__" : Str)) = false := by decide) : Cls1 X T (.Name x pos) := pe_bltn hg hm hv rfl hn hd
theorem fe_isi {T : String} {q : D → Bool} (hq : Isi T q) (hg : Gl X "isinstance") (hm : X.mg "isinstance" = none) (ha : FV X W κ m a fa) (hc : Cls1 X T e) (hs : starEach (a :: [e]) X.env = (false, eval a X.env) :: starEach [e] X.env := by rfl) (hs2 : starEach (e :: []) X.env = (false, eval e X.env) :: starEach [] X.env := by rfl) (hpl : (backTo pos (starEach [e] X.env)).any (·.1) = false := by rfl) :
    FV X W κ (.t (.v b)) (.Call (.Name "isinstance" p) [a, e] [] pos) (f1b m q fa) :=
  (pe_callB call_isi hg hm boot_isinstance (pa_cons ha (pa_cons hc pa_nil hs2) hs) (by decide) (by decide) hs hpl).imp fun σ H Q h =>
    ev_1 (r := fun x H Q => rIsi X.K [x, .ty T] H Q) (fun ρ w w1 x dx vx z rel ext t ex ez post => by
      cases ez
      exact ⟨vx, .ty T, _, _, q x, rfl, .ty T, tyX_of (rd_dp rel t ex), kit_ty (hq x), fin_imm post rel ext (.bl _)⟩) h
/-- isinstance(x, (T1, T2)) -/
theorem fe_isi2 {T1 T2 : String} {q1 q2 : D → Bool} {e1 e2 : Expr} {x1 : _} {pt : Pos} (hq1 : Isi T1 q1) (hq2 : Isi T2 q2) (hg : Gl X "isinstance") (hm : X.mg "isinstance" = none) (ha : FV X W κ m a fa) (hc1 : Cls1 X T1 e1) (hc2 : Cls1 X T2 e2) (hs : starEach (a :: [.Tuple [e1, e2] x1 pt]) X.env = (false, eval a X.env) :: starEach [.Tuple [e1, e2] x1 pt] X.env := by rfl)
    (hs2 : starEach (.Tuple [e1, e2] x1 pt :: []) X.env = (false, eval (.Tuple [e1, e2] x1 pt) X.env) :: starEach [] X.env := by rfl) (hs3 : starEach (e1 :: [e2]) X.env = (false, eval e1 X.env) :: starEach [e2] X.env := by rfl) (hs4 : starEach (e2 :: []) X.env = (false, eval e2 X.env) :: starEach [] X.env := by rfl) (hpl : (backTo pos (starEach [.Tuple [e1, e2] x1 pt] X.env)).any (·.1) = false := by rfl) :
    FV X W κ (.t (.v b)) (.Call (.Name "isinstance" p) [a, .Tuple [e1, e2] x1 pt] [] pos) (f1b m (fun d => q1 d || q2 d) fa) :=
  (pe_callB call_isiT hg hm boot_isinstance (pa_cons ha (pa_cons (pe_tup (pa_cons hc1 (pa_cons hc2 pa_nil hs4) hs3)) pa_nil hs2) hs) (by decide) (by decide) hs hpl).imp fun σ H Q h =>
    ev_1 (r := fun x H Q => [V.ty T1, V.ty T2].length ≤ sizeLine ∧ ∀ p, H p = none → rIsiT X.K [x, .ref p] (upd H p (.tup [.ty T1, .ty T2])) Q) (fun ρ w w1 x dx vx z rel ext t ex ez post => by
      cases ez
      refine ⟨by show 2 ≤ sizeLine; decide, fun tp np => ?_⟩
      obtain ⟨w2, eH, eF, ef, rel2, e2⟩ := world_own (o := .tup [.ty T1, .ty T2]) rel np
      have dp : Dp X.K w2.H vx x := by
        have t2 := t.keep e2
        exact rd_dp rel2 t2 ex
      rw [← eH]
      refine ⟨vx, tp, [.ty T1, .ty T2], _, [.type T1, .type T2], q1 x || q2 x, rfl, by rw [eH, upd_same], .cons (.ty T1) (.cons (.ty T2) .nil), tyX_of dp, ?_, fin_imm post rel2 (ext.trans e2) (.bl _)⟩
      refine kitAny_cons (kit_ty (hq1 x)) (fun h1 => ?_) (fun h1 => by rw [h1]; rfl)
      rw [h1, Bool.false_or]
      exact kitAny_cons (kit_ty (hq2 x)) (fun h2 => by rw [h2]; exact kitAny_nil) fun h2 => h2) h
/-! ### int, abs, max, min -/
def dInt : D → Option D
  | .int i => some (.int i)
  | .bool k => some (.int (if k then 1 else 0))
  | .str x => match PySem.intText? x with
    | some n => if x.length ≤ 640 then some (.int n) else none
    | none => none
  | _ => none
theorem fe_int1 (hg : Gl X "int") (hm : X.mg "int" = none) (ha : FV X W κ m a fa) (hs : starEach (a :: []) X.env = (false, eval a X.env) :: starEach [] X.env := by rfl) : FV X W κ (.t (.v b)) (.Call (.Name "int" p) [a] [] pos) (f1 m dInt fa) :=
  (pe_callTy (call_int1.or call_int_str) hg hm PyProof.Rows.boot_int (pa_cons ha pa_nil hs) (by decide) (by decide) hs).imp fun σ H Q h => ev_c1 (fun ρ w w1 x dx vx z rel ext t ex ez post => by
    unfold dInt at ez
    split at ez
    · cases ez
      exact .inl (.inl ⟨_, by rw [dp_int (rd_dp rel t ex)], fin_imm post rel ext (.int _)⟩)
    · cases ez
      exact .inl (.inr ⟨_, by rw [dp_bl (rd_dp rel t ex)], fin_imm post rel ext (.int _)⟩)
    · split at ez
      · rename_i n hn
        split at ez
        · rename_i hl
          cases ez
          exact .inr ⟨_, n, by rw [dp_str (rd_dp rel t ex)], hn, hl, fin_imm post rel ext (.int _)⟩
        · cases ez
      · cases ez
    · cases ez) h
def dAbs : D → Option D
  | .int i => some (.int (if i < 0 then -i else i))
  | _ => none
theorem fe_abs (hg : Gl X "abs") (hm : X.mg "abs" = none) (ha : FV X W κ m a fa) (hs : starEach (a :: []) X.env = (false, eval a X.env) :: starEach [] X.env := by rfl) : FV X W κ (.t (.v b)) (.Call (.Name "abs" p) [a] [] pos) (f1 m dAbs fa) :=
  (pe_callB call_abs hg hm boot_abs (pa_cons ha pa_nil hs) (by decide) (by decide) hs).imp fun σ H Q h => ev_c1 (fun ρ w w1 x dx vx z rel ext t ex ez post => by
    unfold dAbs at ez
    split at ez
    · cases ez
      exact ⟨_, by rw [dp_int (rd_dp rel t ex)], fin_imm post rel ext (.int _)⟩
    · cases ez) h
def dMax2 : D → D → Option D := oI (fun _ _ => true) fun i j => .int (if j > i then j else i)
def dMin2 : D → D → Option D := oI (fun _ _ => true) fun i j => .int (if j < i then j else i)
theorem fe_max2 (hc : X.calm = true) (hg : Gl X "max") (hm : X.mg "max" = none) (ha : FV X W κ ma a fa) (hb : FV X W κ mb e fb) (hs : starEach (a :: [e]) X.env = (false, eval a X.env) :: starEach [e] X.env := by rfl) (hs2 : starEach (e :: []) X.env = (false, eval e X.env) :: starEach [] X.env := by rfl) (hpl : (backTo pos (starEach [e] X.env)).any (·.1) = false := by rfl) : FV X W κ (.t (.v b)) (.Call (.Name "max" p) [a, e] [] pos) (f2 ma mb dMax2 fa fb) :=
  (pe_callB (call_max2 hc) hg hm boot_max (pa_cons ha (pa_cons hb pa_nil hs2) hs) (by decide) (by decide) hs hpl).imp fun σ H Q h => ev_c2 (fun ρ w w2 x y dx dy vx vy z rel ext t1 t2 ex ey ez post => by
    unfold dMax2 oI at ez
    split at ez
    · cases ez
      exact ⟨_, _, by rw [dp_int (rd_dp rel t1 ex), dp_int (rd_dp rel t2 ey)], fin_imm post rel ext (.int _)⟩
    · cases ez) h
theorem fe_min2 (hc : X.calm = true) (hg : Gl X "min") (hm : X.mg "min" = none) (ha : FV X W κ ma a fa) (hb : FV X W κ mb e fb) (hs : starEach (a :: [e]) X.env = (false, eval a X.env) :: starEach [e] X.env := by rfl) (hs2 : starEach (e :: []) X.env = (false, eval e X.env) :: starEach [] X.env := by rfl) (hpl : (backTo pos (starEach [e] X.env)).any (·.1) = false := by rfl) : FV X W κ (.t (.v b)) (.Call (.Name "min" p) [a, e] [] pos) (f2 ma mb dMin2 fa fb) :=
  (pe_callB (call_min2 hc) hg hm boot_min (pa_cons ha (pa_cons hb pa_nil hs2) hs) (by decide) (by decide) hs hpl).imp fun σ H Q h => ev_c2 (fun ρ w w2 x y dx dy vx vy z rel ext t1 t2 ex ey ez post => by
    unfold dMin2 oI at ez
    split at ez
    · cases ez
      exact ⟨_, _, by rw [dp_int (rd_dp rel t1 ex), dp_int (rd_dp rel t2 ey)], fin_imm post rel ext (.int _)⟩
    · cases ez) h
/-! ### over a list: sum, all, any, sorted; list(x), tuple(x) -/
def ints? : List D → Option (List Int)
  | [] => some []
  | .int i :: ds => (ints? ds).map (i :: ·)
  | _ => none
def bools? : List D → Option (List Bool)
  | [] => some []
  | .bool i :: ds => (bools? ds).map (i :: ·)
  | _ => none
theorem ints_vals {K : PySem.W.Frag} {H : Hp} : ∀ {xs : List V} {ds : List D} {ns : List Int}, DpAll K H xs ds → ints? ds = some ns → xs = ns.map V.int ∧ ds = ns.map PyData.int
  | _, _, _, .nil, e => by
    cases e
    exact ⟨rfl, rfl⟩
  | _, _, _, .cons h t, e => by
    cases h with
    | int i =>
      unfold ints? at e
      cases q : ints? _ with
      | none =>
        rw [q] at e
        cases e
      | some ns =>
        rw [q] at e
        cases e
        obtain ⟨e1, e2⟩ := ints_vals t q
        exact ⟨by rw [List.map_cons, ← e1], by rw [List.map_cons, ← e2]⟩
    | non => cases e
    | bl => cases e
    | str => cases e
    | lst => cases e
    | tup => cases e
theorem bools_vals {K : PySem.W.Frag} {H : Hp} : ∀ {xs : List V} {ds : List D} {ns : List Bool}, DpAll K H xs ds → bools? ds = some ns → xs = ns.map V.bl
  | _, _, _, .nil, e => by
    cases e
    rfl
  | _, _, _, .cons h t, e => by
    cases h with
    | bl i =>
      unfold bools? at e
      cases q : bools? _ with
      | none =>
        rw [q] at e
        cases e
      | some ns =>
        rw [q] at e
        cases e
        have e1 := bools_vals t q
        rw [List.map_cons, ← e1]
    | non => cases e
    | int => cases e
    | str => cases e
    | lst => cases e
    | tup => cases e
theorem dp_list {K : PySem.W.Frag} {H : Hp} {v : V} {ds : List D} (h : Dp K H v (.list ds)) : ∃ a xs, v = .ref a ∧ SqL K H a xs ∧ DpAll K H xs ds := by
  cases h with
  | lst h t => exact ⟨_, _, rfl, h, t⟩
def dSum : D → Option D
  | .list ds => (ints? ds).map fun ns => .int ns.sum
  | _ => none
def dAll : D → Option D
  | .list ds => (bools? ds).map fun bs => .bool (bs.all id)
  | _ => none
def dAny : D → Option D
  | .list ds => (bools? ds).map fun bs => .bool (bs.any id)
  | _ => none
theorem fe_sum (hc : X.calm = true) (hg : Gl X "sum") (hm : X.mg "sum" = none) (ha : FV X W κ m a fa) (hs : starEach (a :: []) X.env = (false, eval a X.env) :: starEach [] X.env := by rfl) : FV X W κ (.t (.v b)) (.Call (.Name "sum" p) [a] [] pos) (f1 m dSum fa) :=
  (pe_callB (cr_sum hc) hg hm boot_sum (pa_cons ha pa_nil hs) (by decide) (by decide) hs).imp fun σ H Q h => ev_c1 (fun ρ w w1 x dx vx z rel ext t ex ez post => by
    unfold dSum at ez
    split at ez
    · cases q : ints? _ with
      | none =>
        rw [q] at ez
        cases ez
      | some ns =>
        rw [q] at ez
        cases ez
        obtain ⟨a, xs, rfl, hl, al⟩ := dp_list (rd_dp rel t ex)
        obtain ⟨rfl, _⟩ := ints_vals al q
        exact ⟨a, ns, rfl, hl, fin_imm post rel ext (.int _)⟩
    · cases ez) h
theorem fe_all (hc : X.calm = true) (hg : Gl X "all") (hm : X.mg "all" = none) (ha : FV X W κ m a fa) (hs : starEach (a :: []) X.env = (false, eval a X.env) :: starEach [] X.env := by rfl) : FV X W κ (.t (.v b)) (.Call (.Name "all" p) [a] [] pos) (f1 m dAll fa) :=
  (pe_callB (cr_all hc) hg hm boot_all (pa_cons ha pa_nil hs) (by decide) (by decide) hs).imp fun σ H Q h => ev_c1 (fun ρ w w1 x dx vx z rel ext t ex ez post => by
    unfold dAll at ez
    split at ez
    · cases q : bools? _ with
      | none =>
        rw [q] at ez
        cases ez
      | some ns =>
        rw [q] at ez
        cases ez
        obtain ⟨a, xs, rfl, hl, al⟩ := dp_list (rd_dp rel t ex)
        have := bools_vals al q
        subst this
        exact ⟨a, ns, rfl, hl, fin_imm post rel ext (.bl _)⟩
    · cases ez) h
theorem fe_any (hc : X.calm = true) (hg : Gl X "any") (hm : X.mg "any" = none) (ha : FV X W κ m a fa) (hs : starEach (a :: []) X.env = (false, eval a X.env) :: starEach [] X.env := by rfl) : FV X W κ (.t (.v b)) (.Call (.Name "any" p) [a] [] pos) (f1 m dAny fa) :=
  (pe_callB (cr_any hc) hg hm boot_any (pa_cons ha pa_nil hs) (by decide) (by decide) hs).imp fun σ H Q h => ev_c1 (fun ρ w w1 x dx vx z rel ext t ex ez post => by
    unfold dAny at ez
    split at ez
    · cases q : bools? _ with
      | none =>
        rw [q] at ez
        cases ez
      | some ns =>
        rw [q] at ez
        cases ez
        obtain ⟨a, xs, rfl, hl, al⟩ := dp_list (rd_dp rel t ex)
        have := bools_vals al q
        subst this
        exact ⟨a, ns, rfl, hl, fin_imm post rel ext (.bl _)⟩
    · cases ez) h
/-- list(x): a new list -/
def dList : D → Option D
  | .list ds => some (.list ds)
  | .tuple ds => some (.list ds)
  | _ => none
def dTuple : D → Option D
  | .list ds => some (.tuple ds)
  | .tuple ds => some (.tuple ds)
  | _ => none
theorem fe_list {kd : Kind} (hd : newL b kd) (hg : Gl X "list") (hm : X.mg "list" = none) (ha : FV X W κ m a fa) (h1 : itB b κ m := by rfl) (hs : starEach (a :: []) X.env = (false, eval a X.env) :: starEach [] X.env := by rfl) : FV X W κ (.t kd) (.Call (.Name "list" p) [a] [] pos) (f1 m dList fa) :=
  (pe_callTy call_list_of hg hm PyProof.Rows.boot_list (pa_cons ha pa_nil hs) (by decide) (by decide) hs).imp fun σ H Q h => ev_c1 (fun ρ w w1 x dx vx z rel ext t ex ez post => by
    unfold dList at ez
    split at ez
    · cases ez
      obtain ⟨q, us, eq, sq, rs⟩ := opd_list h1 rel t ex
      exact ⟨q, us, by rw [eq], .inl (SqL.of sq), fun l nl => fin_lst hd post rel ext rs nl⟩
    · cases ez
      obtain ⟨q, us, eq, sq, _, rs⟩ := opd_tup h1 rel t ex
      exact ⟨q, us, by rw [eq], .inr sq, fun l nl => fin_lst hd post rel ext rs nl⟩
    · cases ez) h
theorem fe_tuple (hg : Gl X "tuple") (hm : X.mg "tuple" = none) (ha : FV X W κ m a fa) (h1 : itB b κ m := by rfl) (hs : starEach (a :: []) X.env = (false, eval a X.env) :: starEach [] X.env := by rfl) : FV X W κ (.t (.v b)) (.Call (.Name "tuple" p) [a] [] pos) (f1 m dTuple fa) :=
  (pe_callTy call_tuple_of hg hm PyProof.Rows.boot_tuple (pa_cons ha pa_nil hs) (by decide) (by decide) hs).imp fun σ H Q h => ev_c1 (fun ρ w w1 x dx vx z rel ext t ex ez post => by
    unfold dTuple at ez
    split at ez
    · cases ez
      obtain ⟨q, us, eq, sq, rs⟩ := opd_list h1 rel t ex
      exact ⟨q, us, by rw [eq], .inl ⟨SqL.of sq, fun l nl => fin_tup post rel ext rs nl⟩⟩
    · cases ez
      obtain ⟨q, us, eq, sq, r1, rs⟩ := opd_tup h1 rel t ex
      refine ⟨q, us, by rw [eq], .inr ⟨sq, ?_⟩⟩
      rw [← eq]
      exact fin_imm post rel ext r1
    · cases ez) h
/-! ### list(range(..)), tuple(range(..)) -/
def PostRg (c : Ct) (κ : List Kind) (σ : L2.St) (w : Wd) (Q : Int → Int → Hp → Prop) : Option (Out (List D)) → Prop
  | some (.ok ds ρ') => ∀ i j w', ds = rgD i j → RgOk i j → Rel c.K κ ρ' σ w' → Ext w w' → Q i j w'.H
  | some (.err n d ρ') => ErrOk c κ σ w n d ρ'
  | none => False
def tRgF (c : Ct) (κ : List Kind) (f : M (List D)) : L2.St → Hp → (Int → Int → Hp → Prop) → Prop := fun σ H Q => ∃ ρ w, w.H = H ∧ Rel c.K κ ρ σ w ∧ PostRg c κ σ w Q (f ρ)
def FRg (X : Cx) (W : WX) (κ : List Kind) (e : Expr) (f : M (List D)) : Prop := PRg X e (tRgF (ctx X W) κ f)
theorem PRg.imp' {e : Expr} {t t' : L2.St → Hp → (Int → Int → Hp → Prop) → Prop} (h : PRg X e t) (i : ∀ σ H Q, t' σ H Q → t σ H Q) : PRg X e t' := fun pins s σ H Q I q => h pins s σ H Q I (i σ H Q q)
def okRg (i j : Int) : Bool := decide (-(2 ^ 62) ≤ i ∧ i < 2 ^ 62 ∧ -(2 ^ 62) ≤ j ∧ j < 2 ^ 62 ∧ (j - i).toNat ≤ 2 ^ 24)
def rRg1 (m : Md) (fa : M D) : M (List D) := fun ρ => bdo (fa ρ) fun x ρ1 => match rd m x ρ1 with
  | some (.int j) => if okRg 0 j = true then some (.ok (rgD 0 j) ρ1) else none
  | _ => none
def rRg2 (ma mb : Md) (fa fb : M D) : M (List D) := fun ρ => bdo (fa ρ) fun x ρ1 => bdo (fb ρ1) fun y ρ2 => match rd ma x ρ2, rd mb y ρ2 with
  | some (.int i), some (.int j) => if okRg i j = true then some (.ok (rgD i j) ρ2) else none
  | _, _ => none
theorem frg_1 (hg : Gl X "range") (hm : X.mg "range" = none) (ha : FV X W κ m a fa) (hs : starEach [a] X.env = (false, eval a X.env) :: starEach [] X.env := by rfl) : FRg X W κ (.Call (.Name "range" p) [a] [] pos) (rRg1 m fa) := PRg.imp' (prg_1 hg hm ha hs) fun σ H Q h => by
  obtain ⟨ρ, w, rfl, rel, post⟩ := h
  refine seqV (P := PostRg (ctx X W) κ σ w Q) rel post (fun z => z) (fun n d ρ' z => z) fun d ρ1 v w1 rel1 e1 t1 post1 => ?_
  cases q : rd m d ρ1 with
  | none =>
    rw [q] at post1
    exact post1.elim
  | some x =>
    rw [q] at post1
    cases x with
    | int j =>
      dsimp only at post1
      by_cases hok : okRg 0 j = true
      · rw [if_pos hok] at post1
        exact ⟨j, dp_int (rd_dp rel1 t1 q), post1 0 j w1 rfl (of_decide_eq_true hok : -(2 ^ 62) ≤ (0 : Int) ∧ (0 : Int) < 2 ^ 62 ∧ -(2 ^ 62) ≤ j ∧ j < 2 ^ 62 ∧ (j - 0).toNat ≤ 2 ^ 24) rel1 e1⟩
      · rw [if_neg hok] at post1
        exact post1.elim
    | none => exact post1.elim
    | bool _ => exact post1.elim
    | str _ => exact post1.elim
    | list _ => exact post1.elim
    | tuple _ => exact post1.elim
    | dict _ => exact post1.elim
theorem rgV_rds {K : PySem.W.Frag} {F : Hp} (i j : Int) : RDs b K F (rgV i j) (rgD i j) := by
  unfold rgV rgD
  generalize List.range (j - i).toNat = l
  induction l with
  | nil => exact .nil
  | cons k l ih => exact .cons (.int _) ih
def fLrg (fr : M (List D)) : M D := fun ρ => bdo (fr ρ) fun ds ρ1 => some (.ok (.list ds) ρ1)
def fTrg (fr : M (List D)) : M D := fun ρ => bdo (fr ρ) fun ds ρ1 => some (.ok (.tuple ds) ρ1)
theorem fe_listRg {kd : Kind} {fr : M (List D)} (hd : newL b kd) (hc : X.calm = true) (hg : Gl X "list") (hm : X.mg "list" = none) (he : FRg X W κ e fr) (hs : starEach [e] X.env = (false, eval e X.env) :: starEach [] X.env := by rfl) : FV X W κ (.t kd) (.Call (.Name "list" p) [e] [] pos) (fLrg fr) := (pe_listRg hc hg hm he hs).imp fun σ H Q h => by
  obtain ⟨ρ, w, rfl, rel, post⟩ := h
  refine ⟨ρ, w, rfl, rel, ?_⟩
  unfold fLrg bdo bnd at post
  cases q : fr ρ with
  | none =>
    rw [q] at post
    exact post
  | some o =>
    rw [q] at post
    cases o with
    | err n d ρ' => exact post
    | ok ds ρ' =>
      intro i j w' eds hok rel' e'
      subst eds
      exact ⟨hok, fun q nq => fin_lst hd post rel' e' (rgV_rds i j) nq⟩
theorem fe_tupRg {fr : M (List D)} (hc : X.calm = true) (hg : Gl X "tuple") (hm : X.mg "tuple" = none) (he : FRg X W κ e fr) (hs : starEach [e] X.env = (false, eval e X.env) :: starEach [] X.env := by rfl) : FV X W κ (.t (.v b)) (.Call (.Name "tuple" p) [e] [] pos) (fTrg fr) := (pe_tupRg hc hg hm he hs).imp fun σ H Q h => by
  obtain ⟨ρ, w, rfl, rel, post⟩ := h
  refine ⟨ρ, w, rfl, rel, ?_⟩
  unfold fTrg bdo bnd at post
  cases q : fr ρ with
  | none =>
    rw [q] at post
    exact post
  | some o =>
    rw [q] at post
    cases o with
    | err n d ρ' => exact post
    | ok ds ρ' =>
      intro i j w' eds hok rel' e'
      subst eds
      exact ⟨hok, fun q nq => fin_tup post rel' e' (rgV_rds i j) nq⟩
end
end FN
set_option Elab.async false
set_option linter.all false
set_option maxRecDepth 100000
set_option maxHeartbeats 4000000
/-! FN10: more operators. -/
namespace FN
open PySem PySem.Spec PyProof.Rows L2
section
variable {X : Cx} {W : WX} {κ : List Kind} {pos : Pos} {a b : Expr} {fa fb : M D} {ma mb : Md}
/-! ### a * b -/
def dMul : D → D → Option D
  | .int i, .int j => if i.natAbs.log2 + j.natAbs.log2 < 1000000 then some (.int (i * j)) else none
  | .list ds, .int k => if 0 ≤ k ∧ k < 2 ^ 63 ∧ ds.length * k.toNat ≤ sizeLine then some (.list (List.replicate k.toNat ds).flatten) else none
  | .tuple ds, .int k => if ds ≠ [] ∧ 2 ≤ k ∧ k ≤ 1000 ∧ ds.length ≤ 1000 then some (.tuple (List.replicate k.toNat ds).flatten) else none
  | _, _ => none
theorem rds_rep {K : PySem.W.Frag} {k : Bool} {F : Hp} {xs : List V} {ds : List D} (r : RDs k K F xs ds) : ∀ n : Nat, RDs k K F (List.replicate n xs).flatten (List.replicate n ds).flatten
  | 0 => .nil
  | n + 1 => by
    rw [List.replicate_succ, List.replicate_succ, List.flatten_cons, List.flatten_cons]
    exact r.append (rds_rep r n)
theorem fe_mul {k : Bool} {kd : Kind} (ha : FV X W κ ma a fa) (hb : FV X W κ mb b fb) (hd : kd = .v k := by rfl) (h1 : itB k κ ma := by rfl) : FV X W κ (.t kd) (.BinOp a .Mult b pos) (f2 ma mb dMul fa fb) := by
  subst hd
  refine (pe_op (((op_mulW (X := X)).or op_rep).or op_repT) ha hb).imp fun _ _ _ h => ev_2 (fun ρ w w2 x y dx dy vx vy z rel e t1 t2 e1 e2 ez post => ?_) h
  unfold dMul at ez
  split at ez
  · split at ez
    · rename_i hc
      cases ez
      exact .inl (.inl ⟨_, _, dp_int (rd_dp rel t1 e1), dp_int (rd_dp rel t2 e2), hc, fin_imm post rel e (.int _)⟩)
    · cases ez
  · split at ez
    · rename_i hc
      cases ez
      obtain ⟨p, us, ep, sp, rs1⟩ := opd_list h1 rel t1 e1
      exact .inl (.inr ⟨p, _, us, ep, dp_int (rd_dp rel t2 e2), sp, by have := hc.1; omega, hc.2.1, by rw [rs1.length]; exact hc.2.2, fun p' np => fin_lst (b := k) (k := .v k) rfl post rel e (rds_rep rs1 _) np⟩)
    · cases ez
  · split at ez
    · rename_i hc
      cases ez
      obtain ⟨p, us, ep, sp, r1, rs1⟩ := opd_tup h1 rel t1 e1
      exact .inr ⟨p, _, us, ep, dp_int (rd_dp rel t2 e2), sp, fun z => hc.1 (by cases rs1 with | nil => rfl | cons _ _ => cases z), hc.2.1, hc.2.2.1, by rw [rs1.length]; exact hc.2.2.2, fun p' np => fin_tup post rel e (rds_rep rs1 _) np⟩
    · cases ez
  · cases ez
/-- list * n, owned -/
def dRep : D → D → Option D
  | .list ds, .int k => if 0 ≤ k ∧ k < 2 ^ 63 ∧ ds.length * k.toNat ≤ sizeLine then some (.list (List.replicate k.toNat ds).flatten) else none
  | _, _ => none
theorem fe_rep {k : Bool} {kd : Kind} (ha : FV X W κ ma a fa) (hb : FV X W κ mb b fb) (hd : newL k kd := by rfl) (h1 : itB k κ ma := by rfl) : FV X W κ (.t kd) (.BinOp a .Mult b pos) (f2 ma mb dRep fa fb) := by
  refine (pe_op (op_rep (X := X)) ha hb).imp fun _ _ _ h => ev_2 (fun ρ w w2 x y dx dy vx vy z rel e t1 t2 e1 e2 ez post => ?_) h
  unfold dRep at ez
  split at ez
  · split at ez
    · rename_i hc
      cases ez
      obtain ⟨p, us, ep, sp, rs1⟩ := opd_list h1 rel t1 e1
      exact ⟨p, _, us, ep, dp_int (rd_dp rel t2 e2), sp, by have := hc.1; omega, hc.2.1, by rw [rs1.length]; exact hc.2.2, fun p' np => fin_lst (b := k) hd post rel e (rds_rep rs1 _) np⟩
    · cases ez
  · cases ez
end
section
variable {K : PySem.W.Frag}
/-! ### a // b -/
def dDiv : D → D → Option D := oI (fun _ j => decide (0 < j ∧ j.natAbs.log2 < 9000)) fun i j => .int (i / j)
theorem s_div : Sc K (rI CDivW fun i j => .int (i / j)) dDiv := sc_I (fun i j h => (of_decide_eq_true h : 0 < j ∧ j.natAbs.log2 < 9000)) fun i j b F => .int _
/-! ### is -/
def isNone : D → Bool
  | .none => true
  | _ => false
def dIs : D → D → Option D
  | x, .none => some (.bool (isNone x))
  | .bool a, .bool b => some (.bool (decide (a = b)))
  | _, _ => none
def dIsN : D → D → Option D
  | x, .none => some (.bool (!isNone x))
  | .bool a, .bool b => some (.bool (!decide (a = b)))
  | _, _ => none
theorem dp_none {H : Hp} {x : V} (h : Dp K H x .none) : x = .non := by cases h; rfl
theorem dp_isNone {H : Hp} {x : V} {d : D} (h : Dp K H x d) : decide (x = .non) = isNone d := by
  cases h <;> first | rfl | exact decide_eq_false (by intro z; cases z)
theorem s_is : Sc K (fun x y H Q => rIsN x y H Q ∨ rIsB x y H Q) dIs := by
  intro x y dx dy z H Q hx hy ho q
  unfold dIs at ho
  split at ho
  · cases ho
    exact .inl ⟨dp_none hy, by rw [dp_isNone hx]; exact q _ fun b F => .bl _⟩
  · cases ho
    exact .inr ⟨_, _, dp_bl hx, dp_bl hy, q _ fun b F => .bl _⟩
  · cases ho
theorem s_isn : Sc K (fun x y H Q => rNotN x y H Q ∨ rNotB x y H Q) dIsN := by
  intro x y dx dy z H Q hx hy ho q
  unfold dIsN at ho
  split at ho
  · cases ho
    exact .inl ⟨dp_none hy, by rw [dp_isNone hx]; exact q _ fun b F => .bl _⟩
  · cases ho
    exact .inr ⟨_, _, dp_bl hx, dp_bl hy, q _ fun b F => .bl _⟩
  · cases ho
end
section
variable {X : Cx}
theorem op_isA : OpR X (compareOp .Is) (fun x y H Q => rIsN x y H Q ∨ rIsB x y H Q) := (op_isN1 (X := X)).or op_isBl
theorem op_isNotA : OpR X (compareOp .IsNot) (fun x y H Q => rNotN x y H Q ∨ rNotB x y H Q) := (op_notN1 (X := X)).or op_notBl
/-! ### in -/
/-- x in a list or a tuple of data -/
def rInA (K : PySem.W.Frag) (neg : Bool) : R2 := fun x y H Q => (∃ d e ds, Dp K H x d ∧ Dp K H y e ∧ (e = .list ds ∨ e = .tuple ds) ∧ SeqAt.shaped d = true ∧ SeqAt.shaped e = true ∧ Q (.bl (if neg then !(ds.any fun z => PyData.eqv z d) else ds.any fun z => PyData.eqv z d)) H)
theorem op_inA0 (hu : X.A.units + 65 < cLine) : OpR X (compareOp .In) (rInA X.K false) := by
  intro pins s σ H x y v u Q I rx ry h
  obtain ⟨d, e, ds, hd, he, ee, sd, se, q⟩ := h
  obtain ⟨as, r1⟩ := Dp.reads I d x v hd rx
  obtain ⟨bs, r2⟩ := Dp.reads I e y u he ry
  rcases ee with rfl | rfl
  · exact SeqAt.in_list_reads r2 r1 (SeqAt.canLay_of_shaped se) (SeqAt.canLay_of_shaped sd) (room_in_shaped sd hu) ⟨.bl _, H, I, rfl, q⟩
  · exact SeqAt.in_tuple_reads r2 r1 (SeqAt.canLay_of_shaped se) (SeqAt.canLay_of_shaped sd) (room_in_shaped sd hu) ⟨.bl _, H, I, rfl, q⟩
theorem op_ninA0 (hu : X.A.units + 65 < cLine) : OpR X (compareOp .NotIn) (rInA X.K true) := by
  intro pins s σ H x y v u Q I rx ry h
  obtain ⟨d, e, ds, hd, he, ee, sd, se, q⟩ := h
  obtain ⟨as, r1⟩ := Dp.reads I d x v hd rx
  obtain ⟨bs, r2⟩ := Dp.reads I e y u he ry
  rcases ee with rfl | rfl
  · exact SeqAt.notIn_list_reads r2 r1 (SeqAt.canLay_of_shaped se) (SeqAt.canLay_of_shaped sd) (room_in_shaped sd hu) ⟨.bl _, H, I, rfl, q⟩
  · exact SeqAt.notIn_tuple_reads r2 r1 (SeqAt.canLay_of_shaped se) (SeqAt.canLay_of_shaped sd) (room_in_shaped sd hu) ⟨.bl _, H, I, rfl, q⟩
def rInStr : R2 := fun x y H Q => ∃ i j, x = .str i ∧ y = .str j ∧ Q (.bl (!(Builtin.Str.occurrences j i 0 j.length 1).isEmpty)) H
def rNinStr : R2 := fun x y H Q => ∃ i j, x = .str i ∧ y = .str j ∧ Q (.bl (!(!(Builtin.Str.occurrences j i 0 j.length 1).isEmpty))) H
theorem op_inA {n : Nat} (hr : Room n X.A) : OpR X (compareOp .In) (fun x y H Q => (rInA X.K false x y H Q ∨ rInS x y H Q) ∨ rInStr x y H Q) := ((op_inA0 (by have := hr.un; omega)).or op_inS).or op_in_str
theorem op_ninA {n : Nat} (hr : Room n X.A) : OpR X (compareOp .NotIn) (fun x y H Q => (rInA X.K true x y H Q ∨ rNotInS x y H Q) ∨ rNinStr x y H Q) := ((op_ninA0 (by have := hr.un; omega)).or op_notInS).or op_notin_str
end
section
variable {K : PySem.W.Frag}
/-- is a's text within b's -/
def strIn (i j : Str) : Bool := match i.cps.toList with
  | [c] => decide (c ∈ j.cps.toList)
  | _ => !(Builtin.Str.occurrences j i 0 j.length 1).isEmpty
def dInB : D → D → Option Bool
  | d, .list ds => if SeqAt.shaped d && SeqAt.shaped (.list ds) then some (ds.any fun z => PyData.eqv z d) else none
  | d, .tuple ds => if SeqAt.shaped d && SeqAt.shaped (.tuple ds) then some (ds.any fun z => PyData.eqv z d) else none
  | .str i, .str j => some (strIn i j)
  | _, _ => none
def dIn (x y : D) : Option D := (dInB x y).map fun b => .bool b
def dNin (x y : D) : Option D := (dInB x y).map fun b => .bool (!b)
theorem strIn_or {i j : Str} {neg : Bool} {H : Hp} {Q : VK} (q : Q (.bl (if neg then !strIn i j else strIn i j)) H) : (∃ (c : Nat), i = ⟨#[c]⟩ ∧ Q (.bl (if neg then !decide (c ∈ j.cps.toList) else decide (c ∈ j.cps.toList))) H) ∨ Q (.bl (if neg then !(!(Builtin.Str.occurrences j i 0 j.length 1).isEmpty) else !(Builtin.Str.occurrences j i 0 j.length 1).isEmpty)) H := by
  obtain ⟨⟨l⟩⟩ := i
  match l, q with
  | [], q => exact .inr q
  | [c], q => exact .inl ⟨c, rfl, q⟩
  | _ :: _ :: _, q => exact .inr q
theorem s_in : Sc K (fun x y H Q => (rInA K false x y H Q ∨ rInS x y H Q) ∨ rInStr x y H Q) dIn := by
  intro x y dx dy z H Q hx hy ho q
  unfold dIn dInB at ho
  split at ho
  · split at ho
    · rename_i c
      cases ho
      rw [Bool.and_eq_true] at c
      exact .inl (.inl ⟨_, _, _, hx, hy, .inl rfl, c.1, c.2, q _ fun b F => .bl _⟩)
    · cases ho
  · split at ho
    · rename_i c
      cases ho
      rw [Bool.and_eq_true] at c
      exact .inl (.inl ⟨_, _, _, hx, hy, .inr rfl, c.1, c.2, q _ fun b F => .bl _⟩)
    · cases ho
  · cases ho
    rename_i i j
    rcases strIn_or (neg := false) (q _ fun b F => .bl _ : Q (.bl (strIn i j)) H) with ⟨c, e, q'⟩ | q'
    · subst e
      exact .inl (.inr ⟨c, j, dp_str hx, dp_str hy, q'⟩)
    · exact .inr ⟨i, j, dp_str hx, dp_str hy, q'⟩
  · cases ho
theorem s_nin : Sc K (fun x y H Q => (rInA K true x y H Q ∨ rNotInS x y H Q) ∨ rNinStr x y H Q) dNin := by
  intro x y dx dy z H Q hx hy ho q
  unfold dNin dInB at ho
  split at ho
  · split at ho
    · rename_i c
      cases ho
      rw [Bool.and_eq_true] at c
      exact .inl (.inl ⟨_, _, _, hx, hy, .inl rfl, c.1, c.2, q _ fun b F => .bl _⟩)
    · cases ho
  · split at ho
    · rename_i c
      cases ho
      rw [Bool.and_eq_true] at c
      exact .inl (.inl ⟨_, _, _, hx, hy, .inr rfl, c.1, c.2, q _ fun b F => .bl _⟩)
    · cases ho
  · cases ho
    rename_i i j
    rcases strIn_or (neg := true) (q _ fun b F => .bl _ : Q (.bl (!strIn i j)) H) with ⟨c, e, q'⟩ | q'
    · subst e
      exact .inl (.inr ⟨c, j, dp_str hx, dp_str hy, q'⟩)
    · exact .inr ⟨i, j, dp_str hx, dp_str hy, q'⟩
  · cases ho
end
end FN
set_option Elab.async false
set_option linter.all false
set_option maxRecDepth 100000
set_option maxHeartbeats 4000000
/-! FN11: an own error over ValueError whose __init__ says super().__init__(text) and self.value = value. -/
namespace FN
open PySem PySem.Spec PyProof.Rows L2
def eA (p1 p2 : Pos) : Arguments := { posonlyargs := [], args := [{ arg := "self", annotation := none, pos := p1 }, { arg := "value", annotation := none, pos := p2 }], vararg := none, kwonlyargs := [], kw_defaults := [], kwarg := none, defaults := [] }
def eB (m : Str) (p0 p1 p2 p3 p4 p5 q1 q2 q3 q4 : Pos) : List Stmt :=
  [.Expr (.Call (.Attribute (.Call (.Name "super" p0) [] [] p1) "__init__" p2) [.Constant (.str m) 0 p3] [] p4) p5, .Assign [.Attribute (.Name "self" q1) "value" q2] (.Name "value" q3) q4]
def eS : Scope := { kind := .function, names := [(PySem.Str.ofString "self", .local), (PySem.Str.ofString "value", .local), (PySem.Str.ofString "__class__", .free), (PySem.Str.ofString "super", .globalImplicit)], isGenerator := false, isCoroutine := false, more := [] }
/-- what the written part says of the base error's own __init__, at fI; D: the class that wrote it -/
structure ErrTxt (P : Program) (K : PySem.W.Frag) (mg : Str → Option Value) (D fI : Addr) : Prop where
  fn : ∃ (qual : Str) (oc : Value) (od : Option Addr) (doc pm : Value) (an : Option Addr) (cda : Addr) (ct : Value) (osl : Array (Option Value)) (cc : Addr) (m : Str) (p1 p2 p3 p4 p5 p6 p7 p8 q1 q2 q3 q4 : Pos),
    K.lookup fI = some ⟨oc, od, .func (PySem.W.ksFn "__init__" qual (eA p1 p2) (eB m p3 p4 p5 p6 p7 p8 q1 q2 q3 q4) eS .none .none doc pm an (.ref cda) ct cc), osl⟩ ∧ PySem.W.codeIn K (.ref cda) qual = true ∧ (p5.endLine == p7.line) = true ∧
    (∃ (ccl : Value) (cdd : Option Addr) (vs : Array Value) (ccs : Array (Option Value)) (file : Str) (tf : Tok), K.lookup cda = some ⟨ccl, cdd, .fields vs, ccs⟩ ∧ vs[2]? = some (.str file tf) ∧ ((P.main.file : Str) == file) = true) ∧
    ∃ (cl : Value) (cld : Option Addr) (csl : Array (Option Value)), K.lookup cc = some ⟨cl, cld, .cell (some (.ref D)), csl⟩
  cD : ∃ cd, PySem.W.clsIn K D = some cd
  top : (P.main.scope.names.lookup ("super" : Str)).isSome = false
  sup : mg "super" = none
  opq : PySem.W.nsIn K PySem.cStatics "thirdparty.any" = some none
/-- .. of a class C that has it -/
structure ErrCls (K : PySem.W.Frag) (D fI C : Addr) : Prop where
  oex : OexC K C
  iC : PySem.W.findIn K (.ref C) "__init__" = some (some (.ref fI))
  tI : PySem.W.typeIn K (.ref fI) = some (.type "function")
  no : PySem.W.findIn K (.ref C) "value" = some none
  sub : PySem.W.mroIn K C (.ref D) = some true
  subV : PySem.W.subIn K (.ref C) (.type "ValueError") = some true
  sup : PySem.W.ks_superIn K C D "__init__" = some (some (.builtin "ValueError.__init__"))
def initSp (C : Addr) : Sp := fun vs H Q _ => ∃ a y, vs = [.ref a, y] ∧ H a = some (exo a C none) ∧ ∀ d, H d = none → d ≠ a → Q .non (upd (upd H d (exd d [(("value" : Str), y)])) a (exo a C (some d)))
def cxK (CX : CXT) (P : Program) (w : World) (K : PySem.W.Frag) (mg : Str → Option Value) (base : Heap) (N : List Str) (qual : Str) (scope : Scope) (f : Addr) (cd : Value) (cc : Addr) (A : Around) (outer : List PySem.Env) (s : Shared) (H : Hp) (E : XK) : Cx where
  prog := P
  w := w
  K := K
  mg := mg
  base := base
  A := A.deeper (PySem.W.ksEnv qual scope s.heap.objs.size f cd cc)
  N := N
  s_0 := s
  H_0 := H
  env := PySem.W.ksEnv qual scope s.heap.objs.size f cd cc
  outer := outer
  stack := PySem.W.ksEnv qual scope s.heap.objs.size f cd cc :: outer
  ex := []
  calm := true
  fn := fun x => !(x == ("__class__" : Str))
  pn := []
  xe := fun e s' => wpAny (model P w) (A.deeper (PySem.W.ksEnv qual scope s.heap.objs.size f cd cc)) (leaving (PySem.W.ksEnv qual scope s.heap.objs.size f cd cc) e) (fun _ s'' => CX outer H s E e s'') (fun e' s'' => CX outer H s E e' s'') s'
theorem one_cell {y : Str} {c cc : Addr} (h : ([(("__class__" : Str), cc)] : List (Str × Addr)).lookup y = some c) : y = "__class__" ∧ c = cc := by
  by_cases e : y = "__class__"
  · subst e
    rw [List.lookup_cons_self] at h
    exact ⟨rfl, (Option.some.inj h).symm⟩
  · have e' : (y == ("__class__" : Str)) = false := by simpa using e
    rw [List.lookup_cons, e'] at h
    cases h
section
variable {P : Program} {w : World} {K : PySem.W.Frag} {mg : Str → Option Value} {base : Heap} {CX : CXT} {D fI C : Addr}
theorem inv_k {qual : Str} {cda cc : Addr} {A : Around} {outer : List PySem.Env} {s : Shared} {h₁ : Heap} {H : Hp} {E : XK} {a : Addr} {y : V} {u : Value} {tk : Nat} {cl : Value} {cld : Option Addr} {csl : Array (Option Value)} (hc : K.lookup cc = some ⟨cl, cld, .cell (some (.ref D)), csl⟩) (hd : A.handled = none) (e0 : Env0 P w K mg base A outer s H) (ry : RelV y u)
    (hns : h₁.Ns s.heap.objs.size (fun x => ((["self", "value"] : List Str).zip [Value.ref a, u]).reverse.lookup x)) (hk : ∀ b o, s.heap.get? b = some o → h₁.get? b = some o) :
    Inv (cxK CX P w K mg base ["self", "value"] qual eS fI (.ref cda) cc A outer s H E) [] [some (.ref a), some y] H { s with heap := h₁, toks := tk } := by
  have noA : ∀ b : Addr, b ∉ (cxK CX P w K mg base ["self", "value"] qual eS fI (.ref cda) cc A outer s H E).ex := fun b z => absurd (show b ∈ ([] : List Addr) from z) (by simp)
  have hb : base.get? cc = some ⟨cl, cld, .cell (some (.ref D)), csl⟩ := e0.mod.kin _ _ hc
  refine ⟨⟨e0.mod, rfl, rfl, rfl, Nat.le_refl _, fun y z c h1 h2 => ?_, fun y hy => ?_, fun y c hf h => ?_, fun _ => hd, Around.frames_deeper e0.frames, .inr ⟨rfl, rfl⟩, fun b z => absurd z (noA b), e0.bs, e0.bsz, fun b _ _ => noA b, fun b z => absurd z (noA b), e0.funs, e0.frf⟩,
    rfl, e0.bare, Un.kept hk, ⟨_, hns, fun i x v h1 h2 h3 => ?_⟩, fun x c h => ?_, e0.hok.fresh (Nat.le_refl _), fun x c h => ?_, fun p hp => absurd (show p ∈ ([] : List (Addr × Obj)) from hp) (by simp), e0.hok.kept hk, rfl⟩
  · exact (one_cell h1).1.trans (one_cell h2).1.symm
  · have hy : eS.names.lookup y = some .cell ∨ eS.names.lookup y = some .free := hy
    by_cases e : y = "__class__"
    · exact ⟨cc, by rw [e]; rfl⟩
    · exfalso
      rcases hy with hy | hy
      · have := PySem.mem_of_lookup hy
        revert this
        unfold eS
        simp
      · have := PySem.mem_of_lookup hy
        revert this
        unfold eS
        simp
        exact e
  · rw [(one_cell h).1] at hf
    exact absurd (show (!(("__class__" : Str) == ("__class__" : Str))) = true from hf) (by decide)
  · match i, h1, h2 with
    | 0, h1, h2 =>
      cases h1
      cases h2
      exact ⟨_, rfl, .inl ⟨rfl, by rfl⟩⟩
    | 1, h1, h2 =>
      cases h1
      cases h2
      exact ⟨_, ry, .inl ⟨rfl, by rfl⟩⟩
  · rw [(one_cell h).2]
    exact ⟨_, _, hk _ _ (e0.bs _ _ hb).1, rfl⟩
  · rw [(one_cell h).2]
    exact (e0.bs _ _ hb).2
/-- super().__init__(..), called -/
theorem call_mw {A : Around} {E : Value → Shared → Prop} {h : Heap} {g : Array GenState} {d : Drawn} {t : Nat} {os : OsState} {u e t0 : Addr} {rest : List Value} {Q : Value → Shared → Prop} {nm q : Str} {N : Addr} {bs bm : List Value} {hdct : Bool} {sn : List Str} {sub : List Value} {ab : Bool} {col : Option Bool} {dd : Option Addr} {k0 k1 k2 k3 k5 : Option Value}
    (hC : h.get? C = some (excClassObj nm q C N bs bm hdct sn sub ab col dd k0 k1 k2 k3 k5 "ValueError.__new__")) (he : h.get? e = some (HandSPX.excO C t0)) (hu : h.get? u = some (PySem.W.kxs_mw "ValueError.__init__" e)) (hrest : rest.length ≤ sizeLine)
    (hq : ∀ h' t1, (∀ b o, b ≠ e → h.get? b = some o → h'.get? b = some o) → h'.get? e = some (HandSPX.excO C t1) → Q .none ⟨h', g, d, t, os⟩) :
    wpAny (model P w) A (call (.ref u) rest) Q E ⟨h, g, d, t, os⟩ := by
  refine wpAny_call (codeAny_of_tree ?_)
  show wpAny _ A.in1 (callAny (.ref u) ⟨rest, []⟩) _ _ _
  simp only [callAny]
  refine wpAny_bind (wpAny_load hu ?_)
  simp only [PySem.W.kxs_mw, show (Value.type "method-wrapper" == Value.type "method" || Value.type "method-wrapper" == Value.type "builtin_function_or_method" || Value.type "method-wrapper" == Value.type "method-wrapper") = true by decide, if_true]
  refine PySem.W.KFB.if_so (by decide) ?_
  refine wpAny_bind (PySem.W.check_bound_init F.excBase_ValueError.toExcCallFacts hC he rfl ?_)
  refine wpAny_bind (wpAny_pure (wpAny_pure ?_))
  refine ⟨Code.quiet_builtin _ (by decide +kernel), codeAny_builtin F.excBase_ValueError.initEntry ?_⟩
  rw [Around.under_plainId F.excBase_ValueError.init.plain _]
  wp_walk
  refine hq _ h.objs.size (fun b o hb ho => ?_) ?_
  · rw [Heap.get?_update_other _ _ (Ne.symm hb)]
    exact Heap.get?_push_of_some _ ho
  · rw [Heap.get?_update_self _ (Heap.get?_push_of_some _ he) rfl]
    rfl
theorem super_call {o : Expr} {m : Str} {p5 p6 p7 : Pos} (ho : ∀ x q, o ≠ .Name x q) (hp : (p5.endLine == p7.line) = true) (env : PySem.Env) : eval (.Call (.Attribute o "__init__" p5) [.Constant (.str m) 0 p6] [] p7) env = (do
    let ov ← attributeBase o "__init__" env (eval o env)
    standAt p5.atName
    let (f, first) ← holding [ov] (getMethod ov "__init__" (do return (← importBound o env).getD true))
    callWith p7 f first (backTo p7 (starEach [.Constant (.str m) 0 p6] env)) []) := by
  show (do
    let ov ← attributeBase o "__init__" env (eval o env)
    standAt p5.atName
    methodCall o "__init__" p5 p7 env ov 1 (backTo p7 (starEach [.Constant (.str m) 0 p6] env)) []) = _
  unfold methodCall methodCallPos
  rw [hp]
  rfl
/-- the first row of __init__, from its place -/
theorem sup_row (T : ErrTxt P K mg D fI) (TC : ErrCls K D fI C) {qual : Str} {cda cc a : Addr} {A : Around} {outer : List PySem.Env} {s s1 : Shared} {H : Hp} {E : XK} {y : V} {cl : Value} {cld : Option Addr} {csl : Array (Option Value)} {oc : Value} {od : Option Addr} {doc pm ct : Value} {an : Option Addr} {osl : Array (Option Value)} {m : Str} {p1 p2 p3 p4 p5 p6 p7 p8 q1 q2 q3 q4 : Pos} {ccl : Value} {cdd : Option Addr} {vs : Array Value} {ccs : Array (Option Value)} {file : Str} {tf : Tok}
    (lk : K.lookup fI = some ⟨oc, od, .func (PySem.W.ksFn "__init__" qual (eA p1 p2) (eB m p3 p4 p5 p6 p7 p8 q1 q2 q3 q4) eS .none .none doc pm an (.ref cda) ct cc), osl⟩)
    (hcd : K.lookup cda = some ⟨ccl, cdd, .fields vs, ccs⟩) (hvs : vs[2]? = some (.str file tf)) (hfile : ((P.main.file : Str) == file) = true) (hcc : K.lookup cc = some ⟨cl, cld, .cell (some (.ref D)), csl⟩) (hpos : (p5.endLine == p7.line) = true)
    (I : Inv (cxK CX P w K mg base ["self", "value"] qual eS fI (.ref cda) cc A outer s H E) [] [some (.ref a), some y] H s1) (ha : H a = some (exo a C none)) {body : List Stmt} {Q : Flow → Shared → Prop}
    (hq : ∀ s', Inv (cxK CX P w K mg base ["self", "value"] qual eS fI (.ref cda) cc A outer s H E) [] [some (.ref a), some y] H s' → Q .next s') :
    PySem.wpAt (model P w) (cxK CX P w K mg base ["self", "value"] qual eS fI (.ref cda) cc A outer s H E).A (.func body (PySem.W.ksEnv qual eS s.heap.objs.size fI (.ref cda) cc)) (exec (.Expr (.Call (.Attribute (.Call (.Name "super" p3) [] [] p4) "__init__" p5) [.Constant (.str m) 0 p6] [] p7) p8) (PySem.W.ksEnv qual eS s.heap.objs.size fI (.ref cda) cc)) Q
      (cxK CX P w K mg base ["self", "value"] qual eS fI (.ref cda) cc A outer s H E).xe s1 := by
  refine ks_wpAt_Expr_any (ks_wpAt_MethodCall ?_ (super_call (fun _ _ z => by cases z) hpos _))
  have X : K.In s1.heap := I.kIn
  obtain ⟨m1, hns, hl⟩ := I.loc
  obtain ⟨u0, r0, l0⟩ := hl 0 "self" (.ref a) rfl rfl (.inl rfl)
  obtain rfl : u0 = .ref a := r0
  have hm : m1 "self" = some (.ref a) := by
    rcases l0 with ⟨_, q⟩ | ⟨q, _⟩
    · exact q
    · rcases q with q | q
      · exact absurd (show (some NameKind.local : Option NameKind) = some .cell from q) (by decide)
      · exact absurd (show (some NameKind.local : Option NameKind) = some .free from q) (by decide)
  obtain ⟨cdD, hD⟩ := T.cD
  obtain ⟨t0, hx⟩ := exo_at I.hok ha
  obtain ⟨oD, hD1, hD2⟩ : ∃ oD, s1.heap.get? D = some oD ∧ oD.data = .cls cdD := by
    unfold PySem.W.clsIn at hD
    split at hD
    · rename_i c d cd' sl ho
      cases hD
      exact ⟨_, X _ _ ho, rfl⟩
    · cases hD
  obtain ⟨mb, hb1, hb2⟩ := I.mod.blt
  have IA : PySem.W.InstAt s1.heap a ({ cls := .ref C, dict := none, data := .fields #[.ref t0, .none, .none, .none, .bool false, .none] } : Obj) C none := ⟨hx, rfl, rfl, trivial⟩
  refine ks_wpAt_super_base (env := PySem.W.ksEnv qual eS s.heap.objs.size fI (.ref cda) cc) (ar := { arg := "self", annotation := none, pos := p1 }) rfl rfl (by decide) rfl (X _ _ lk) rfl rfl rfl (X _ _ hcd) rfl hvs hfile T.top ?_
  refine PySem.W.ks_loadName_global rfl rfl (Calls.loadGlobal_builtin (env := PySem.W.ksEnv qual eS s.heap.objs.size fI (.ref cda) cc) (I.mod.glob.keeps I.bk) T.sup (hb1.keeps I.bk) ((hb2 _ (by decide +kernel)).trans PyProof.Rows.Boot.«super») ⟨rfl, ?_⟩)
  refine wpAny_loadName_free rfl rfl rfl ⟨_, X _ _ hcc, rfl⟩ ?_
  refine wpAny_loadName_local rfl rfl hns hm ?_
  refine ks_wpAny_isType_cls hD1 hD2 ⟨rfl, ?_⟩
  obtain ⟨hh, g, d, t, os⟩ := s1
  refine ks_wpAny_call_super hD1 hD2 hx rfl (fun c e => by cases e) (PySem.W.looks_mroIn X TC.sub) (fun h' e k => ?_)
  have J : Inv (cxK CX P w K mg base ["self", "value"] qual eS fI (.ref cda) cc A outer s H E) [] [some (.ref a), some y] H ⟨h', g, d, t, os⟩ := I.kept (t' := t) k
  obtain ⟨nm, q, N, bs, bm, sn, sub, ab, col, dd, k0, k1, k2, k3, k5, hC, hbm⟩ := TC.oex.cls
  have X1 : K.In h' := J.kIn
  have hcl : PySem.W.clsIn K C = some { name := nm, bases := bs, mro := .ref C :: bm, ns := N, qualname := q, hasDict := true, slotNames := sn, subclasses := sub, abstract := ab, collection := col, hasDel := false } := by unfold PySem.W.clsIn; rw [hC] <;> rfl
  have hsup := TC.sup
  unfold PySem.W.ks_superIn at hsup
  rw [hcl] at hsup
  have IA1 : PySem.W.InstAt h' a ({ cls := .ref C, dict := none, data := .fields #[.ref t0, .none, .none, .none, .bool false, .none] } : Obj) C none := ⟨k _ _ hx, rfl, rfl, trivial⟩
  refine PySem.W.kxs_getMethod PySem.W.kxs_ValueError e (PySem.W.looks_opaque X1 T.opq) (fun A Q E s k q => wpAny_bind ((PySem.W.looks_clsIn X1 hcl) A _ E s k (wpAny_pure q))) rfl X1 hsup (IA1.type.andThen (PySem.W.looks_subIn X1 TC.subV)) (PySem.W.ks_ne X1 IA1 hcl) (by decide) ?_
  have J2 : Inv (cxK CX P w K mg base ["self", "value"] qual eS fI (.ref cda) cc A outer s H E) [] [some (.ref a), some y] H ⟨h'.push (PySem.W.kxs_mw "ValueError.__init__" a), g, d, t + 1, os⟩ := J.kept (t' := t + 1) fun b o q => Heap.get?_push_of_some _ q
  have hmw : (h'.push (PySem.W.kxs_mw "ValueError.__init__" a)).get? h'.objs.size = some (PySem.W.kxs_mw "ValueError.__init__" a) := Heap.get?_push_at rfl rfl
  have J3 : Inv (cxK CX P w K mg base ["self", "value"] qual eS fI (.ref cda) cc A outer s H E) [(h'.objs.size, PySem.W.kxs_mw "ValueError.__init__" a)] [some (.ref a), some y] H ⟨h'.push (PySem.W.kxs_mw "ValueError.__init__" a), g, d, t + 1, os⟩ := J2.pins_of fun p hp => by
    rcases List.mem_singleton.mp hp with rfl
    exact ⟨hmw, J.hok.fresh (Nat.le_refl _), fun z => absurd J.lt (by rw [← z]; exact Nat.lt_irrefl _), J.nofs (Nat.le_refl _), fun v z => by cases z⟩
  refine PySem.W.kxs_callWith (i := "ValueError.__init__") (x := a) rfl (Calls.evalArgs_plain ?_)
  refine thn ((pa_cons (X := cxK CX P w K mg base ["self", "value"] qual eS fI (.ref cda) cc A outer s H E) pe_str pa_nil).run p7 _ _ _ H (fun vs H' => H' = H ∧ vs.length = 1) J3 ⟨rfl, rfl⟩) fun us s2 hh2 => ?_
  obtain ⟨vs2, H2, I2, r2, rfl, hlen⟩ := hh2
  have hm2 := (I2.pin _ (List.mem_append_right _ (List.mem_singleton.mpr rfl))).1
  refine ⟨hm2, ?_⟩
  obtain ⟨t1, hx2⟩ := exo_at I2.hok ha
  obtain ⟨hp2, g2, d2, tk2, os2⟩ := s2
  refine call_mw (I2.kIn _ _ hC) hx2 hm2 ?_ fun h3 t3 k3' hx3 => hq _ ?_
  · show us.length ≤ sizeLine
    rw [← Paired.length r2, hlen, sizeLine_eq]
    decide
  · have J4 := (I2.pins_of (pins' := []) (fun p hp => absurd hp (by simp))).write (t' := tk2) (x := a) (e := a) (o := exo a C none) (by rw [ha]; exact True.intro) (.inl rfl) k3' ⟨_, hx3⟩ (exo_ok hx3)
    have eu : upd H2 a (exo a C none) = H2 := by
      funext b
      by_cases hb : b = a
      · rw [hb, upd_same, ha]
      · rw [upd_ne hb]
    rw [eu] at J4
    exact J4
theorem init_ok3 (T : ErrTxt P K mg D fI) (TC : ErrCls K D fI C) : ∃ fd, FnOk P w K mg base CX 0 fI fd ["self", "value"] (initSp C) ∧ Binds K fd ["self", "value"] [] ∧ ∀ (s : Shared) (a u : Value), BindsTo s fd ⟨[a], [("value", u)]⟩ ((["self", "value"] : List Str).zip [a, u]) := by
  obtain ⟨qual, oc, od, doc, pm, an, cda, ct, osl, cc, m, p1, p2, p3, p4, p5, p6, p7, p8, q1, q2, q3, q4, lk, hcd, hpos, ⟨ccl, cdd, vs', ccs, file, tf, hcda, hvs, hfile⟩, cl, cld, csl, hcc⟩ := T.fn
  refine ⟨PySem.W.ksFn "__init__" qual (eA p1 p2) (eB m p3 p4 p5 p6 p7 p8 q1 q2 q3 q4) eS .none .none doc pm an (.ref cda) ct cc, ⟨fun vs H Q E h => ?_, fun A outer s H args us vs Q E hr e0 hb r hsp => ?_⟩, fun s us X hl => ?_, fun s a u => .of_eq rfl⟩
  · obtain ⟨a, y, rfl, _⟩ := h
    rfl
  · obtain ⟨a, y, rfl, ha, hq⟩ := hsp
    cases r with
    | @cons _ u0 _ ur ra r' =>
      cases r' with
      | @cons _ u _ ur2 ry r'' =>
        cases r''
        obtain rfl : u0 = .ref a := ra
        have KX : K.In s.heap := e0.mod.kin.keeps fun b o e => (e0.bs b o e).1
        have lim : s.heap.NoLimit := e0.mod.nolimit.keeps fun b o e => (e0.bs b o e).1
        refine ks_codeAny_call_defAt (fd := PySem.W.ksFn "__init__" qual (eA p1 p2) (eB m p3 p4 p5 p6 p7 p8 q1 q2 q3 q4) eS .none .none doc pm an (.ref cda) ct cc) hr.depth (KX _ _ lk) rfl lim (PySem.W.codeRec_of KX hcd) rfl hb (show ∀ x ∈ eS.names, x.2 ≠ .cell by decide) (fun z hz => ?_) (fun h₁ hns hk => ?_) rfl rfl rfl
        · rcases List.mem_cons.mp hz with rfl | hz
          · rfl
          · rcases List.mem_cons.mp hz with rfl | hz
            · rfl
            · cases hz
        · have I := inv_k (CX := CX) (fI := fI) (qual := qual) (cda := cda) (E := E) (tk := s.toks + 2) hcc hr.hd e0 ry hns hk
          refine ks_wpAt_execs_cons (sup_row T TC lk hcda hvs hfile hcc hpos I ha fun s' J => wpAt_of_wpAny ?_)
          have hrest := (pss_one (ps_ost (X := cxK CX P w K mg base ["self", "value"] qual eS fI (.ref cda) cc A outer s H E) (f := "value") (p' := q2) (pos := q4) (pe_var (i := 0) (pos := q1) rfl (.inl rfl)) (pe_var (i := 1) (pos := q3) rfl (.inl rfl)))).run [] s' _ H { nx := fun _ H' => Q .non H', rt := fun _ _ => False } J ⟨y, rfl, .ref a, rfl, a, C, rfl, TC.oex, TC.no, .inl ⟨ha, fun d hd hne => hq d hd hne⟩⟩
          refine wpAny_mono hrest (fun fl s2 hs => ?_) fun _ _ z => z
          cases fl with
          | ret u => exact (let ⟨_, _, _, _, _, z⟩ := hs; False.elim z)
          | next =>
            obtain ⟨σ', H', J2, q⟩ := hs
            exact ⟨.non, H', J2.os, J2.bare, J2.base, J2.hok, rfl, q⟩
          | brk => exact (let ⟨_, _, _, z⟩ := hs; False.elim z)
          | cont => exact (let ⟨_, _, _, z⟩ := hs; False.elim z)
  · match us, hl with
    | [_, _], _ => exact .of_eq rfl
theorem init_ok (T : ErrTxt P K mg D fI) (TC : ErrCls K D fI C) : ∃ fd, FnOk P w K mg base CX 0 fI fd ["self", "value"] (initSp C) ∧ Binds K fd ["self", "value"] [] := by
  obtain ⟨fd, a, b, _⟩ := init_ok3 T TC
  exact ⟨fd, a, b⟩
end
end FN
set_option Elab.async false
set_option linter.all false
set_option maxRecDepth 100000
set_option maxHeartbeats 4000000
/-! FN12: raise, try. -/
namespace FN
open PySem PySem.Spec PyProof.Rows L2
/-! ### raise C(e) -/
def sRaise (n : Str) (fa : M D) : Env → Option Fl := fun ρ => bnd (fa ρ) Fl.err fun d ρ1 => some (.err n d ρ1)
section
variable {X : Cx} {W : WX} {C : FC} {κ κn : List Kind} {pos pos' p : Pos} {e : Expr} {fa : M D} {b : Bool}
theorem fs_raise {n : Str} {D fI Ca : Addr} (T : ErrTxt X.prog X.K X.mg D fI) (TC : ErrCls X.K D fI Ca) (hm : X.mg n = some (.ref Ca)) (hc : X.calm = true) (hr : Room 1 X.A) (tk : Takes X W) (ha : FV X W κ (.t (.v b)) e fa) (hg : Gl X n := by rfl) (hdb : (n == ("__debug__" : Str)) = false := by decide)
    (he : starEach (e :: []) X.env = (false, eval e X.env) :: starEach [] X.env := by rfl) (hk : EK C κ := by first | exact .inl rfl | exact .inr rfl) : FS X W C κ κn (.Raise (some (.Call (.Name n p) [e] [] pos)) none pos') (sRaise n fa) := by
  obtain ⟨fd, F1, hb⟩ := init_ok (w := X.w) (base := X.base) (CX := CX0) T TC
  refine (ps_raise hc tk (pmk_oex TC.oex TC.iC TC.tI F1 hr hb .nil pass0 hg hm (pa_cons ha pa_nil he) hdb he rfl)).imp fun D' σ H h => ?_
  obtain ⟨ρ, w, rfl, rel, post⟩ := h
  refine seqV (P := PostS (ctx X W) C κn D' w) rel post (fun z => z) (fun n d ρ' z => errS hk z) fun d ρ1 v w1 rel1 e1 t1 post1 => ?_
  refine ⟨show (1 : Nat) ≤ 1000 by decide, fun a na => ⟨a, v, rfl, upd_same, fun dx hd hne => ⟨rfl, dx, [(("value" : Str), v)], upd_same, ?_, ?_, ?_⟩⟩⟩
  · rw [upd_ne hne, upd_same]
  · rw [upd_ne hne] at hd
    exact hd
  · rw [upd_ne hne] at hd
    obtain ⟨w2, eH, eF, rel2, e2⟩ := world_new (o := .xd [(("value" : Str), v)]) rel1 hd
    have eq : upd (del (upd (upd (upd w1.H a (exo a Ca none)) dx (exd dx [(("value" : Str), v)])) a (exo a Ca (some dx))) a) dx (.xd [(("value" : Str), v)]) = w2.H := by
      rw [eH]
      funext z
      by_cases z1 : z = dx
      · rw [z1, upd_same, upd_same]
      · rw [upd_ne z1, upd_ne z1]
        by_cases z2 : z = a
        · rw [z2, del_same, na]
        · rw [del_ne z2, upd_ne z2, upd_ne z1, upd_ne z2]
    rw [eq]
    refine post1 (.ref Ca) dx σ w2 rel2.same (fun κ' z => ?_) (e1.trans e2) ⟨Ca, v, hm, rfl, by rw [eF, upd_same], ((Temp.rd t1).mono e2.same).any⟩
    rcases hk with y | y
    · rw [y] at z
      cases z
    · rw [y] at z
      cases z
      exact rel2
/-! ### try: .. except S as e: .. -/
/-- the value of the caught error in slot i -/
def fXv (i : Nat) : M D := fun ρ => match ρ[i]? with
  | some (some (.dict [(.none, d)])) => some (.ok d ρ)
  | _ => none
theorem fe_xv {a dx : Addr} {cls : Value} {R : Addr → Prop} {oe : Obj} {pn : List (Addr × Obj)} {x : Str} {i : Nat} (hz : Zc cls (some dx) oe) (hf : ∃ vs, oe.data = .fields vs) (hk : κ[i]? = some (.exc a dx cls R) := by rfl) (hN : X.N[i]? = some x := by rfl) (hv : Vis X.env.scope x := by first | exact Or.inl rfl | exact Or.inr (Or.inl rfl) | exact Or.inr (Or.inr rfl))
    (hb : attributeBase (.Name x p) "value" X.env (eval (.Name x p) X.env) = eval (.Name x p) X.env := by rfl) (hd : (x == ("__debug__" : Str)) = false := by decide) (hcd : (x == ("__classdict__" : Str)) = false := by decide) :
    FV (X.suite a ((a, oe) :: pn)) W κ (.t (.v true)) (.Attribute (.Name x p) "value" pos) (fXv i) := by
  refine ⟨fun pins s σ H Q I h => ?_⟩
  obtain ⟨ρ, w, rfl, rel, post⟩ := h
  unfold fXv at post
  split at post
  · rename_i d ed
    obtain ⟨v, f, e1, o, _⟩ := rel.slots.get ed hk
    obtain ⟨rfl, y, d', q1, q2, q3, Ca, rfl, xf, no, _⟩ := o
    cases q1
    refine (pe_xf (X := X) (pos := pos) xf no hz hf (pe_var (X := X.suite a ((a, oe) :: pn)) (pos := p) hN hv hd hcd) hb).run pins s σ _ Q I ⟨.ref a, e1, rfl, rfl, dx, _, y, rfl, rel.same _ _ q2, List.lookup_cons_self, ?_⟩
    exact fin_imm post rel (Ext.refl _) q3
  · exact post.elim
def sTry (sel : Str → Option Bool) (i : Nat) (fb fs : Env → Option Fl) : Env → Option Fl := fun ρ => match fb ρ with
  | some (.err n d ρ') => match sel n with
    | some true => match fs (ρ'.set i (some (.dict [(.none, d)]))) with
      | some (.nx ρ2) => some (.nx (ρ2.set i none))
      | some (.ret d ρ2) => some (.ret d ρ2)
      | _ => none
    | some false => some (.err n d ρ')
    | none => none
  | o => o
theorem slots_clear {K : PySem.W.Frag} {F H : Hp} {κ : List Kind} {ρ : Env} {σ : L2.St} {fp : FpS} (h : Slots K F H κ ρ σ fp) (k : Kind) (o : Option V) : ∀ i : Nat, Slots K F H (κ.set i k) (ρ.set i none) (σ.set i o) fp := by
  induction h with
  | nil => exact fun i => .nil
  | skip t ih =>
    intro i
    cases i with
    | zero => exact .skip t
    | succ i => exact .skip (ih i)
  | cons r t d h1 h2 ih =>
    intro i
    cases i with
    | zero => exact .skip (t.mono h2)
    | succ i => exact .cons r (ih i) d h1 h2
theorem rel_clear {K : PySem.W.Frag} {κ : List Kind} {ρ : Env} {σ : L2.St} {w : Wd} (rel : Rel K κ ρ σ w) {k : Kind} (hk : nofix k) (o : Option V) (i : Nat) : Rel K (κ.set i k) (ρ.set i none) (σ.set i o) w := by
  refine ⟨rel.same, rel.frz, rel.live, fun j u k' z => ?_, slots_clear rel.slots k o i⟩
  by_cases hj : j = i
  · subst hj
    by_cases hl : j < κ.length
    · rw [List.getElem?_set_self hl] at z
      cases z
      exact hk.elim
    · rw [List.getElem?_eq_none (by simpa using hl)] at z
      cases z
  · rw [List.getElem?_set_ne (Ne.symm hj)] at z
    rw [List.getElem?_set_ne (Ne.symm hj)]
    exact rel.fixed j u k' z
/-- which errors of the law's own classes an except clause takes -/
def Sel (K : PySem.W.Frag) (mg : Str → Option Value) (c : Value) (R : Addr → Prop) (sel : Str → Option Bool) : Prop :=
  ∀ n b, sel n = some b → ∀ Ca, mg n = some (.ref Ca) → XfC K Ca ∧ PySem.W.findIn K (.ref Ca) "value" = some none ∧ PySem.W.exmOne K (.ref Ca) c = some b ∧ R Ca
theorem fs_try {cn nm : Str} {c : Value} {i : Nat} {body suite : List Stmt} {b₀ : Stmt} {np : Pos} {sel : Str → Option Bool} {R : Addr → Prop} {k : Kind} {κs : List Kind} {fb fs : Env → Option Fl} (hsel : Sel X.K X.mg c R sel) (hc : Names X cn c) (tk : Takes X W) (hN : X.N.Nodup)
    (hb : ∀ (W' : WX) (pn : List (Addr × Obj)) (xe : Value → Shared → Prop), Takes (X.tr pn xe) W' → PassesOwn (model X.prog X.w) X.A X.env xe → FSs (X.tr pn xe) W' ⟨C.ks, C.vs, C.kr, C.kl, some κ⟩ κ (κs.set i k) body fb)
    (hs : ∀ (a : Addr) (oe : Obj) (cls : Value) (dx : Addr) (pn : List (Addr × Obj)), Zc cls (some dx) oe → (∃ vs, oe.data = .fields vs) → FSs (X.suite a ((a, oe) :: pn)) (fun _ _ _ _ => False) ⟨C.ks, C.vs, C.kr, C.kl, none⟩ (κ.set i (.exc a dx cls R)) (κs.set i (.exc a dx cls R)) (b₀ :: suite) fs)
    (hstk : X.stack = X.env :: X.outer := by rfl) (hfr : X.env.frame = some X.env.locals := by rfl) (hi : X.N[i]? = some nm := by rfl) (hln : X.env.kindOf nm = some .local := by rfl) (hk : EK C κ := by first | exact .inl rfl | exact .inr rfl) (hl : i < κ.length := by decide) (hnf : nofix k := by exact True.intro) :
    FS X W C κ (κs.set i k) (.Try body [.ExceptHandler (some (.Name cn np)) (some nm) (b₀ :: suite) pos'] [] [] pos) (sTry sel i fb fs) := by
  refine (ps_try_as (tb := fun W' => tS (ctx X W') ⟨C.ks, C.vs, C.kr, C.kl, some κ⟩ κ (κs.set i k) fb)
    (ts := fun a cls d => match d with | some dx => tS (ctx X fun _ _ _ _ => False) ⟨C.ks, C.vs, C.kr, C.kl, none⟩ (κ.set i (.exc a dx cls R)) (κs.set i (.exc a dx cls R)) fs | none => fun _ _ _ => False)
    (Wout := W) hstk hfr hN hi hln hc tk (fun W' pn xe t po => hb W' pn xe t po) (fun a oe cls d pn hz hf => ?_)).imp fun D' σ H h => ?_
  · cases d with
    | some dx => exact hs a oe cls dx pn hz hf
    | none => exact ⟨fun _ _ _ _ _ _ z => z.elim⟩
  · obtain ⟨ρ, w, rfl, rel, post⟩ := h
    refine ⟨ρ, w, rfl, rel, ?_⟩
    unfold sTry at post
    cases q : fb ρ with
    | none =>
      rw [q] at post
      exact post
    | some o =>
      rw [q] at post
      cases o with
      | nx ρ1 => exact post
      | ret d ρ1 => exact post
      | bk ρ1 => exact post
      | ct ρ1 => exact post
      | err n d ρ1 =>
        intro cls dx σ' w' sm rel' ex ea
        have rel1 : Rel X.K κ ρ1 σ' w' := rel' κ rfl
        have ea0 := ea
        obtain ⟨Ca, v, hm, rfl, hF, hv⟩ := ea
        dsimp only at post
        cases qs : sel n with
        | none =>
          rw [qs] at post
          exact post.elim
        | some b =>
          rw [qs] at post
          obtain ⟨xf, no, exm, hR⟩ := hsel n b qs Ca hm
          refine ⟨b, exm, fun hb' a na => ?_, fun hb' => ?_⟩
          · subst hb'
            dsimp only at post
            have t : Temp X.K (.exc a dx (.ref Ca) R) w' w' (.dict [(.none, d)]) (.ref a) := ⟨fun _ => False, ⟨rfl, v, d, rfl, hF, hv, Ca, rfl, xf, no, hR⟩, fun _ z => z.elim⟩
            obtain ⟨w2, eH, _, rel2, e2⟩ := rel_set (i := i) rel1 t (by rw [← rel1.slots.lengths.1]; exact hl) (fun u k' z => by cases z)
            refine ⟨_, w2, eH, rel2, ?_⟩
            split at post
            · rename_i ρ2 q2
              rw [q2]
              intro σ3 w3 rel3 e3
              have r4 := rel_clear (k := k) rel3 hnf none i
              rw [List.set_set] at r4
              exact post _ w3 r4 ((ex.trans (e2 (Ext.refl _))).trans e3)
            · rename_i d2 ρ2 q2
              rw [q2]
              exact fun v3 w3 r3 e3 t3 => post v3 w3 r3 ((ex.trans (e2 (Ext.refl _))).trans e3) (t3.since (ex.trans (e2 (Ext.refl _))))
            · exact post.elim
          · subst hb'
            dsimp only at post
            refine post (.ref Ca) dx σ' w' sm (fun κ' z => ?_) ex ea0
            rcases hk with y | y
            · rw [y] at z
              cases z
            · rw [y] at z
              cases z
              exact rel1
end
end FN
set_option Elab.async false
set_option linter.all false
set_option maxRecDepth 100000
set_option maxHeartbeats 4000000
/-! FN13: texts, zip, defs as values, sorted. -/
namespace FN
open PySem PySem.Spec PyProof.Rows L2
/-! ### defs as values -/
def fTok : M D := fun ρ => some (.ok (.dict []) ρ)
def tokK (f : Addr) : Option Kind → Prop
  | some (.tok u) => u = .ref f
  | some (.fix _ (.tok u)) => u = .ref f
  | _ => False
def fCallL (i : Nat) (ms : List Md) (g : M D) (fr : M (List D)) : M D := fun ρ => match ρ[i]? with
  | some (some _) => fCall ms g fr ρ
  | _ => none
section
variable {X : Cx} {W : WX} {κ : List Kind} {pos p : Pos} {e : Expr} {es : List Expr} {fr : M (List D)} {ms : List Md} {ks : List Kind} {kr : Kind} {g : M D}
theorem fe_tok {x : Str} {f : Addr} (hm : X.mg x = some (.ref f)) (hg : Gl X x := by rfl) (hd : (x == ("__debug__" : Str)) = false := by decide) : FV X W κ (.t (.tok (.ref f))) (.Name x pos) fTok :=
  (pe_glob hg hm (v := .ref f) rfl hd).imp fun σ H Q h => by
    obtain ⟨ρ, w, rfl, rel, post⟩ := h
    exact post (.ref f) w rel (Ext.refl _) ⟨fun _ => False, ⟨rfl, rfl⟩, fun _ z => z.elim⟩
theorem tok_at {K : PySem.W.Frag} {F H : Hp} {σ : L2.St} {fp : FpS} {ρ : Env} {i : Nat} {d : D} {f : Addr} (h : Slots K F H κ ρ σ fp) (e : ρ[i]? = some (some d)) (hk : tokK f κ[i]?) : σ[i]? = some (some (.ref f)) := by
  unfold tokK at hk
  split at hk
  · rename_i u q
    obtain ⟨v, g, e1, o, _⟩ := h.get e q
    obtain ⟨rfl, _⟩ := o
    rw [e1, hk]
  · rename_i u0 u q
    obtain ⟨v, g, e1, o, _⟩ := h.get e q
    obtain ⟨rfl, _⟩ := o
    rw [e1, hk]
  · exact hk.elim
/-- a call of the def that slot i holds -/
theorem fe_fnL {k : Nat} {ps : List Str} {x y : Str} {f : Addr} {i : Nat} (G : Kn X.prog X.w X.K X.mg X.base CX0 k x ps (spF X.K X.mg ks kr (noErr g))) (hmf : X.mg x = some (.ref f)) (hki : tokK f κ[i]?) (hr : Room k X.A) (hf : Fits κ ms ks) (ha : FA X W κ ms (e :: es) fr)
    (hN : X.N[i]? = some y := by rfl) (hv : Vis X.env.scope y := by first | exact Or.inl rfl | exact Or.inr (Or.inl rfl) | exact Or.inr (Or.inr rfl)) (hdb : (y == ("__debug__" : Str)) = false := by decide) (hcd : (y == ("__classdict__" : Str)) = false := by decide)
    (he : starEach (e :: es) X.env = (false, eval e X.env) :: starEach es X.env := by rfl) (hpl : (backTo pos (starEach es X.env)).any (·.1) = false := by rfl) : FV X W κ (.t kr) (.Call (.Name y p) (e :: es) [] pos) (fCallL i ms (noErr g) fr) := by
  obtain ⟨f', fd, F, hm, hk, hb, _⟩ := G.ex
  rw [hmf] at hm
  cases hm
  refine (pe_callL (i := i) F hr hN hv hk hb .nil pass0 ha hdb hcd he hpl).imp fun σ H Q h => ?_
  obtain ⟨ρ, w, rfl, rel, post⟩ := h
  unfold fCallL at post
  split at post
  · rename_i d ed
    refine ⟨tok_at rel.slots ed hki, ?_⟩
    simp only [List.append_nil]
    exact ev_call (E := E0) hf (.inl fun _ _ _ _ => noErr_ne) ⟨ρ, w, rfl, rel, post⟩
  · exact post.elim
end
/-! ### str, split, join -/
section
variable {X : Cx} {W : WX} {κ : List Kind} {pos p apos : Pos} {a o : Expr} {fa fo : M D} {m mo : Md} {b k : Bool}
def dStr : D → Option D
  | .int i => if i.natAbs.log2 < 1920 then some (.str (toString i)) else none
  | .str x => some (.str x)
  | _ => none
theorem fe_strI (hg : Gl X "str") (hm : X.mg "str" = none) (ha : FV X W κ m a fa) (hs : starEach (a :: []) X.env = (false, eval a X.env) :: starEach [] X.env := by rfl) : FV X W κ (.t (.v b)) (.Call (.Name "str" p) [a] [] pos) (f1 m dStr fa) :=
  (pe_callTy (call_str_int.or SkE.call_str_str) hg hm PyProof.Rows.boot_str (pa_cons ha pa_nil hs) (by decide) (by decide) hs).imp fun σ H Q h => ev_c1 (fun ρ w w1 x dx vx z rel ext t ex ez post => by
    unfold dStr at ez
    split at ez
    · split at ez
      · rename_i hl
        cases ez
        exact .inl ⟨_, by rw [dp_int (rd_dp rel t ex)], hl, fin_imm post rel ext (.str _)⟩
      · cases ez
    · cases ez
      exact .inr ⟨_, by rw [dp_str (rd_dp rel t ex)], fin_imm post rel ext (.str _)⟩
    · cases ez) h
/-- a method of a text with one argument -/
def fM1 (m : Md) (op : Str → D → Option D) (fo fa : M D) : M D := fun ρ => bdo (fo ρ) fun x ρ1 => match x with
  | .str s => bdo (fa ρ1) fun y ρ2 => match rd m y ρ2 with
    | some y => (op s y).map fun z => .ok z ρ2
    | none => none
  | _ => none
theorem ev_m1 {c : Ct} {kr : Kind} {op : Str → D → Option D} {r : V → List V → Hp → VK → Prop} {σ : L2.St} {H : Hp} {Q : VK} {bo : Bool}
    (hr : ∀ ρ w w2 s y dy vy z, Rel c.K κ ρ σ w2 → Ext w w2 → TempM c.K m σ w w2 dy vy → rd m dy ρ = some y → op s y = some z → PostV c κ σ (.t kr) w Q (some (.ok z ρ)) → r (.str s) [vy] w2.H Q)
    (h : tV c κ (.t kr) (fM1 m op fo fa) σ H Q) : tM1 r (tV c κ (.t (.v bo)) fo) (tV c κ m fa) σ H Q := by
  obtain ⟨ρ, w, rfl, rel, post⟩ := h
  refine seqV (P := PostV c κ σ (.t kr) w Q) rel post (fun z => z) (fun n d ρ' z => z) fun dx ρ1 vx w1 rel1 e1 t1 post1 => ?_
  split at post1
  · rename_i s
    obtain rfl : vx = .str s := dp_str (Temp.rd t1).dp
    refine ⟨⟨s, rfl⟩, ?_⟩
    refine seqV (P := PostV c κ σ (.t kr) w Q) rel1 post1 (fun z => z) (fun n d ρ' z => z.since e1) fun dy ρ2 vy w2 rel2 e2 t2 post2 => ?_
    split at post2
    · rename_i y ey
      cases ez : op s y with
      | none =>
        rw [ez] at post2
        exact post2.elim
      | some z =>
        rw [ez] at post2
        exact hr ρ2 w w2 s y dy vy z rel2 (e1.trans e2) (t2.since e1) ey ez post2
    · exact post2.elim
  · exact post1.elim
theorem rds_strs {K : PySem.W.Frag} {F : Hp} : ∀ ys : List Str, RDs b K F (ys.map V.str) (ys.map PyData.str)
  | [] => .nil
  | y :: r => .cons (.str y) (rds_strs r)
def dSplit (s : Str) : D → Option D
  | .str t => if (t.length == 0) = false ∧ s.length + 2 ≤ sizeLine then some (.list ((Txt.split s t).map .str)) else none
  | _ => none
theorem fe_split {kd : Kind} (hd : newL b kd := by rfl) (ho : FV X W κ (.t (.v k)) o fo) (ha : FV X W κ m a fa) (hs : starEach [a] X.env = [(false, eval a X.env)] := by rfl) (hbase : attributeBase o "split" X.env (eval o X.env) = eval o X.env := by rfl) (hline : (apos.endLine == pos.line) = true := by rfl) :
    FV X W κ (.t kd) (.Call (.Attribute o "split" apos) [a] [] pos) (fM1 m dSplit fo fa) := (pe_split ho ha hs hbase hline).imp fun σ H Q h => ev_m1 (fun ρ w w2 s y dy vy z rel e t ey ez post => by
  unfold dSplit at ez
  split at ez
  · split at ez
    · rename_i hc
      cases ez
      exact ⟨_, _, rfl, by rw [dp_str (rd_dp rel t ey)], hc.1, hc.2, fun p' np => fin_lst (b := b) hd post rel e (rds_strs _) np⟩
    · cases ez
  · cases ez) h
/-- the texts of a list of data -/
def strsOf : List D → Option (List Str)
  | [] => some []
  | .str s :: r => (strsOf r).map fun l => s :: l
  | _ :: _ => none
theorem strsOf_rds {K : PySem.W.Frag} {H : Hp} : ∀ {ds : List D} {xs : List V} {ys : List Str}, DpAll K H xs ds → strsOf ds = some ys → xs = ys.map V.str
  | [], _, _, .nil, h => by
    cases h
    rfl
  | d :: ds, _, _, .cons (v := v) hd t, h => by
    cases d with
    | str s =>
      have h' : (strsOf ds).map (fun l => s :: l) = some _ := h
      cases q : strsOf ds with
      | none =>
        rw [q] at h'
        cases h'
      | some l =>
        rw [q] at h'
        cases h'
        rw [dp_str hd, strsOf_rds t q]
        rfl
    | _ => exact absurd (show (none : Option (List Str)) = some _ from h) (by intro z; cases z)
def dJoin (s : Str) : D → Option D
  | .list ds => match strsOf ds with
    | some ys => if (ys.map (·.length)).sum + ys.length * s.length ≤ 16777216 then some (.str (Txt.join s ys)) else none
    | none => none
  | .tuple ds => match strsOf ds with
    | some ys => if (ys.map (·.length)).sum + ys.length * s.length ≤ 16777216 then some (.str (Txt.join s ys)) else none
    | none => none
  | _ => none
theorem fe_join (ho : FV X W κ (.t (.v k)) o fo) (ha : FV X W κ m a fa) (hs : starEach [a] X.env = [(false, eval a X.env)] := by rfl) (hbase : attributeBase o "join" X.env (eval o X.env) = eval o X.env := by rfl) (hline : (apos.endLine == pos.line) = true := by rfl) :
    FV X W κ (.t (.v b)) (.Call (.Attribute o "join" apos) [a] [] pos) (fM1 m dJoin fo fa) := (pe_join ho ha hs hbase hline).imp fun σ H Q h => ev_m1 (fun ρ w w2 s y dy vy z rel e t ey ez post => by
  have dp := rd_dp rel t ey
  unfold dJoin at ez
  split at ez
  · split at ez
    · rename_i ys q
      split at ez
      · rename_i hc
        cases ez
        cases dp with
        | lst h1 h2 =>
          obtain rfl := strsOf_rds h2 q
          exact ⟨_, _, ys, rfl, rfl, .inl h1, hc, fin_imm post rel e (.str _)⟩
      · cases ez
    · cases ez
  · split at ez
    · rename_i ys q
      split at ez
      · rename_i hc
        cases ez
        cases dp with
        | tup h1 h2 =>
          obtain rfl := strsOf_rds h2 q
          exact ⟨_, _, ys, rfl, rfl, .inr h1, hc, fin_imm post rel e (.str _)⟩
      · cases ez
    · cases ez
  · cases ez) h
/-! ### sorted of ints -/
def intsOf : List D → Option (List Int)
  | [] => some []
  | .int s :: r => (intsOf r).map fun l => s :: l
  | _ :: _ => none
theorem intsOf_rds {K : PySem.W.Frag} {H : Hp} : ∀ {ds : List D} {xs : List V} {ys : List Int}, DpAll K H xs ds → intsOf ds = some ys → xs = ys.map V.int
  | [], _, _, .nil, h => by
    cases h
    rfl
  | d :: ds, _, _, .cons (v := v) hd t, h => by
    cases d with
    | int s =>
      have h' : (intsOf ds).map (fun l => s :: l) = some _ := h
      cases q : intsOf ds with
      | none =>
        rw [q] at h'
        cases h'
      | some l =>
        rw [q] at h'
        cases h'
        rw [dp_int hd, intsOf_rds t q]
        rfl
    | _ => exact absurd (show (none : Option (List Int)) = some _ from h) (by intro z; cases z)
end
/-! ### zip -/
def zipD (ds es : List D) : List D := (ds.zip es).map fun p => .tuple [p.1, p.2]
theorem zipD_get {ds es : List D} {i : Nat} {d : D} (h : (zipD ds es)[i]? = some d) : ∃ x y, ds[i]? = some x ∧ es[i]? = some y ∧ d = .tuple [x, y] := by
  unfold zipD at h
  rw [List.getElem?_map] at h
  cases q : (ds.zip es)[i]? with
  | none =>
    rw [q] at h
    cases h
  | some p =>
    rw [q] at h
    cases h
    obtain ⟨h1, h2⟩ := List.getElem?_zip_eq_some.mp q
    exact ⟨p.1, p.2, h1, h2, rfl⟩
theorem walk_zipL {b : Bool} {K : PySem.W.Frag} {F : Hp} {a c : Addr} {xs ys : List V} {ds es : List D} (hx : SqL K F a xs) (rx : RDs b K F xs ds) (hy : SqL K F c ys) (ry : RDs b K F ys es) : WalkD b K (Itz K a c) (zipD ds es) F := fun i H e => by
  have qx : SqL K H a xs := e.seq hx
  have qy : SqL K H c ys := e.seq hy
  refine ⟨fun l => ⟨xs, ys, qx, qy, ?_⟩, fun d ed => ?_⟩
  · rw [rx.length, ry.length]
    have l' : min ds.length es.length ≤ i := by simpa [zipD] using l
    omega
  · obtain ⟨x, y, ex, ey, rfl⟩ := zipD_get ed
    obtain ⟨vx, evx, rvx⟩ := rx.get ex
    obtain ⟨vy, evy, rvy⟩ := ry.get ey
    refine ⟨⟨xs, ys, vx, vy, qx, qy, evx, evy⟩, fun z H' h => ?_⟩
    obtain ⟨T, x', y', rfl, nT, rfl, h1, h2⟩ := h
    have e1 := h1 xs qx
    have e2 := h2 ys qy
    rw [evx] at e1
    rw [evy] at e2
    cases e1
    cases e2
    exact .inr ⟨T, _, _, nT, rfl, rfl, rfl, .cons rvx (.cons rvy .nil)⟩
theorem walk_zipT {b : Bool} {K : PySem.W.Frag} {F : Hp} {a c : Addr} {xs ys : List V} {ds es : List D} (hx : SqT K F a xs) (rx : RDs b K F xs ds) (hy : SqT K F c ys) (ry : RDs b K F ys es) : WalkD b K (RZ.ItzT K a c) (zipD ds es) F := fun i H e => by
  have qx : SqT K H a xs := sameT e hx
  have qy : SqT K H c ys := sameT e hy
  refine ⟨fun l => ⟨xs, ys, qx, qy, ?_⟩, fun d ed => ?_⟩
  · rw [rx.length, ry.length]
    have l' : min ds.length es.length ≤ i := by simpa [zipD] using l
    omega
  · obtain ⟨x, y, ex, ey, rfl⟩ := zipD_get ed
    obtain ⟨vx, evx, rvx⟩ := rx.get ex
    obtain ⟨vy, evy, rvy⟩ := ry.get ey
    refine ⟨⟨xs, ys, vx, vy, qx, qy, evx, evy⟩, fun z H' h => ?_⟩
    obtain ⟨T, x', y', rfl, nT, rfl, h1, h2⟩ := h
    have e1 := h1 xs qx
    have e2 := h2 ys qy
    rw [evx] at e1
    rw [evy] at e2
    cases e1
    cases e2
    exact .inr ⟨T, _, _, nT, rfl, rfl, rfl, .cons rvx (.cons rvy .nil)⟩
def iZip (fa fb : M D) : M (List D) := fun ρ => bdo (fa ρ) fun x ρ1 => bdo (fb ρ1) fun y ρ2 => match x, y with
  | .list ds, .list es => some (.ok (zipD ds es) ρ2)
  | .tuple ds, .tuple es => some (.ok (zipD ds es) ρ2)
  | _, _ => none
section
variable {X : Cx} {W : WX} {b : Bool} {κ : List Kind} {pos p tp : Pos} {e e2 : Expr} {fa fb : M D}
theorem fi_zip {elts : List Expr} {kk : Nat} (hg : Gl X "zip") (hm : X.mg "zip" = none) (ha : FV X W κ (.t (.v b)) e fa) (hb : FV X W κ (.t (.v b)) e2 fb) (hs1 : starEach (e :: [e2]) X.env = (false, eval e X.env) :: starEach [e2] X.env := by rfl) (hs2 : starEach (e2 :: []) X.env = (false, eval e2 X.env) :: starEach [] X.env := by rfl)
    (hpl : (backTo pos (starEach [e2] X.env)).any (·.1) = false := by rfl) : FI X W b κ (.Tuple elts kk tp) (.Call (.Name "zip" p) [e, e2] [] pos) (iZip fa fb) :=
  (RZ.pi_zipA hg hm (pa_cons ha (pa_cons hb pa_nil hs2) hs1) hs1 hpl).imp fun σ H R h => by
    obtain ⟨ρ, w, rfl, rel, post⟩ := h
    refine seqV (P := PostI (ctx X W) b κ σ w R) rel post (fun z => z) (fun n d ρ' z => z) fun dx ρ1 vx w1 rel1 e1 t1 post1 => ?_
    refine seqV (P := PostI (ctx X W) b κ σ w R) rel1 post1 (fun z => z) (fun n d ρ' z => z.since e1) fun dy ρ2 vy w2 rel2 e2 t2 post2 => ?_
    have rx := Temp.rd (t1.keep e2)
    have ry := Temp.rd t2
    split at post2
    · cases rx with
      | lst h1 r1 =>
        cases ry with
        | lst h2 r2 => exact ⟨_, _, _, _, rfl, .inl ⟨SqL.of (rel2.same _ _ h1), SqL.of (rel2.same _ _ h2), post2 w2 _ rel2 (e1.trans e2) (walk_zipL (SqL.of h1) r1 (SqL.of h2) r2)⟩⟩
    · have tup : ∀ {v : V} {ds : List D}, RD b X.K w2.F v (.tuple ds) → ∃ a xs, v = .ref a ∧ SqT X.K w2.F a xs ∧ RDs b X.K w2.F xs ds := fun r => by
        cases r with
        | tup h r => exact ⟨_, _, rfl, SqT.of h, r⟩
        | con _ h r => exact ⟨_, _, rfl, h, r⟩
      obtain ⟨a, xs, rfl, h1, r1⟩ := tup rx
      obtain ⟨c, ys, rfl, h2, r2⟩ := tup ry
      exact ⟨_, _, _, _, rfl, .inr ⟨sameT rel2.same h1, sameT rel2.same h2, post2 w2 _ rel2 (e1.trans e2) (walk_zipT h1 r1 h2 r2)⟩⟩
    · exact post2.elim
end
end FN
set_option Elab.async false
set_option linter.all false
set_option maxRecDepth 100000
set_option maxHeartbeats 4000000
/-! FN14: comprehensions of two clauses, as a statement; three names at once. -/
namespace FN
open PySem PySem.Spec PyProof.Rows L2
theorem wipeE_idem (us : List Nat) (ρ : Env) : wipeE (wipeE ρ us) us = wipeE ρ us := by
  have key : ∀ (us : List Nat) (v : Nat) (ρ : Env), wipeE (ρ.set v none) us = (wipeE ρ us).set v none := by
    intro us v
    induction us with
    | nil => intro ρ; rfl
    | cons u us ih =>
      intro ρ
      show (wipeE (ρ.set v none) us).set u none = ((wipeE ρ us).set u none).set v none
      rw [ih]
      by_cases huv : u = v
      · rw [huv]
      · rw [List.set_comm _ _ (Ne.symm huv)]
  induction us with
  | nil => rfl
  | cons u us ih =>
    show (wipeE ((wipeE ρ us).set u none) us).set u none = (wipeE ρ us).set u none
    rw [key, ih, List.set_set]
theorem compL_wipe {vs : List Nat} {ft : D → Env → Option Env} {tt : M Bool} {fe : M D} {ds acc : List D} {ρ : Env} : compL vs ft tt fe ds acc (wipeE ρ vs) = compL vs ft tt fe ds acc ρ := by
  cases ds with
  | nil => unfold compL; rw [wipeE_idem]
  | cons d ds => unfold compL; rw [wipeE_idem]
theorem wipe_wipe {σ : L2.St} {us vs : List Nat} (h : ∀ i ∈ us, i ∈ vs) : wipe (wipe σ us) vs = wipe σ vs := List.ext_getElem? fun i => by
  simp only [wipe_get, wipe_length]
  by_cases hm : i ∈ vs
  · simp only [hm, if_true]
  · have hu : i ∉ us := fun z => hm (h i z)
    simp only [hm, hu, if_false]
def compL2 (vs vs1 : List Nat) (ft : D → Env → Option Env) (tt : M Bool) (fi1 : M (List D)) (ft1 : D → Env → Option Env) (tt1 : M Bool) (fe : M D) : List D → List D → Env → Option (Out (List D))
  | [], acc, ρ => some (.ok acc (wipeE ρ vs))
  | d :: ds, acc, ρ => match ft d (wipeE ρ vs) with
    | some ρ1 => (match tt ρ1 with
      | some (.ok true ρ2) => (match fi1 ρ2 with
        | some (.ok ds1 ρ3) => (match compL vs1 ft1 tt1 fe ds1 acc ρ3 with
          | some (.ok acc' ρ4) => compL2 vs vs1 ft tt fi1 ft1 tt1 fe ds acc' (wipeE ρ4 vs)
          | _ => none)
        | _ => none)
      | some (.ok false ρ2) => compL2 vs vs1 ft tt fi1 ft1 tt1 fe ds acc (wipeE ρ2 vs)
      | _ => none)
    | none => none
def fLc2 (vs vs1 : List Nat) (fi : M (List D)) (ft : D → Env → Option Env) (tt : M Bool) (fi1 : M (List D)) (ft1 : D → Env → Option Env) (tt1 : M Bool) (fe : M D) : M D := fun ρ => bdo (fi ρ) fun ds ρ1 => bdo (compL2 vs vs1 ft tt fi1 ft1 tt1 fe ds [] ρ1) fun r ρ2 => some (.ok (.list r) ρ2)
theorem compL2_wipe {vs vs1 : List Nat} {ft : D → Env → Option Env} {tt : M Bool} {fi1 : M (List D)} {ft1 : D → Env → Option Env} {tt1 : M Bool} {fe : M D} {ds acc : List D} {ρ : Env} : compL2 vs vs1 ft tt fi1 ft1 tt1 fe ds acc (wipeE ρ vs) = compL2 vs vs1 ft tt fi1 ft1 tt1 fe ds acc ρ := by
  cases ds with
  | nil => unfold compL2; rw [wipeE_idem]
  | cons d ds => unfold compL2; rw [wipeE_idem]
section
variable {X : Cx} {W : WX} {C : FC} {b : Bool} {κ κ1 κn : List Kind} {pos p : Pos} {tg tg1 : Expr}
theorem ev_lc2 {kd : Kind} {vs vs1 sl sl1 : List Nat} {fi fi1 : M (List D)} {ft ft1 : D → Env → Option Env} {tt tt1 : M Bool} {fe : M D} {σ : L2.St} {H : Hp} {Q : VK} (hd : newL b kd) (hv : nfAt κ vs) (hv1 : nfAt κ vs1) (hs : ∀ i ∈ sl, i ∈ vs) (hs1 : ∀ i ∈ sl1, i ∈ vs1) (h1v : ∀ i ∈ vs1, i ∈ vs)
    (h : tV (ctx X W) κ (.t kd) (fLc2 vs vs1 fi ft tt fi1 ft1 tt1 fe) σ H Q) :
    tLc2 (tI (ctx X W) b κ fi) (tG (ctx X W0) b sl κ κ ft) (tT (ctx X W0) κ tt) (tI (ctx X W0) b κ fi1) (tG (ctx X W0) b sl1 κ κ ft1) (tT (ctx X W0) κ tt1) (tV (ctx X W0) κ (.t (.v b)) fe) vs vs1 σ H Q := by
  obtain ⟨ρ, w, rfl, rel, post⟩ := h
  refine seqI (P := PostV (ctx X W) κ σ (.t kd) w Q) rel post (fun z => z) (fun n d ρ' z => z) fun ds ρ1 w1 J rel1 e1 wk post1 => ?_
  intro L nL
  obtain ⟨w2, eH2, eF2, ef2, rel2, e2⟩ := world_own (o := .lst []) rel1 nL
  have t2 : Temp X.K (.lst (.v b)) w1 w2 (.list []) (.ref L) := ⟨fun x => x = L, ⟨L, [], [], fun _ => False, rfl, rfl, by rw [eH2, upd_same], rfl, fun z => z, fun _ z => z.elim, .nil⟩, fun x hx => by
    have hx' : x = L := hx
    rw [hx', ef2, eF2, eH2, upd_same]
    exact ⟨fun z => rel1.live L z nL, rel1.same.free nL, fun z => (nomatch z), .inr nL⟩⟩
  refine ⟨fun i m H => ∃ ρ wi acc, wi.H = H ∧ Rel X.K κ ρ (wipe σ vs) wi ∧ Ext w1 wi ∧ Temp X.K (.lst (.v b)) w1 wi (.list acc) (.ref L) ∧ m = ds.length - i ∧ PostV (ctx X W) κ σ (.t kd) w Q (bdo (compL2 vs vs1 ft tt fi1 ft1 tt1 fe (ds.drop i) acc ρ) fun r ρ2 => some (.ok (.list r) ρ2)), ⟨ds.length, wipeE ρ1 vs, w2, [], eH2, rel_wipe hv rel2, e2, t2, rfl, ?_⟩, ?_⟩
  · rw [List.drop_zero, compL2_wipe]
    exact post1
  rintro i m _ ⟨ρi, wi, acc, rfl, reli, ei, ti, rfl, posti⟩
  have wki := wk i wi.H (ei.same.trans reli.same)
  by_cases hi : i < ds.length
  · have ed : ds[i]? = some ds[i] := List.getElem?_eq_getElem hi
    rw [List.drop_eq_getElem_cons hi] at posti
    unfold compL2 at posti
    cases q : ft ds[i] (wipeE ρi vs) with
    | none =>
      rw [q] at posti
      exact posti.elim
    | some ρ3 =>
      rw [q] at posti
      dsimp only at posti
      refine .inr ⟨(wki.2 _ ed).1, fun H' => ∃ ρ wj acc, wj.H = H' ∧ Rel X.K κ ρ (wipe σ vs) wj ∧ Ext w1 wj ∧ Temp X.K (.lst (.v b)) w1 wj (.list acc) (.ref L) ∧ PostV (ctx X W) κ σ (.t kd) w Q (bdo (compL2 vs vs1 ft tt fi1 ft1 tt1 fe (ds.drop (i + 1)) acc ρ) fun r ρ2 => some (.ok (.list r) ρ2)), fun H' z => ?_, fun x H' y => ?_⟩
      · obtain ⟨ρ, wj, acc, z1, z2, z3, z4, z5⟩ := z
        exact ⟨ds.length - (i + 1), by omega, ρ, wj, acc, z1, z2, z3, z4, rfl, z5⟩
      · obtain ⟨w4, eH4, rel4, e4, r4⟩ := world_yield wk ei.same reli ed y
        subst eH4
        have relw : Rel X.K κ (wipeE ρi vs) (wipe σ vs) w4 := by
          have z := rel_wipe hv rel4
          rw [wipe_wipe fun _ z => z] at z
          exact z
        refine ⟨wipeE ρi vs, w4, ds[i], rfl, relw, r4, ?_⟩
        rw [q]
        intro σ5 w5 eH5 u5 rel5 e5
        have ew : wipe σ5 vs = wipe σ vs := wipe_upto u5 hs
        refine ⟨ew, ?_⟩
        have e15 := (ei.trans e4).trans e5
        have t5 := (ti.keep e4).keep e5
        refine ⟨ρ3, w5, rfl, rel5, ?_⟩
        cases qt : tt ρ3 with
        | none =>
          rw [qt] at posti
          exact posti.elim
        | some o =>
          rw [qt] at posti
          cases o with
          | err n d ρ' => exact posti.elim
          | ok bb ρ6 =>
            intro w6 rel6 e6
            have back : ∀ {ρ : Env} {w : Wd}, Rel X.K κ ρ σ5 w → Rel X.K κ (wipeE ρ vs) (wipe σ vs) w := fun r => by
              have z := rel_wipe hv r
              rw [ew] at z
              exact z
            cases bb with
            | false =>
              rw [if_neg Bool.false_ne_true]
              exact ⟨wipeE ρ6 vs, w6, acc, rfl, back rel6, e15.trans e6, t5.keep e6, posti⟩
            | true =>
              rw [if_pos rfl]
              dsimp only at posti
              refine ⟨ρ6, w6, rfl, rel6, ?_⟩
              cases qi : fi1 ρ6 with
              | none =>
                rw [qi] at posti
                exact posti.elim
              | some o1 =>
                rw [qi] at posti
                cases o1 with
                | err n d ρ' => exact posti.elim
                | ok ds1 ρ7 =>
                  dsimp only at posti
                  intro w7 J1 rel7 e7 wk1
                  let PN : Option (Out (List D)) → Prop := fun r => PostV (ctx X W) κ σ (.t kd) w Q (bdo (match r with | some (.ok acc' ρ4) => compL2 vs vs1 ft tt fi1 ft1 tt1 fe (ds.drop (i + 1)) acc' (wipeE ρ4 vs) | _ => none) fun r ρ2 => some (.ok (.list r) ρ2))
                  have posti' : PN (compL vs1 ft1 tt1 fe ds1 acc ρ7) := posti
                  refine ⟨fun j k H => ∃ ρ wj acc, wj.H = H ∧ Rel X.K κ ρ (wipe σ5 vs1) wj ∧ Ext w1 wj ∧ Same w7.F wj.F ∧ Temp X.K (.lst (.v b)) w1 wj (.list acc) (.ref L) ∧ k = ds1.length - j ∧ PN (compL vs1 ft1 tt1 fe (ds1.drop j) acc ρ), ⟨ds1.length, wipeE ρ7 vs1, w7, acc, rfl, rel_wipe hv1 rel7, (e15.trans e6).trans e7, Same.refl _, (t5.keep e6).keep e7, rfl, ?_⟩, ?_⟩
                  · rw [List.drop_zero, compL_wipe]
                    exact posti'
                  rintro j k _ ⟨ρj, wj, acc2, rfl, relj, ej, e7j, tj, rfl, postj⟩
                  have wkj := wk1 j wj.H (e7j.trans relj.same)
                  by_cases hj : j < ds1.length
                  · have edj : ds1[j]? = some ds1[j] := List.getElem?_eq_getElem hj
                    rw [List.drop_eq_getElem_cons hj] at postj
                    unfold compL at postj
                    cases qj : ft1 ds1[j] (wipeE ρj vs1) with
                    | none =>
                      rw [qj] at postj
                      exact (show False from postj).elim
                    | some ρ8 =>
                      rw [qj] at postj
                      dsimp only at postj
                      refine .inr ⟨(wkj.2 _ edj).1, fun H' => ∃ ρ wk acc, wk.H = H' ∧ Rel X.K κ ρ (wipe σ5 vs1) wk ∧ Ext w1 wk ∧ Same w7.F wk.F ∧ Temp X.K (.lst (.v b)) w1 wk (.list acc) (.ref L) ∧ PN (compL vs1 ft1 tt1 fe (ds1.drop (j + 1)) acc ρ), fun H' z => ?_, fun x1 H1 y1 => ?_⟩
                      · obtain ⟨ρ, wk, acc, z1, z2, z3, z3', z4, z5⟩ := z
                        exact ⟨ds1.length - (j + 1), by omega, ρ, wk, acc, z1, z2, z3, z3', z4, rfl, z5⟩
                      · obtain ⟨w9, eH9, rel9, e9, r9⟩ := world_yield wk1 e7j relj edj y1
                        subst eH9
                        have relw1 : Rel X.K κ (wipeE ρj vs1) (wipe σ5 vs1) w9 := by
                          have z := rel_wipe hv1 rel9
                          rw [wipe_wipe fun _ z => z] at z
                          exact z
                        refine ⟨wipeE ρj vs1, w9, ds1[j], rfl, relw1, r9, ?_⟩
                        rw [qj]
                        intro σa wa eHa ua rela ea
                        have ewa : wipe σa vs1 = wipe σ5 vs1 := wipe_upto ua hs1
                        refine ⟨ewa, ?_⟩
                        have e1a := (ej.trans e9).trans ea
                        have e7a := (e7j.trans e9.same).trans ea.same
                        have ta := (tj.keep e9).keep ea
                        refine ⟨ρ8, wa, rfl, rela, ?_⟩
                        have back1 : ∀ {ρ : Env} {w : Wd}, Rel X.K κ ρ σa w → Rel X.K κ (wipeE ρ vs1) (wipe σ5 vs1) w := fun r => by
                          have z := rel_wipe hv1 r
                          rw [ewa] at z
                          exact z
                        cases qt1 : tt1 ρ8 with
                        | none =>
                          rw [qt1] at postj
                          exact (show False from postj).elim
                        | some o2 =>
                          rw [qt1] at postj
                          cases o2 with
                          | err n d ρ' => exact (show False from postj).elim
                          | ok b2 ρb =>
                            intro wb relb eb
                            cases b2 with
                            | false =>
                              rw [if_neg Bool.false_ne_true]
                              exact ⟨wipeE ρb vs1, wb, acc2, rfl, back1 relb, e1a.trans eb, e7a.trans eb.same, ta.keep eb, postj⟩
                            | true =>
                              rw [if_pos rfl]
                              dsimp only at postj
                              refine ⟨ρb, wb, rfl, relb, ?_⟩
                              cases qe : fe ρb with
                              | none =>
                                rw [qe] at postj
                                exact (show False from postj).elim
                              | some o3 =>
                                rw [qe] at postj
                                cases o3 with
                                | err n d ρ' => exact (show False from postj).elim
                                | ok yd ρc =>
                                  dsimp only at postj
                                  intro yv wc relc ec tc
                                  split at postj
                                  · rename_i hl
                                    have tcL := (ta.keep eb).keep ec
                                    obtain ⟨g, ⟨a, vs', ds', g', ea', ed', eHa', _, _, _, od⟩, _⟩ := id tcL
                                    cases ea'
                                    cases ed'
                                    refine ⟨vs', eHa', by rw [(odl_rds od).length]; exact hl, ?_⟩
                                    obtain ⟨wd, eHd, eFd, reld, ed8, td⟩ := temp_app (back1 relc) ((e1a.trans eb).trans ec) nL tcL eHa' (Temp.rd tc)
                                    exact ⟨wipeE ρc vs1, wd, _, eHd, reld, ed8, by rw [eFd]; exact (e7a.trans eb.same).trans ec.same, td, postj⟩
                                  · exact (show False from postj).elim
                  · rw [List.drop_eq_nil_of_le (by omega)] at postj
                    unfold compL at postj
                    refine .inl ⟨wkj.1 (by omega), wipeE (wipeE ρj vs1) vs, wj, acc2, rfl, ?_, ej, tj, postj⟩
                    have z := rel_wipe hv (rel_wipe hv1 relj)
                    rw [wipe_wipe fun _ z => z, wipe_wipe h1v, ew] at z
                    exact z
  · rw [List.drop_eq_nil_of_le (by omega)] at posti
    exact .inl ⟨wki.1 (by omega), fin_temp hd posti (rel_unwipe rel1.fixed reli) (e1.trans ei) (ti.since e1)⟩
theorem fe_lc2 {kd : Kind} {elt iter iter1 : Expr} {ifs ifs1 : List Expr} {scope : Scope} {own : List (Str × Nat)} {vs1 sl sl1 : List Nat} {fi fi1 : M (List D)} {ft ft1 : D → Env → Option Env} {tt tt1 : M Bool} {fe : M D} (hd : newL b kd) (hc : X.calm = true) (hN : X.N.Nodup) (hi : FI X W b κ tg iter fi) (ok : BlkOk X.N X.env.scope scope own) (hv : nfAt κ (own.map (·.2))) (hv1 : nfAt κ vs1) (hs : ∀ i ∈ sl, i ∈ own.map (·.2)) (hs1 : ∀ i ∈ sl1, i ∈ vs1) (h1v : ∀ i ∈ vs1, i ∈ own.map (·.2))
    (hg : ∀ (s : Shared) (H : Hp) (A : Addr) (cl : List (Str × Addr)) (fp : List Addr), FG (X.blk s H scope (compEnvC scope cl A X.env) fp) W0 b sl κ κ tg ft) (ht : ∀ (s : Shared) (H : Hp) (A : Addr) (cl : List (Str × Addr)) (fp : List Addr), FTs (X.blk s H scope (compEnvC scope cl A X.env) fp) κ ifs tt)
    (hi1 : ∀ (s : Shared) (H : Hp) (A : Addr) (cl : List (Str × Addr)) (fp : List Addr), FI (X.blk s H scope (compEnvC scope cl A X.env) fp) W0 b κ tg1 iter1 fi1)
    (hg1 : ∀ (s : Shared) (H : Hp) (A : Addr) (cl : List (Str × Addr)) (fp : List Addr), FG (X.blk s H scope (compEnvC scope cl A X.env) fp) W0 b sl1 κ κ tg1 ft1) (ht1 : ∀ (s : Shared) (H : Hp) (A : Addr) (cl : List (Str × Addr)) (fp : List Addr), FTs (X.blk s H scope (compEnvC scope cl A X.env) fp) κ ifs1 tt1)
    (he : ∀ (s : Shared) (H : Hp) (A : Addr) (cl : List (Str × Addr)) (fp : List Addr), FV (X.blk s H scope (compEnvC scope cl A X.env) fp) W0 κ (.t (.v b)) elt fe) (hf : ∀ x, foldedSetIterable iter X.env x = pure x := by intro _; rfl) (hf1 : ∀ env x, foldedSetIterable iter1 env x = pure x := by intro _ _; rfl) :
    FV X W κ (.t kd) (.ListComp elt [⟨tg, iter, ifs, 0⟩, ⟨tg1, iter1, ifs1, 0⟩] scope pos) (fLc2 (own.map (·.2)) vs1 fi ft tt fi1 ft1 tt1 fe) :=
  (pe_lc2 (own := own) (vs1 := vs1) (g := tG (ctx X W0) b sl κ κ ft) (tt := tT (ctx X W0) κ tt) (wi1 := tI (ctx X W0) b κ fi1) (g1 := tG (ctx X W0) b sl1 κ κ ft1) (tt1 := tT (ctx X W0) κ tt1) (te := tV (ctx X W0) κ (.t (.v b)) fe) hc hN hi ok h1v hg (fun s H A cl fp => (ht s H A cl fp).h) hi1 hg1 (fun s H A cl fp => (ht1 s H A cl fp).h) he hf hf1).imp fun σ H Q h => ev_lc2 hd hv hv1 hs hs1 h1v h
/-! ### x = [.. for ..] -/
/-- what stands behind a store of slot i -/
theorem ev_setV {kd : Kind} {i : Nat} {fa : M D} {te : TE} {D' : Ends} {σ : L2.St} {H : Hp} (hi : ∀ σ H Q, tV (ctx X W) κ (.t kd) fa σ H Q → te σ H Q) (hl : i < κ.length) (hk : nofix kd) (he : EK C κ) (h : tS (ctx X W) C κ (κ.set i kd) (sSet i fa) D' σ H) : tAsg te (gName i) D' σ H := by
  obtain ⟨ρ, w, rfl, rel, post⟩ := h
  refine hi _ _ _ (seqV (P := PostS (ctx X W) C (κ.set i kd) D' w) rel post (fun z => z) (fun n d ρ' z => errS he z) fun d ρ1 v w1 rel1 e1 t1 post1 => ?_)
  obtain ⟨w2, eH, _, rel2, ex⟩ := rel_set rel1 t1 (by rw [← rel1.slots.lengths.1]; exact hl) (nofix_ne hk)
  show D'.nx (σ.set i (some v)) w1.H
  rw [← eH]
  exact post1 _ w2 rel2 (ex e1)
theorem fs_setLc {kd : Kind} {i : Nat} {y : Str} {py spos : Pos} {elt iter : Expr} {ifs : List Expr} {scope : Scope} {own : List (Str × Nat)} {sl : List Nat} {fi : M (List D)} {ft : D → Env → Option Env} {tt : M Bool} {fe : M D} (hd : newL b kd) (hc : X.calm = true) (hN : X.N.Nodup) (hyl : X.env.scope.names.lookup y = some .local) (hsw : swapsWith (.ListComp elt [⟨tg, iter, ifs, 0⟩] scope pos) (some (.Name y py)) spos.line X.env = pure true) (hi : FI X W b κ tg iter fi) (ok : BlkOk X.N X.env.scope scope own) (hv : nfAt κ (own.map (·.2))) (hs : ∀ i ∈ sl, i ∈ own.map (·.2))
    (hg : ∀ (s : Shared) (H : Hp) (A : Addr) (cl : List (Str × Addr)) (fp : List Addr), FG (X.blk s H scope (compEnvC scope cl A X.env) fp) W0 b sl κ κ tg ft) (ht : ∀ (s : Shared) (H : Hp) (A : Addr) (cl : List (Str × Addr)) (fp : List Addr), FTs (X.blk s H scope (compEnvC scope cl A X.env) fp) κ ifs tt)
    (he : ∀ (s : Shared) (H : Hp) (A : Addr) (cl : List (Str × Addr)) (fp : List Addr), FV (X.blk s H scope (compEnvC scope cl A X.env) fp) W0 κ (.t (.v b)) elt fe) (hy : X.N[i]? = some y := by rfl) (hk : κ[i]? = some kd := by rfl) (hn : nofix kd := by exact True.intro) (hE : EK C κ := by first | exact .inl rfl | exact .inr rfl) (hf : ∀ x, foldedSetIterable iter X.env x = pure x := by intro _; rfl) :
    FS X W C κ κ (.Assign [.Name y py] (.ListComp elt [⟨tg, iter, ifs, 0⟩] scope pos) spos) (sSet i (fLc (own.map (·.2)) fi ft tt fe)) := by
  have z := (ps_setLc (i := i) (own := own) (g := tG (ctx X W0) b sl κ κ ft) (tt := tT (ctx X W0) κ tt) (te := tV (ctx X W0) κ (.t (.v b)) fe) hc hN hy hyl hsw hi ok hg (fun s H A cl fp => (ht s H A cl fp).h) he hf).imp fun D' σ H h => ev_setV (κ := κ) (C := C) (kd := kd) (fun _ _ _ h => ev_lc hd hv hs h) (List.getElem?_eq_some_iff.mp hk).1 hn hE h
  rw [set_same hk] at z
  exact z
theorem fs_setLc2 {kd : Kind} {i : Nat} {y : Str} {py spos : Pos} {elt iter iter1 : Expr} {ifs ifs1 : List Expr} {scope : Scope} {own : List (Str × Nat)} {vs1 sl sl1 : List Nat} {fi fi1 : M (List D)} {ft ft1 : D → Env → Option Env} {tt tt1 : M Bool} {fe : M D} (hd : newL b kd) (hc : X.calm = true) (hN : X.N.Nodup) (hyl : X.env.scope.names.lookup y = some .local) (hsw : swapsWith (.ListComp elt [⟨tg, iter, ifs, 0⟩, ⟨tg1, iter1, ifs1, 0⟩] scope pos) (some (.Name y py)) spos.line X.env = pure true) (hi : FI X W b κ tg iter fi) (ok : BlkOk X.N X.env.scope scope own) (hv : nfAt κ (own.map (·.2))) (hv1 : nfAt κ vs1) (hs : ∀ i ∈ sl, i ∈ own.map (·.2)) (hs1 : ∀ i ∈ sl1, i ∈ vs1) (h1v : ∀ i ∈ vs1, i ∈ own.map (·.2))
    (hg : ∀ (s : Shared) (H : Hp) (A : Addr) (cl : List (Str × Addr)) (fp : List Addr), FG (X.blk s H scope (compEnvC scope cl A X.env) fp) W0 b sl κ κ tg ft) (ht : ∀ (s : Shared) (H : Hp) (A : Addr) (cl : List (Str × Addr)) (fp : List Addr), FTs (X.blk s H scope (compEnvC scope cl A X.env) fp) κ ifs tt)
    (hi1 : ∀ (s : Shared) (H : Hp) (A : Addr) (cl : List (Str × Addr)) (fp : List Addr), FI (X.blk s H scope (compEnvC scope cl A X.env) fp) W0 b κ tg1 iter1 fi1)
    (hg1 : ∀ (s : Shared) (H : Hp) (A : Addr) (cl : List (Str × Addr)) (fp : List Addr), FG (X.blk s H scope (compEnvC scope cl A X.env) fp) W0 b sl1 κ κ tg1 ft1) (ht1 : ∀ (s : Shared) (H : Hp) (A : Addr) (cl : List (Str × Addr)) (fp : List Addr), FTs (X.blk s H scope (compEnvC scope cl A X.env) fp) κ ifs1 tt1)
    (he : ∀ (s : Shared) (H : Hp) (A : Addr) (cl : List (Str × Addr)) (fp : List Addr), FV (X.blk s H scope (compEnvC scope cl A X.env) fp) W0 κ (.t (.v b)) elt fe) (hy : X.N[i]? = some y := by rfl) (hk : κ[i]? = some kd := by rfl) (hn : nofix kd := by exact True.intro) (hE : EK C κ := by first | exact .inl rfl | exact .inr rfl) (hf : ∀ x, foldedSetIterable iter X.env x = pure x := by intro _; rfl) (hf1 : ∀ env x, foldedSetIterable iter1 env x = pure x := by intro _ _; rfl) :
    FS X W C κ κ (.Assign [.Name y py] (.ListComp elt [⟨tg, iter, ifs, 0⟩, ⟨tg1, iter1, ifs1, 0⟩] scope pos) spos) (sSet i (fLc2 (own.map (·.2)) vs1 fi ft tt fi1 ft1 tt1 fe)) := by
  have z := (ps_setLc2 (i := i) (own := own) (vs1 := vs1) (g := tG (ctx X W0) b sl κ κ ft) (tt := tT (ctx X W0) κ tt) (wi1 := tI (ctx X W0) b κ fi1) (g1 := tG (ctx X W0) b sl1 κ κ ft1) (tt1 := tT (ctx X W0) κ tt1) (te := tV (ctx X W0) κ (.t (.v b)) fe) hc hN hy hyl hsw hi ok h1v hg (fun s H A cl fp => (ht s H A cl fp).h) hi1 hg1 (fun s H A cl fp => (ht1 s H A cl fp).h) he hf hf1).imp fun D' σ H h => ev_setV (κ := κ) (C := C) (kd := kd) (fun _ _ _ h => ev_lc2 hd hv hv1 hs hs1 h1v h) (List.getElem?_eq_some_iff.mp hk).1 hn hE h
  rw [set_same hk] at z
  exact z
end
/-! ### a, b, c = x, y, z -/
def sPar3 (i j l : Nat) (fr : M (List D)) : Env → Option Fl := fun ρ => bnd (fr ρ) Fl.err fun ds ρ1 => match ds with
  | [x, y, z] => some (.nx (((ρ1.set i (some x)).set j (some y)).set l (some z)))
  | _ => none
section
variable {X : Cx} {W : WX} {C : FC} {κ : List Kind} {pos : Pos}
theorem rel_put {K : PySem.W.Frag} {κ : List Kind} {ρ : Env} {σ : L2.St} {w : Wd} {F H : Hp} {g : FpS} (sl : Slots K F H κ ρ σ g) {i : Nat} {k : Kind} {d : D} {v : V} {f : FpS} (hi : i < κ.length) (o : OD K F H k v d f) (dj : ∀ a, f a → ¬ g a) : Slots K F H (κ.set i k) (ρ.set i (some d)) (σ.set i (some v)) (fun a => f a ∨ g a) := by
  have p := (sl.drop i).put (i := i) (by rw [← sl.lengths.1]; exact hi) o dj
  rw [List.set_set] at p
  exact p
theorem fs_parK3 {i j l : Nat} {k1 k2 k3 : Kind} {x y z : Str} {ea eb ec : Expr} {fr : M (List D)} {px py pz pt : Pos} {kt k2' pt2} (hc : X.calm = true) (hN : X.N.Nodup) (ha : FA X W κ [.t k1, .t k2, .t k3] [ea, eb, ec] fr) (h1 : κ[i]? = some k1 := by rfl) (h2 : κ[j]? = some k2 := by rfl) (h3 : κ[l]? = some k3 := by rfl) (hij : i ≠ j := by decide) (hil : i ≠ l := by decide) (hjl : j ≠ l := by decide) (hi : X.N[i]? = some x := by rfl) (hj : X.N[j]? = some y := by rfl) (hl : X.N[l]? = some z := by rfl)
    (hx : X.env.scope.names.lookup x = some .local := by rfl) (hy : X.env.scope.names.lookup y = some .local := by rfl) (hz : X.env.scope.names.lookup z = some .local := by rfl) (hn1 : nofix k1 := by exact True.intro) (hn2 : nofix k2 := by exact True.intro) (hn3 : nofix k3 := by exact True.intro) (he : EK C κ := by first | exact .inl rfl | exact .inr rfl)
    (hw : swappedStores [.Tuple [.Name x px, .Name y py, .Name z pz] kt pt] (.Tuple [ea, eb, ec] k2' pt2) X.env = pure (some [x, y, z]) := by rfl)
    (hs : swapsWithSole [.Tuple [.Name x px, .Name y py, .Name z pz] kt pt] (.Tuple [ea, eb, ec] k2' pt2) pos.line X.env = pure false := by rfl) : FS X W C κ κ (.Assign [.Tuple [.Name x px, .Name y py, .Name z pz] kt pt] (.Tuple [ea, eb, ec] k2' pt2) pos) (sPar3 i j l fr) := (ps_par3 hc hN hi hj hl hij hil hjl hx hy hz ha hw hs).imp fun D' σ H h => by
  obtain ⟨ρ, w, rfl, rel, post⟩ := h
  refine seqA (P := PostS (ctx X W) C κ D' w) rel post (fun z => z) (fun n d ρ' z => errS (κn := κ) he z) fun ds ρ1 vs w1 rel1 e1 a1 post1 => ?_
  obtain ⟨g, ar, cg⟩ := a1
  cases ar with
  | @t _ d1 v1 _ _ _ f1 g1 _ o1 ar dj1 a1 a2 =>
    cases ar with
    | @t _ d2 v2 _ _ _ f2 g2 _ o2 ar dj2 a3 a4 =>
      cases ar with
      | @t _ d3 v3 _ _ _ f3 g3 _ o3 ar dj3 a5 a6 =>
        cases ar
        refine ⟨v1, v2, v3, rfl, ?_⟩
        have p1 := rel_put (w := w1) rel1.slots (i := i) (List.getElem?_eq_some_iff.mp h1).1 o1 (fun a z => (cg a (a1 a z)).1)
        have p2 := rel_put (w := w1) p1 (i := j) (by rw [List.length_set]; exact (List.getElem?_eq_some_iff.mp h2).1) o2 (fun a z y => y.elim (fun y => dj1 a y (a3 a z)) (cg a (a2 a (a3 a z))).1)
        have p3 := rel_put (w := w1) p2 (i := l) (by rw [List.length_set, List.length_set]; exact (List.getElem?_eq_some_iff.mp h3).1) o3 (fun a z y => y.elim (fun y => dj2 a y (a5 a z)) fun y => y.elim (fun y => dj1 a y (a4 a (a5 a z))) (cg a (a2 a (a4 a (a5 a z)))).1)
        have ek : ((κ.set i k1).set j k2).set l k3 = κ := by
          rw [set_same h1, set_same h2, set_same h3]
        rw [ek] at p3
        have all : ∀ a, (f3 a ∨ f2 a ∨ f1 a ∨ w1.fp a) → w1.fp a ∨ g a := fun a z => by
          rcases z with z | z | z | z
          · exact .inr (a2 a (a4 a (a5 a z)))
          · exact .inr (a2 a (a3 a z))
          · exact .inr (a1 a z)
          · exact .inl z
        refine post1 _ ⟨w1.F, w1.H, fun a => f3 a ∨ f2 a ∨ f1 a ∨ w1.fp a⟩ ⟨rel1.same, fun a z => (all a z).elim (rel1.frz a) fun y => (cg a y).2.1, fun a z => (all a z).elim (rel1.live a) fun y => (cg a y).2.2.1, fun q u k z => ?_, p3⟩ ⟨e1.same, e1.new, e1.keep, fun a z => (all a z).elim (e1.fp a) fun y => (cg a y).2.2.2⟩
        have ne : ∀ {r : Nat} {kk : Kind}, κ[r]? = some kk → nofix kk → q ≠ r := fun hr hn e => by
          subst e
          rw [z] at hr
          cases hr
          exact hn.elim
        rw [List.getElem?_set_ne (Ne.symm (ne h3 hn3)), List.getElem?_set_ne (Ne.symm (ne h2 hn2)), List.getElem?_set_ne (Ne.symm (ne h1 hn1))]
        exact rel1.fixed q u k z
end
end FN
set_option Elab.async false
set_option linter.all false
set_option maxRecDepth 100000
set_option maxHeartbeats 4000000
/-! FN15: calls with keywords, defs that call themselves, text * n. -/
namespace FN
open PySem PySem.Spec PyProof.Rows L2
/-! ### a def whose mirror gives nothing -/
section
variable {P : Program} {w : World} {K : PySem.W.Frag} {mg : Str → Option Value} {base : Heap}
theorem kn_none {CX : CXT} {x : Str} {st : Stmt} {ps : List Str} {k : Nat} {ks : List Kind} {kr : Kind} {g : M D} (a : At K mg x st ps) (h : ∀ ρ, g ρ = none) : Kn P w K mg base CX k x ps (spF K mg ks kr g) := by
  obtain ⟨f, fd, F, hm, bd⟩ := a.ex
  have no : ∀ vs H Q E, ¬ spF K mg ks kr g vs H Q E := fun vs H Q E z => by
    obtain ⟨ρ, w, _, _, q⟩ := z
    rw [h ρ] at q
    exact q
  exact ⟨f, fd, ⟨fun vs H Q E z => (no _ _ _ _ z).elim, fun A outer s H args us vs Q E _ _ _ _ z => (no _ _ _ _ z).elim⟩, hm, F.kp, bd, fun_lk F⟩
/-! ### f(a = e, ..) -/
def permE (π : List Nat) (ρ : Env) : Env := π.map fun j => (ρ[j]?).join
def permL {α : Type} (d : α) (π : List Nat) (l : List α) : List α := π.map fun j => l.getD j d
/-- the mirror, its data in another order -/
def kwM (π : List Nat) (g : M D) : M D := fun ρ => match g (permE π ρ) with
  | some (.ok d _) => some (.ok d (ρ.map fun _ => none))
  | some (.err n d _) => some (.err n d (ρ.map fun _ => none))
  | none => none
/-- how a def binds keywords in the order ks -/
structure KwAt (K : PySem.W.Frag) (mg : Str → Option Value) (x : Str) (ps ks : List Str) (π : List Nat) : Prop where
  ex : ∃ (f : Addr) (fd : FuncData) (oc : Value) (od : Option Addr) (osl : Array (Option Value)), mg x = some (.ref f) ∧ K.lookup f = some ⟨oc, od, .func fd, osl⟩ ∧
    ∀ (s : Shared) (ws : List Value), ws.length = ks.length → BindsTo s fd ⟨[], ks.zip ws⟩ (ps.zip (permL .none π ws))
theorem kwAt_mk {x : Str} {st : Stmt} {ps ks : List Str} {π : List Nat} (a : At K mg x st ps)
    (h : ∀ (kV doc pm : Value) (an : Option Addr) (cdv ct : Value) (ws : List Value), ws.length = ks.length → bindArgs (PySem.W.fnOf x x (defArgs st) (defBody st) (defScope st) .none kV doc pm an cdv ct) ⟨[], ks.zip ws⟩ = pure (ps.zip (permL .none π ws))) : KwAt K mg x ps ks π := by
  obtain ⟨f, fd, F, hm, bd⟩ := a.ex
  obtain ⟨oc, od, kV, doc, pm, an, cdv, ct, osl, rfl, lk, hcd⟩ := F.ex
  exact ⟨f, _, oc, od, osl, hm, lk, fun s ws hw => .of_eq (h kV doc pm an cdv ct ws hw)⟩
end
def imms (b : Bool) (n : Nat) : List Kind := List.replicate n (.v b)
section
variable {K : PySem.W.Frag} {mg : Str → Option Value}
theorem slots_imm {b : Bool} {F H : Hp} : ∀ {n : Nat} {ρ : Env} {vs : List V} {fp : FpS}, Slots K F H (imms b n) ρ (vs.map some) fp → ρ.length = n ∧ vs.length = n ∧ ∀ (i : Nat) d, ρ[i]? = some (some d) → ∃ v, vs[i]? = some v ∧ RD b K F v d := fun {n ρ vs fp} h => by
  have l := h.lengths
  have hn : (imms b n).length = n := List.length_replicate ..
  rw [hn, List.length_map] at l
  refine ⟨by rw [l.2, ← l.1], l.1.symm, fun i d e => ?_⟩
  have hi : i < n := by
    have := (List.getElem?_eq_some_iff.mp e).1
    rw [l.2, ← l.1] at this
    exact this
  have hk : (imms b n)[i]? = some (.v b) := by
    unfold imms
    rw [List.getElem?_replicate, if_pos hi]
  obtain ⟨v, f, e1, o, _⟩ := h.get e hk
  rw [List.getElem?_map] at e1
  cases q : vs[i]? with
  | none =>
    rw [q] at e1
    cases e1
  | some v' =>
    rw [q] at e1
    cases e1
    exact ⟨v, rfl, o⟩
theorem imm_slots {b : Bool} {F H : Hp} {fp : FpS} : ∀ {n : Nat} {ρ : Env} {vs : List V}, ρ.length = n → vs.length = n → (∀ (i : Nat) d, ρ[i]? = some (some d) → ∃ v, vs[i]? = some v ∧ RD b K F v d) → Slots K F H (imms b n) ρ (vs.map some) fp
  | 0, [], [], _, _, _ => .nil
  | n + 1, o :: ρ, v :: vs, h1, h2, h => by
    have r : Slots K F H (imms b n) ρ (vs.map some) fp := imm_slots (by simpa using h1) (by simpa using h2) fun i d e => h (i + 1) d (by simpa using e)
    cases o with
    | none => exact .skip r
    | some d =>
      obtain ⟨v', e, rd⟩ := h 0 d rfl
      cases e
      exact .cons (f := fun _ => False) rd r (fun _ z => z.elim) (fun _ z => z.elim) fun _ z => z
  | 0, _ :: _, _, h, _, _ => by simp at h
  | 0, [], _ :: _, _, h, _ => by simp at h
  | n + 1, [], _, h, _, _ => by simp at h
  | n + 1, _ :: _, [], _, h, _ => by simp at h
theorem permL_get {α : Type} {d : α} {π : List Nat} {l : List α} {i : Nat} : (permL d π l)[i]? = (π[i]?).map fun j => l.getD j d := by
  unfold permL
  rw [List.getElem?_map]
/-- the promise in the keywords' order gives the promise in the parameters' -/
theorem kw_sp {b : Bool} {kr : Kind} {g : M D} {n : Nat} {π : List Nat} {zs : List V} {H : Hp} {Q : VK} {E : XK} (hπ : π.length = n) (h : spF K mg (imms b n) kr (kwM π g) zs H Q E) : spF K mg (imms b n) kr g (permL .non π zs) H Q E := by
  obtain ⟨ρ, w, rfl, rel, post⟩ := h
  obtain ⟨l1, l2, rd⟩ := slots_imm rel.slots
  have nofx : ∀ (i : Nat) (u : V) (k : Kind), (imms b n)[i]? ≠ some (.fix u k) := fun i u k z => by
    unfold imms at z
    rw [List.getElem?_replicate] at z
    split at z
    · cases z
    · cases z
  have sl : ∀ {F H : Hp} {fp : FpS}, (∀ (i : Nat) d, ρ[i]? = some (some d) → ∃ v, zs[i]? = some v ∧ RD b K F v d) → Slots K F H (imms b n) (permE π ρ) ((permL V.non π zs).map some) fp := fun {F H fp} rd => by
    refine imm_slots (by unfold permE; rw [List.length_map, hπ]) (by unfold permL; rw [List.length_map, hπ]) fun i d e => ?_
    unfold permE at e
    rw [List.getElem?_map] at e
    rw [permL_get]
    cases q : π[i]? with
    | none =>
      rw [q] at e
      cases e
    | some j =>
      rw [q] at e
      have e' : (ρ[j]?).join = some d := by simpa using e
      obtain ⟨v, ev, r⟩ := rd j d (join_some e')
      refine ⟨v, ?_, r⟩
      show some (zs.getD j V.non) = some v
      rw [List.getD_eq_getElem?_getD, ev]
      rfl
  have back : ∀ {w' : Wd} {ρ' : Env}, Rel K (imms b n) ρ' ((permL V.non π zs).map some) w' → Rel K (imms b n) (ρ.map fun _ => none) (zs.map some) w' := fun {w' ρ'} r => by
    refine ⟨r.same, r.frz, r.live, fun i u k z => absurd z (nofx i u k), imm_slots (by rw [List.length_map, l1]) l2 fun i d e => ?_⟩
    rw [List.getElem?_map] at e
    cases q : ρ[i]? with
    | none =>
      rw [q] at e
      cases e
    | some o =>
      rw [q] at e
      cases e
  refine ⟨permE π ρ, w, rfl, ⟨rel.same, rel.frz, rel.live, fun i u k z => absurd z (nofx i u k), sl rd⟩, ?_⟩
  unfold kwM at post
  cases q : g (permE π ρ) with
  | none =>
    rw [q] at post
    exact post
  | some o =>
    rw [q] at post
    cases o with
    | ok d ρ' => exact fun v w' r e t => post v w' (back r) e t
    | err nm d ρ' => exact fun cls dx w' s e ea => post cls dx w' s e ea
end
section
variable {X : Cx} {W : WX} {κ : List Kind} {pos p kpos : Pos} {e : Expr} {kws : List Keyword} {fr : M (List D)} {ms : List Md} {m : Md} {fa : M D} {kr : Kind} {g : M D}
def FKw (X : Cx) (W : WX) (κ : List Kind) (ms : List Md) (kws : List Keyword) (fr : M (List D)) : Prop := PK X kws (tA (ctx X W) κ ms fr)
theorem _root_.L2.PK.imp {X : Cx} {e : List Keyword} {t t' : TA} (h : PK X e t) (i : ∀ σ H Q, t' σ H Q → t σ H Q) : PK X e t' := ⟨fun pos pins s σ H Q I q => h.run pos pins s σ H Q I (i σ H Q q)⟩
theorem fk_nil : FKw X W κ [] [] aNil := pk_nil.imp fun σ H Q h => by
  obtain ⟨ρ, w, rfl, rel, post⟩ := h
  exact post [] w rel (Ext.refl _) ⟨fun _ => False, .nil, fun _ z => z.elim⟩
theorem fk_cons {nm : Option Str} (ha : FV X W κ m e fa) (hr : FKw X W κ ms kws fr) : FKw X W κ (m :: ms) (⟨nm, e, kpos⟩ :: kws) (aCons fa fr) := (pk_cons ha hr).imp fun σ H Q h => by
  obtain ⟨ρ, w, rfl, rel, post⟩ := h
  refine seqV (P := PostA (ctx X W) κ σ (m :: ms) w Q) rel post (fun z => z) (fun n d ρ' z => z) fun d ρ1 v w1 rel1 e1 t1 post1 => ?_
  refine seqA (P := PostA (ctx X W) κ σ (m :: ms) w Q) rel1 post1 (fun z => z) (fun n d ρ' z => ErrOk.since z e1) fun ds ρ2 vs w2 rel2 e2 a2 post2 => ?_
  exact post2 (v :: vs) w2 rel2 (e1.trans e2) (args_cons e1 e2 t1 a2)
theorem noErr_kwM {π : List Nat} {g : M D} : ∀ ρ n d ρ', kwM π (noErr g) ρ ≠ some (.err n d ρ') := fun ρ n d ρ' z => by
  unfold kwM at z
  split at z
  · cases z
  · rename_i q
    exact noErr_ne q
  · cases z
theorem permL_vals {zs : List V} {ws : List Value} (r : Vals zs ws) : ∀ π : List Nat, Vals (permL V.non π zs) (permL Value.none π ws)
  | [] => .nil
  | j :: π => by
    have h : RelV (zs.getD j V.non) (ws.getD j Value.none) := by
      rw [List.getD_eq_getElem?_getD, List.getD_eq_getElem?_getD]
      cases q : zs[j]? with
      | none =>
        have hl : ws[j]? = none := by
          rw [List.getElem?_eq_none_iff] at q ⊢
          rw [← Paired.length r]
          exact q
        rw [hl]
        rfl
      | some v =>
        obtain ⟨u, e, rv⟩ := r.get q
        rw [e]
        exact rv
    exact .cons h (permL_vals r π)
theorem kw_call {b : Bool} {CX : CXT} {k n : Nat} {x : Str} {ps ks : List Str} {π : List Nat} {E : L2.St → XK} (G : Kn X.prog X.w X.K X.mg X.base CX k x ps (spF X.K X.mg (imms b n) kr g)) (KW : KwAt X.K X.mg x ps ks π) (hx : ∀ σ, PassesAt CX X σ (E σ)) (hr : Room k X.A) (hf : Fits κ ms (imms b n)) (hn : π.length = n) (hks : ks.length = n) (ha : FKw X W κ ms kws fr)
    (hE : (∀ ρ n d ρ', kwM π g ρ ≠ some (.err n d ρ')) ∨ ∀ σ cls dx H, W cls dx σ H → E σ cls dx H) (hg : Gl X x) (hdb : (x == ("__debug__" : Str)) = false)
    (hall : (backToKw pos (keywordEach kws X.env)).all (·.1.isSome) = true) (hk : (backToKw pos (keywordEach kws X.env)).filterMap (·.1) = ks) (hpl : ((backTo pos (starEach [] X.env)).any (·.1) || (backToKw pos (keywordEach kws X.env)).any (·.1.isNone)) = false) :
    FV X W κ (.t kr) (.Call (.Name x p) [] kws pos) (fCall ms (kwM π g) fr) := by
  obtain ⟨f, fd, F, hm, hkp, _, oc, od, osl, lk⟩ := G.ex
  obtain ⟨f', fd', oc', od', osl', hm', lk', hb⟩ := KW.ex
  rw [hm] at hm'
  cases hm'
  rw [lk] at lk'
  cases lk'
  refine ⟨fun pins s σ H Q I h => ?_⟩
  have q : tA (ctx X W) κ ms fr σ H (fun zs H1 => spF X.K X.mg (imms b n) kr (kwM π g) zs H1 Q (E σ)) := ev_call hf (hE.imp id fun z => z σ) h
  refine wpAny_Call_Name_kw (ld_glob I hg hm ?_ hdb)
  refine PySem.W.callWith_KW0 (h₀ := X.base) I.ok.mod.kin hkp hall (thn (ha.run pos pins s σ H _ I q) fun ws s2 hh => ?_) hpl
  obtain ⟨zs, H2, I2, rz, q2⟩ := hh
  refine ⟨I2.kIn, ?_⟩
  rw [hk]
  have hs := kw_sp hn q2
  have lz : zs.length = n := by
    obtain ⟨ρ, w, _, rel, _⟩ := q2
    exact (slots_imm rel.slots).2.1
  have lw : ws.length = ks.length := by rw [← Paired.length rz, lz, hks]
  have rg : Vals (permL V.non π zs) (permL Value.none π ws) := permL_vals rz π
  refine wpAny_call (codeAny_mono (F.run X.A X.stack s2 H2 ⟨[], ks.zip ws⟩ (permL .none π ws) (permL .non π zs) Q (E σ) hr I2.env0 (hb s2 ws lw) rg hs) fun r s' hq => ?_)
  cases r with
  | error er => exact hx σ pins H2 s2 er s' I2 hq
  | ok fl =>
    cases fl with
    | ret u => exact I2.after hq
    | next => exact False.elim hq
    | brk => exact False.elim hq
    | cont => exact False.elim hq
theorem fe_fnK {b : Bool} {k n : Nat} {x : Str} {ps ks : List Str} {π : List Nat} (G : Kn X.prog X.w X.K X.mg X.base CX0 k x ps (spF X.K X.mg (imms b n) kr (noErr g))) (KW : KwAt X.K X.mg x ps ks π) (hr : Room k X.A) (hf : Fits κ ms (imms b n)) (ha : FKw X W κ ms kws fr) (hn : π.length = n := by rfl) (hks : ks.length = n := by rfl) (hg : Gl X x := by rfl) (hdb : (x == ("__debug__" : Str)) = false := by decide)
    (hall : (backToKw pos (keywordEach kws X.env)).all (·.1.isSome) = true := by rfl) (hk : (backToKw pos (keywordEach kws X.env)).filterMap (·.1) = ks := by rfl) (hpl : ((backTo pos (starEach [] X.env)).any (·.1) || (backToKw pos (keywordEach kws X.env)).any (·.1.isNone)) = false := by rfl) :
    FV X W κ (.t kr) (.Call (.Name x p) [] kws pos) (fCall ms (kwM π (noErr g)) fr) := kw_call (E := fun _ => E0) G KW (fun _ _ _ _ _ _ _ z => z.elim) hr hf hn hks ha (.inl noErr_kwM) hg hdb hall hk hpl
theorem fe_fnKX {b : Bool} {k n : Nat} {x : Str} {ps ks : List Str} {π : List Nat} (G : Kn X.prog X.w X.K X.mg X.base (L2.CX X.prog X.w) k x ps (spF X.K X.mg (imms b n) kr g)) (KW : KwAt X.K X.mg x ps ks π) (tk : Takes X W) (hr : Room k X.A) (hf : Fits κ ms (imms b n)) (ha : FKw X W κ ms kws fr) (hn : π.length = n := by rfl) (hks : ks.length = n := by rfl) (hg : Gl X x := by rfl) (hdb : (x == ("__debug__" : Str)) = false := by decide)
    (hall : (backToKw pos (keywordEach kws X.env)).all (·.1.isSome) = true := by rfl) (hk : (backToKw pos (keywordEach kws X.env)).filterMap (·.1) = ks := by rfl) (hpl : ((backTo pos (starEach [] X.env)).any (·.1) || (backToKw pos (keywordEach kws X.env)).any (·.1.isNone)) = false := by rfl) :
    FV X W κ (.t kr) (.Call (.Name x p) [] kws pos) (fCall ms (kwM π g) fr) := kw_call (E := fun σ => WE W σ) G KW (fun σ => passAt tk σ) hr hf hn hks ha (.inr fun _ _ _ _ z => z) hg hdb hall hk hpl
end
/-! ### text * n -/
section
variable {X : Cx} {W : WX} {κ : List Kind} {pos : Pos} {a b : Expr} {fa fb : M D} {ma mb : Md} {k : Bool}
def rMulS : R2 := fun x y H Q => ∃ s n, x = .str s ∧ y = .int n ∧ MulOk s n ∧ Q (.str (Txt.mul s n)) H
theorem op_mulS : OpR X (binaryOp .Mult) rMulS := by
  intro pins s σ H x y v u Q I rx ry h
  obtain ⟨i, j, rfl, rfl, hz, q⟩ := h
  obtain ⟨t, rfl⟩ := rx
  obtain ⟨t', rfl⟩ := ry
  exact SB.mul hz fun t2 tk => ⟨.str _, H, I.tok _, ⟨_, rfl⟩, q⟩
def dMulS : D → D → Option D
  | .str s, .int n => if 1 ≤ n ∧ n ≤ 1000 ∧ s.length ≤ 1000 then some (.str (Txt.mul s n)) else none
  | _, _ => none
theorem mulOk_small {s : Str} {n : Int} (h1 : 1 ≤ n) (h2 : n ≤ 1000) (h3 : s.length ≤ 1000) : MulOk s n := by
  refine ⟨?_, fun _ _ => ?_, fun _ _ => ?_⟩
  · rw [Bool.or_eq_false_iff]
    exact ⟨decide_eq_false (by omega), decide_eq_false (by omega)⟩
  · have h4 : (1000 : Int) ≤ (2 ^ 63 - 1) / n := by
      rw [Int.le_ediv_iff_mul_le (by omega)]
      omega
    omega
  · show decide (s.length * n.toNat > sizeLine) = false
    refine decide_eq_false ?_
    have h4 : s.length * n.toNat ≤ 1000 * 1000 := Nat.mul_le_mul h3 (by omega)
    rw [sizeLine_eq]
    omega
theorem s_mulS {K : PySem.W.Frag} : Sc K rMulS dMulS := by
  intro x y dx dy z H Q hx hy ho q
  unfold dMulS at ho
  split at ho
  · split at ho
    · rename_i c
      cases ho
      exact ⟨_, _, dp_str hx, dp_int hy, mulOk_small c.1 c.2.1 c.2.2, q _ fun b F => .str _⟩
    · cases ho
  · cases ho
end
end FN
set_option Elab.async false
set_option linter.all false
set_option maxRecDepth 100000
set_option maxHeartbeats 4000000
/-! FN16: isinstance of a caught error that has its dict. -/
namespace PySem.W
open PySem PySem.Spec PySem.Calls PyProof.Rows
section
variable {prog : Program} {w : World} {A : Around} {E : Value → Shared → Prop} {s : Shared} {K : Frag} {x D : Addr} {ox : Obj} {od : Option Obj}
theorem fn_dataD {C : Addr} {name : Str} {a g : Value} (hc : (clsIn K C).isSome = true) (ha : findIn K (.ref C) name = some (some a)) (hg : specialIn K a "__get__" = some (some g)) (ht : takesIn K a = some true) : findObj K C od name = some (.bind g a) := by
  obtain ⟨cd, q⟩ := Option.isSome_iff_exists.mp hc
  unfold findObj; rw [q, Option.bind_some, ha, Option.bind_some]
  simp [hg, ht]
theorem fn_class {Q : Option Value → Shared → Prop} (C : L2.ExcC K D) (X : K.In s.heap) (I : InstAt s.heap x ox D od) (h : Q (some (.ref D)) { s with toks := s.toks + 1 }) : wpAny (model prog w) A (getAttr? (.ref x) "__class__") Q E s := by
  have hf : findObj K D od "__class__" = some (.bind (.builtin "getset_descriptor.__get__") (.builtin "object.__class__")) := fn_dataD (by obtain ⟨cd, hc, _⟩ := any_some C.hd; rw [hc]; rfl) C.ha C.hn C.ht
  obtain ⟨hp, g, d, t, os⟩ := s
  have T0 := I.type (M := model prog w); have T1 := looks_findIn (M := model prog w) X C.hg
  have T2 := looks_findIn (M := model prog w) X C.hk; have T3 := looks_find (M := model prog w) X I hf
  have below : Looks (model prog w) hp (isInstance (.ref x) (.type "BaseException")) true := T0.andThen (looks_subIn X C.hs)
  have n2 : (Value.builtin "BaseException.__getattribute__" == Value.builtin "object.__getattribute__") = false := by decide +kernel
  have n1 : (onTheHeap (Value.ref D) && Value.builtin "BaseException.__getattribute__" == Value.builtin "object.__getattribute__") = false := by rw [n2]; rfl
  have n0 : (false && onTheHeap (Value.builtin "BaseException.__getattribute__")) = false := rfl
  unfold getAttr? getAttrBy? getAttrBy; refine wpAny_bind (wpAny_mkText (wpAny_bind (wpAny_attempt (wpAny_holding (wpAny_bind (T0.at (wpAny_bind (T1.at ?_))))))))
  show wpAny _ _ (if (onTheHeap (Value.ref D) && Value.builtin "BaseException.__getattribute__" == Value.builtin "object.__getattribute__") = true then _ else _) _ _ _
  rw [n1, if_neg Bool.false_ne_true]; unfold getAttrByItsOwn hookBefore; refine wpAny_bind ?_
  rw [if_pos (show onTheHeap (Value.ref D) = true from rfl)]; refine T2.at ?_
  refine wpAny_bind (wpAny_attempt (wpAny_holding ?_)); unfold callGetattribute; rw [n0, if_neg Bool.false_ne_true]; unfold boundAndCalled
  rw [PySem.F.excAttr_ValueError.ga.bind (.ref x)]; refine wpAny_bind (wpAny_pure ?_)
  show wpAny _ _ (call (.builtin "BaseException.__getattribute__") [.ref x, .str "__class__" t]) _ _ _
  refine wpAny_call (codeAny_call_builtin PySem.F.excAttr_ValueError.ga.plain PySem.F.entry_bexc_ga ?_); refine @check_slot (model prog w) _ _ ⟨hp, g, d, t + 1, os⟩ "BaseException.__getattribute__" "BaseException" "__getattribute__" (.ref x) [.str "__class__" t] [] _ (by decide +kernel) (by decide +kernel) below (PySem.F.args_bexc_ga (.ref x) (.str "__class__" t)) ?_
  unfold Builtin.«object.__getattribute__»; refine wpAny_bind (wpAny_of_eq (a := ((Value.ref x : Value), [Value.str "__class__" t])) (by first | rfl | (simp only [slotArgs]; rfl)) ?_)
  refine wpAny_bind (wpAny_pure (wpAny_bind (T0.at (wpAny_bind (T3.at ?_)))))
  show wpAny _ _ (holding [Value.builtin "object.__class__"] (call (.builtin "getset_descriptor.__get__") [.builtin "object.__class__", .ref x, .ref D]) >>= ret) _ _ _
  refine wpAny_bind (wpAny_holding (wpAny_call (class_get (s := ⟨hp, g, d, t + 1, os⟩) (ox := ox) (od := od) X I C.hm ?_)))
  refine wpAny_pure ?_; show wpAny _ _ (handedOut (.ref D)) _ _ _; rw [handedOut_of (v := .ref D) rfl]
  first | exact wpAny_pure (wpAny_pure h) | exact wpAny_pure h | exact wpAny_pure (wpAny_bind (wpAny_pure (wpAny_pure h)))
theorem fn_kitx (C : L2.ExcC K D) : KitX K (.ref x) (.ref D) (fun h => InstAt h x ox D od) where
  ty := fun _ _ _ I => I.type
  it := fun _ _ X _ => by
    obtain ⟨cdD, q, _⟩ := any_some C.hd
    unfold clsIn at q; split at q
    · rename_i c' d' cd' sl' ho
      intro A' Q' E' s' k q2; unfold isType loadHead; exact wpAny_bind (wpAny_loadPart (k _ _ (X _ _ ho)) (wpAny_pure q2))
    · cases q
  ne := fun h tp dd its n sl X htp => by
    obtain ⟨cdD, q, _⟩ := any_some C.hd
    refine Bool.eq_false_iff.mpr fun q3 => ?_
    have e : D = tp := Value.ref.inj (beq_iff_eq.mp q3)
    subst e; unfold clsIn at q; split at q
    · rename_i c' d' cd' sl' ho
      have z := (X _ _ ho).symm.trans htp
      cases z
    · cases q
  ca := fun X I k => fn_class C X I k
end
end PySem.W
namespace FN
open PySem PySem.Spec PyProof.Rows L2
/-- isinstance(e, S), e the error that the suite holds -/
theorem call_isD {X : Cx} {a : Addr} {oe : Obj} {dx : Addr} {cls : Value} {pn : List (Addr × Obj)} (hz : Zc cls (some dx) oe) (hf : ∃ vs, oe.data = .fields vs) : CallR (X.suite a ((a, oe) :: pn)) (.builtin "isinstance") (fun xs H Q => ∃ (Ca : Addr) (fs : List (Str × V)) (c : V) (cv : Value) (b : Bool), xs = [.ref a, c] ∧ cls = .ref Ca ∧ ExcC X.K Ca ∧ H dx = some (.xd fs) ∧ (∀ u, RelV c u → u = cv) ∧ PySem.W.kitOne X.K (.ref Ca) cv = some b ∧ Q (.bl b) H) := by
  intro pins s σ H xs us Q I r h
  obtain ⟨Ca, fs, c, cv, b, rfl, rfl, C, hx, hcv, e, q⟩ := h
  cases r with
  | cons rx rr =>
    cases rr with
    | cons rt rr =>
      cases rr
      cases rx
      have ec := hcv _ rt
      subst ec
      obtain ⟨hget, _⟩ := I.pin (a, oe) (List.mem_append.mpr (.inl List.mem_cons_self))
      obtain ⟨vs, hv⟩ := hf
      have hx' : ObjOk X.prog X.w H s.heap dx (.xd fs) := I.hok dx _ hx
      obtain ⟨mA, hns, hr⟩ := hx'
      obtain ⟨od, ho, _⟩ := lookIn_ns hns
      have J : PySem.W.InstAt s.heap a oe Ca (some od) := ⟨hget, hz.1, by unfold PySem.W.notCls; rw [hv] <;> rfl, by rw [hz.2]; exact ho⟩
      exact PySem.W.kia_one (PySem.W.fn_kitx C) I.kIn J e (fun z => nomatch z) fun tk => ⟨.bl b, H, I.kept (t' := tk) fun _ _ z => z, rfl, q⟩
/-- the classes whose errors isinstance finds below S -/
def RE (K : PySem.W.Frag) (Cs : Addr) : Addr → Prop := fun C => ExcC K C ∧ PySem.W.kitOne K (.ref C) (.ref Cs) = some true
def fIsX (i : Nat) : M D := fun ρ => match ρ[i]? with
  | some (some (.dict [(.none, _)])) => some (.ok (.bool true) ρ)
  | _ => none
theorem fe_isX {X : Cx} {W : WX} {κ : List Kind} {b : Bool} {a dx Cs : Addr} {cls : Value} {oe : Obj} {pn : List (Addr × Obj)} {x S : Str} {i : Nat} {p p1 p2 pos : Pos} (hz : Zc cls (some dx) oe) (hf : ∃ vs, oe.data = .fields vs) (hg : Gl X "isinstance") (hm : X.mg "isinstance" = none) (hgS : Gl X S) (hmS : X.mg S = some (.ref Cs)) (hk : κ[i]? = some (.exc a dx cls (RE X.K Cs)) := by rfl) (hN : X.N[i]? = some x := by rfl) (hv : Vis X.env.scope x := by first | exact Or.inl rfl | exact Or.inr (Or.inl rfl) | exact Or.inr (Or.inr rfl))
    (hd : (x == ("__debug__" : Str)) = false := by decide) (hcd : (x == ("__classdict__" : Str)) = false := by decide) (hd2 : (S == ("__debug__" : Str)) = false := by decide) (hs1 : starEach (.Name x p1 :: [.Name S p2]) X.env = (false, eval (.Name x p1) X.env) :: starEach [.Name S p2] X.env := by rfl) (hs2 : starEach (.Name S p2 :: []) X.env = (false, eval (.Name S p2) X.env) :: starEach [] X.env := by rfl) (hpl : (backTo pos (starEach [.Name S p2] X.env)).any (·.1) = false := by rfl) :
    FV (X.suite a ((a, oe) :: pn)) W κ (.t (.v b)) (.Call (.Name "isinstance" p) [.Name x p1, .Name S p2] [] pos) (fIsX i) :=
  (pe_callB (X := X.suite a ((a, oe) :: pn)) (call_isD hz hf) hg hm boot_isinstance (pa_cons (pe_var (X := X.suite a ((a, oe) :: pn)) hN hv hd hcd) (pa_cons (pe_glob (X := X.suite a ((a, oe) :: pn)) (v := .ref Cs) hgS hmS rfl hd2) pa_nil hs2) hs1) (by decide) (by decide) hs1 hpl).imp fun σ H Q h => by
    obtain ⟨ρ, w, rfl, rel, post⟩ := h
    unfold fIsX at post
    split at post
    · rename_i d ed
      obtain ⟨v, f, e1, o, _⟩ := rel.slots.get ed hk
      obtain ⟨rfl, y, d', q1, q2, q3, Ca, rfl, xf, no, hR⟩ := o
      exact ⟨.ref a, e1, Ca, _, .ref Cs, .ref Cs, true, rfl, rfl, hR.1, rel.same _ _ q2, fun u z => z, hR.2, fin_imm post rel (Ext.refl _) (.bl true)⟩
    · exact post.elim
end FN
namespace FN
open PySem PySem.Spec PyProof.Rows L2
/-! ### the mirror leans on no address -/
def shape (ms : List Md) : List (Option Nat) := ms.map fun m => match m with
  | .t _ => none
  | .r i => some i
theorem fill_shape : ∀ {ms ms' : List Md} (h : shape ms = shape ms') (ds : List D) (ρ : Env), fill ms ds ρ = fill ms' ds ρ
  | [], [], _, _, _ => rfl
  | .t _ :: ms, .t _ :: ms', h, [], ρ => rfl
  | .t _ :: ms, .t _ :: ms', h, d :: ds, ρ => by
    have h' : shape ms = shape ms' := (List.cons.inj h).2
    show (fill ms ds ρ).map _ = (fill ms' ds ρ).map _
    rw [fill_shape h']
  | .r i :: ms, .r j :: ms', h, [], ρ => rfl
  | .r i :: ms, .r j :: ms', h, d :: ds, ρ => by
    have h' : shape ms = shape ms' := (List.cons.inj h).2
    have e : i = j := Option.some.inj (List.cons.inj h).1
    subst e
    unfold fill
    split
    · rw [fill_shape h']
    · rfl
  | [], _ :: _, h, _, _ => by cases h
  | _ :: _, [], h, _, _ => by cases h
  | .t _ :: _, .r _ :: _, h, _, _ => by cases (List.cons.inj h).1
  | .r _ :: _, .t _ :: _, h, _, _ => by cases (List.cons.inj h).1
theorem back_shape : ∀ {ms ms' : List Md} (h : shape ms = shape ms') (os ρ : Env), back ms os ρ = back ms' os ρ
  | [], [], _, _, _ => rfl
  | .t _ :: ms, .t _ :: ms', h, [], ρ => rfl
  | .t _ :: ms, .t _ :: ms', h, o :: os, ρ => by
    have h' : shape ms = shape ms' := (List.cons.inj h).2
    show back ms os ρ = back ms' os ρ
    rw [back_shape h']
  | .r i :: ms, .r j :: ms', h, [], ρ => rfl
  | .r i :: ms, .r j :: ms', h, o :: os, ρ => by
    have h' : shape ms = shape ms' := (List.cons.inj h).2
    have e : i = j := Option.some.inj (List.cons.inj h).1
    subst e
    show back ms os _ = back ms' os _
    rw [back_shape h']
  | [], _ :: _, h, _, _ => by cases h
  | _ :: _, [], h, _, _ => by cases h
  | .t _ :: _, .r _ :: _, h, _, _ => by cases (List.cons.inj h).1
  | .r _ :: _, .t _ :: _, h, _, _ => by cases (List.cons.inj h).1
theorem fCall_shape {ms ms' : List Md} (h : shape ms = shape ms') (g : M D) (fr : M (List D)) : fCall ms g fr = fCall ms' g fr := by
  funext ρ
  unfold fCall
  simp only [fill_shape h, back_shape h]
theorem fe_sh {X : Cx} {W : WX} {κ : List Kind} {m : Md} {e : Expr} {ms ms' : List Md} {g : M D} {fr : M (List D)} (q : FV X W κ m e (fCall ms g fr)) (h : shape ms = shape ms' := by rfl) : FV X W κ m e (fCall ms' g fr) := by
  rw [← fCall_shape h]
  exact q
theorem outs_keep : ∀ {ks ks' : List Kind} (h : ks.map keepK = ks'.map keepK) (ρ : Env), outs ks ρ = outs ks' ρ
  | [], [], _, _ => rfl
  | k :: ks, k' :: ks', h, [] => rfl
  | k :: ks, k' :: ks', h, o :: ρ => by
    have h' : ks.map keepK = ks'.map keepK := (List.cons.inj h).2
    have e : keepK k = keepK k' := (List.cons.inj h).1
    show (match keepK k with | true => o | false => none) :: outs ks ρ = (match keepK k' with | true => o | false => none) :: outs ks' ρ
    rw [e, outs_keep h']
  | [], _ :: _, h, _ => by cases h
  | _ :: _, [], h, _ => by cases h
theorem runF_keep {ks ks' : List Kind} (h : ks.map keepK = ks'.map keepK) (kr : Kind) (n : Nat) (fb : Env → Option Fl) : runF ks kr n fb = runF ks' kr n fb := by
  funext ρ
  unfold runF
  simp only [outs_keep h]
theorem takesF {X : Cx} : Takes X (fun _ _ _ _ => False) := fun _ _ ⟨_, _, _, _, _, _, _, _, _, _, _, _, _, _, _, _, w⟩ => w.elim
/-- a module's constant -/
theorem fe_cst {X : Cx} {W : WX} {κ : List Kind} {pos : Pos} {b : Bool} {x : Str} {v : V} {d : D} (h : ∃ u, X.mg x = some u ∧ RelV v u) (q : ∀ F, RD b X.K F v d) (hg : Gl X x := by rfl) (hd : (x == ("__debug__" : Str)) = false := by decide) : FV X W κ (.t (.v b)) (.Name x pos) (fC d) := by
  obtain ⟨u, hm, r⟩ := h
  exact fe_glob hg hm r q hd
end FN
set_option Elab.async false
set_option linter.all false
set_option maxRecDepth 100000
set_option maxHeartbeats 4000000
/-! FN17: from the written part to the facts; the law's end. -/
namespace FN
open PySem PySem.Spec PyProof.Rows L2
section
variable {K : PySem.W.Frag} {h : Heap} {mg : Str → Option Value}
theorem at_mk {x : Str} {st : Stmt} {ps : List Str} (X : K.In h) (G : h.Ns mainGlobals mg) {f : Addr} {oc kV dc pm cd ct : Value} {od an : Option Addr} {sl : Array (Option Value)} (a : PySem.W.nsIn K mainGlobals x = some (some (.ref f)))
    (l : K.lookup f = some ⟨oc, od, .func (PySem.W.fnOf x x (defArgs st) (defBody st) (defScope st) .none kV dc pm an cd ct), sl⟩) (c : PySem.W.codeIn K cd x = true) (k : PySem.W.keepIn K (.ref f) = true)
    (b : ∀ (kV doc pm : Value) (an : Option Addr) (cdv ct : Value) (us : List Value), us.length = ps.length → bindArgs (PySem.W.fnOf x x (defArgs st) (defBody st) (defScope st) .none kV doc pm an cdv ct) ⟨us, []⟩ = pure (ps.zip us)) : At K mg x st ps := by
  have F := fun_mk (st := st) l c k
  exact ⟨f, _, F, PySem.W.mg_of X G a, F.binds b⟩
theorem use {p q : Prop} (h : p) (f : p → q) : q := f h
theorem cst_mk {x : Str} {v : V} {u : Value} (X : K.In h) (G : h.Ns mainGlobals mg) (a : PySem.W.nsIn K mainGlobals x = some (some u)) (r : RelV v u) : ∃ u, mg x = some u ∧ RelV v u := ⟨u, PySem.W.mg_of X G a, r⟩
theorem At.at {x : Str} {st : Stmt} {ps : List Str} (a : At K mg x st ps) : ∃ f, mg x = some (.ref f) := by
  obtain ⟨f, fd, F, hm, bd⟩ := a.ex
  exact ⟨f, hm⟩
theorem err_txt {P : Program} (X : K.In h) (G : h.Ns mainGlobals mg) {D fI : Addr} {qual : Str} {oc : Value} {od : Option Addr} {doc pm : Value} {an : Option Addr} {cda : Addr} {ct : Value} {osl : Array (Option Value)} {cc : Addr} {m : Str} {p1 p2 p3 p4 p5 p6 p7 p8 q1 q2 q3 q4 : Pos} {ccl : Value} {cdd : Option Addr} {vs : Array Value} {ccs : Array (Option Value)} {file : Str} {tf : Tok} {cl : Value} {cld : Option Addr} {csl : Array (Option Value)}
    (lk : K.lookup fI = some ⟨oc, od, .func (PySem.W.ksFn "__init__" qual (eA p1 p2) (eB m p3 p4 p5 p6 p7 p8 q1 q2 q3 q4) eS .none .none doc pm an (.ref cda) ct cc), osl⟩) (hcd : PySem.W.codeIn K (.ref cda) qual = true) (hp : (p5.endLine == p7.line) = true)
    (hc : K.lookup cda = some ⟨ccl, cdd, .fields vs, ccs⟩) (hv : vs[2]? = some (.str file tf)) (hf : ((P.main.file : Str) == file) = true) (hcc : K.lookup cc = some ⟨cl, cld, .cell (some (.ref D)), csl⟩)
    (hD : PySem.W.isClsIn K D = true) (ht : (P.main.scope.names.lookup ("super" : Str)).isSome = false) (hs : PySem.W.nsIn K mainGlobals "super" = some none) (ho : PySem.W.nsIn K PySem.cStatics "thirdparty.any" = some none) : ErrTxt P K mg D fI :=
  ⟨⟨qual, oc, od, doc, pm, an, cda, ct, osl, cc, m, p1, p2, p3, p4, p5, p6, p7, p8, q1, q2, q3, q4, lk, hcd, hp, ⟨ccl, cdd, vs, ccs, file, tf, hc, hv, hf⟩, cl, cld, csl, hcc⟩, Option.isSome_iff_exists.mp hD, ht, PySem.W.mg_none_of X G hs, ho⟩
theorem oex_mk {C : Addr} {nm q : Str} {N : Addr} {bs bm : List Value} {sn : List Str} {sub : List Value} {ab : Bool} {col : Option Bool} {dd : Option Addr} {k0 k1 k2 k3 k5 : Option Value} (x : K.lookup C = some (excClassObj nm q C N bs bm true sn sub ab col dd k0 k1 k2 k3 k5 "ValueError.__new__")) (r : PySem.HandSPX.refsVE bm = true)
    (sa : PySem.W.findIn K (.ref C) "__setattr__" = some (some (.builtin "object.__setattr__"))) (ex : PySem.W.subIn K (.ref C) (.type "BaseException") = some true) (ty : PySem.W.typeIn K (.ref C) = some (.type "type")) (kp : PySem.W.keepIn K (.ref C) = true) : OexC K C :=
  ⟨⟨nm, q, N, bs, bm, sn, sub, ab, col, dd, k0, k1, k2, k3, k5, x, r⟩, sa, ex, ty, kp⟩
end
/-- what the law promises -/
def spLaw (n : Nat) (K : PySem.W.Frag) : Sp := fun vs H Q _ => ∃ (a : Addr) (ns : List Int), vs = [.ref a] ∧ SqL K H a (ns.map V.int) ∧ ns.length ≤ n ∧ ∀ H', Q (.bl true) H'
theorem law_sp {n : Nat} {K : PySem.W.Frag} {mg : Str → Option Value} {g : M D} (hg : ∀ ns : List Int, ns.length ≤ n → ∃ ρ', g [some (.list (ns.map .int))] = some (.ok (.bool true) ρ')) (vs : List V) (H : Hp) (Q : VK) (E : XK) (h : spLaw n K vs H Q E) : spF K mg [.scr] (.v true) g vs H Q E := by
  obtain ⟨a, ns, rfl, hS, hl, q⟩ := h
  obtain ⟨ρ', e⟩ := hg ns hl
  refine ⟨[some (.list (ns.map .int))], ⟨H, H, fun _ => False⟩, rfl, ⟨Same.refl _, fun _ z => z.elim, fun _ z => z.elim, fun i u k z => ?_, ?_⟩, ?_⟩
  · match i, z with
    | 0, z => cases z
    | i + 1, z => simp at z
  · exact .cons (f := fun _ => False) (g := fun _ => False) ⟨a, ns, rfl, rfl, hS⟩ .nil (fun _ z => z.elim) (fun _ z => z) fun _ z => z
  · rw [e]
    intro v w' rel ex t
    rw [rd_bool t]
    exact q _
theorem law_end {P : Program} {w : World} {K : PySem.W.Frag} {mg : Str → Option Value} {CX : CXT} {k n : Nat} {fa : Addr} {st : Stmt} {g : M D} (hg : ∀ ns : List Int, ns.length ≤ n → ∃ ρ', g [some (.list (ns.map .int))] = some (.ok (.bool true) ρ')) (a : At K mg "law" st ["script"]) (hfa : mg "law" = some (.ref fa)) (b : ∀ (kV doc pm : Value) (an : Option Addr) (cdv ct : Value) (us : List Value), us.length = 1 → bindArgs (PySem.W.fnOf "law" "law" (defArgs st) (defBody st) (defScope st) .none kV doc pm an cdv ct) ⟨us, []⟩ = pure ((["script"] : List Str).zip us)) (G : ∀ base : Heap, Kn P w K mg base CX k "law" ["script"] (spF K mg [.scr] (.v true) g)) :
    ∃ fd : FuncData, (∀ (s : Shared) (u : Value), BindsTo s fd ⟨[u], []⟩ [("script", u)]) ∧ ∀ base : Heap, K.In base → base.Ns mainGlobals mg → FnOk P w K mg base CX k fa fd ["script"] (spLaw n K) := by
  obtain ⟨oc, od, osl, fd, lk, hb⟩ : ∃ (oc : Value) (od : Option Addr) (osl : Array (Option Value)) (fd : FuncData), K.lookup fa = some ⟨oc, od, .func fd, osl⟩ ∧ ∀ (s : Shared) (u : Value), BindsTo s fd ⟨[u], []⟩ [("script", u)] := by
    obtain ⟨f, fd, F, hm, bd⟩ := a.ex
    rw [hfa] at hm
    cases hm
    obtain ⟨oc, od, kV, doc, pm, an, cdv, ct, osl, rfl, lk, hcd⟩ := F.ex
    exact ⟨oc, od, osl, _, lk, fun s u => .of_eq (b kV doc pm an cdv ct [u] rfl)⟩
  refine ⟨fd, hb, fun base _ _ => ?_⟩
  · obtain ⟨f, fd', F, hm, hk, bd, oc', od', osl', lk'⟩ := (G base).ex
    rw [hfa] at hm
    cases hm
    rw [lk] at lk'
    cases lk'
    exact F.imp (law_sp hg)
end FN
set_option Elab.async false
set_option linter.all false
set_option maxRecDepth 100000
set_option maxHeartbeats 4000000
/-! FN18: reading mirrors (plain Lean; no program). -/
namespace FN
open PySem PySem.Spec PyProof.Rows L2
section
variable {α β : Type} {a : α} {ρ : Env} {c : Str} {d : D} {fa fb fc : M D} {ta tb : M Bool} {ma mb mc : Md} {i j k : Nat} {fr : M (List D)} {f g : Env → Option Fl} {b : Bool}
@[simp] theorem u_ok {e : Str → D → Env → β} {g : α → Env → Option β} : bnd (some (Out.ok a ρ)) e g = g a ρ := (rfl)
@[simp] theorem u_err {e : Str → D → Env → β} {g : α → Env → Option β} : bnd (some (Out.err c d ρ)) e g = some (e c d ρ) := (rfl)
@[simp] theorem u_none {e : Str → D → Env → β} {g : α → Env → Option β} : bnd none e g = none := (rfl)
@[simp] theorem u_fVar : fVar i ρ = match ρ[i]? with | some (some d) => some (.ok d ρ) | _ => none := (rfl)
@[simp] theorem u_fRef : fRef i ρ = match ρ[i]? with | some (some _) => some (.ok .none ρ) | _ => none := (rfl)
@[simp] theorem u_fC : fC d ρ = some (.ok d ρ) := (rfl)
@[simp] theorem u_fTok : fTok ρ = some (.ok (.dict []) ρ) := (rfl)
@[simp] theorem u_f1 {op : D → Option D} : f1 ma op fa ρ = bnd (fa ρ) Out.err fun x ρ1 => match rd ma x ρ1 with | some x => (op x).map fun z => .ok z ρ1 | none => none := (rfl)
@[simp] theorem u_f1b {q : D → Bool} : f1b ma q fa ρ = bnd (fa ρ) Out.err fun x ρ1 => match rd ma x ρ1 with | some x => some (.ok (.bool (q x)) ρ1) | none => none := (rfl)
@[simp] theorem u_f2 {op : D → D → Option D} : f2 ma mb op fa fb ρ = bnd (fa ρ) Out.err fun x ρ1 => bnd (fb ρ1) Out.err fun y ρ2 => match rd ma x ρ2, rd mb y ρ2 with | some x, some y => (op x y).map fun z => .ok z ρ2 | _, _ => none := (rfl)
@[simp] theorem u_f3 {fl fh : M (Option Int)} : f3 ma fa fl fh ρ = bnd (fa ρ) Out.err fun x ρ1 => bnd (fl ρ1) Out.err fun lo ρ2 => bnd (fh ρ2) Out.err fun hi ρ3 => match rd ma x ρ3 with | some x => (dCut x lo hi).map fun z => .ok z ρ3 | none => none := (rfl)
@[simp] theorem u_rdv : rd (.t (.v b)) d ρ = some d := (rfl)
@[simp] theorem u_rdl : rd (.t (.lst (.v b))) d ρ = some d := (rfl)
@[simp] theorem u_rdr : rd (.r i) d ρ = match ρ[i]? with | some (some (.dict _)) => none | some (some d) => some d | _ => none := (rfl)
@[simp] theorem u_fTru : fTru ma fa ρ = bnd (fa ρ) Out.err fun x ρ1 => match rd ma x ρ1 with | some x => (truD x).map fun b => .ok b ρ1 | none => none := (rfl)
@[simp] theorem u_fTst : fTst fa ρ = bnd (fa ρ) Out.err fun d ρ1 => match d with | .bool b => some (.ok b ρ1) | _ => none := (rfl)
@[simp] theorem u_tAnd : tAndF ta tb ρ = bnd (ta ρ) Out.err fun c ρ1 => if c = true then tb ρ1 else some (.ok false ρ1) := (rfl)
@[simp] theorem u_tOr : tOrF ta tb ρ = bnd (ta ρ) Out.err fun c ρ1 => if c = true then some (.ok true ρ1) else tb ρ1 := (rfl)
@[simp] theorem u_tNot : tNotF ta ρ = bnd (ta ρ) Out.err fun c ρ1 => some (.ok (!c) ρ1) := (rfl)
@[simp] theorem u_fAnd : fAnd fa fb ρ = bnd (fa ρ) Out.err fun x ρ1 => match x with | .bool true => fb ρ1 | .bool false => some (.ok (.bool false) ρ1) | _ => none := (rfl)
@[simp] theorem u_fOr : fOr fa fb ρ = bnd (fa ρ) Out.err fun x ρ1 => match x with | .bool true => some (.ok (.bool true) ρ1) | .bool false => fb ρ1 | _ => none := (rfl)
@[simp] theorem u_fNot : fNot fa ρ = bnd (fa ρ) Out.err fun x ρ1 => match x with | .bool b => some (.ok (.bool !b) ρ1) | _ => none := (rfl)
@[simp] theorem u_fIf : fIf ta fa fb ρ = bnd (ta ρ) Out.err fun c ρ1 => if c = true then fa ρ1 else fb ρ1 := (rfl)
@[simp] theorem u_fTup : fTup fr ρ = bnd (fr ρ) Out.err fun ds ρ1 => if ds.length ≤ sizeLine then some (.ok (.tuple ds) ρ1) else none := (rfl)
@[simp] theorem u_fLst : fLst fr ρ = bnd (fr ρ) Out.err fun ds ρ1 => if ds.length ≤ sizeLine then some (.ok (.list ds) ρ1) else none := (rfl)
@[simp] theorem u_aNil : aNil ρ = some (.ok [] ρ) := (rfl)
@[simp] theorem u_aCons : aCons fa fr ρ = bnd (fa ρ) Out.err fun d ρ1 => bnd (fr ρ1) Out.err fun ds ρ2 => some (.ok (d :: ds) ρ2) := (rfl)
@[simp] theorem u_fill0 : FN.fill [] [] ρ = some ([], ρ) := (rfl)
@[simp] theorem u_fillT {kd : Kind} {ms : List Md} {ds : List D} : FN.fill (.t kd :: ms) (d :: ds) ρ = (FN.fill ms ds ρ).map fun p => (some d :: p.1, p.2) := (rfl)
@[simp] theorem u_fillR {ms : List Md} {ds : List D} : FN.fill (.r i :: ms) (d :: ds) ρ = match ρ[i]? with | some (some d) => (FN.fill ms ds (ρ.set i none)).map fun p => (some d :: p.1, p.2) | _ => none := (rfl)
@[simp] theorem u_back0 {os : Env} : back [] os ρ = ρ := by cases os <;> rfl
@[simp] theorem u_backT {kd : Kind} {ms : List Md} {o : Option D} {os : Env} : back (.t kd :: ms) (o :: os) ρ = back ms os ρ := (rfl)
@[simp] theorem u_backR {ms : List Md} {o : Option D} {os : Env} : back (.r i :: ms) (o :: os) ρ = back ms os (ρ.set i o) := (rfl)
theorem u_fCall {ms : List Md} {g : M D} : fCall ms g fr ρ = bnd (fr ρ) Out.err fun ds ρ1 => match FN.fill ms ds ρ1 with
  | some (ρc, ρr) => match g ρc with
    | some (.ok d ρo) => some (.ok d (back ms ρo ρr))
    | some (.err n d _) => some (.err n d ρr)
    | none => none
  | none => none := (rfl)
@[simp] theorem u_fCallL {ms : List Md} {g : M D} : fCallL i ms g fr ρ = match ρ[i]? with | some (some _) => fCall ms g fr ρ | _ => none := (rfl)
@[simp] theorem u_outs0 : outs [] ρ = [] := by cases ρ <;> rfl
@[simp] theorem u_outsV {ks : List Kind} {o : Option D} : outs (.v b :: ks) (o :: ρ) = none :: outs ks ρ := (rfl)
@[simp] theorem u_outsL {kd : Kind} {ks : List Kind} {o : Option D} : outs (.lst kd :: ks) (o :: ρ) = o :: outs ks ρ := (rfl)
@[simp] theorem u_outsS {ks : List Kind} {o : Option D} : outs (.scr :: ks) (o :: ρ) = o :: outs ks ρ := (rfl)
@[simp] theorem u_outsT {u : V} {ks : List Kind} {o : Option D} : outs (.tok u :: ks) (o :: ρ) = o :: outs ks ρ := (rfl)
theorem u_runF {ks : List Kind} {kr : Kind} {n : Nat} {fb : Env → Option Fl} : runF ks kr n fb ρ = match fb (ρ ++ List.replicate n none) with
  | some (.ret d ρ') => some (.ok d (outs ks ρ'))
  | some (.nx ρ') => match kr with
    | .v _ => some (.ok .none (outs ks ρ'))
    | _ => none
  | some (.err c d ρ') => some (.err c d (outs ks ρ'))
  | _ => none := (rfl)
theorem u_noErr {g : M D} : noErr g ρ = match g ρ with | some (.ok d ρ') => some (.ok d ρ') | _ => none := (rfl)
@[simp] theorem u_sSeq : sSeq f g ρ = match f ρ with | some (.nx ρ') => g ρ' | o => o := (rfl)
@[simp] theorem u_sNx : sNx ρ = some (.nx ρ) := (rfl)
@[simp] theorem u_sDrop : sDrop fa ρ = bnd (fa ρ) Fl.err fun _ ρ1 => some (.nx ρ1) := (rfl)
@[simp] theorem u_sSet : sSet i fa ρ = bnd (fa ρ) Fl.err fun d ρ1 => some (.nx (ρ1.set i (some d))) := (rfl)
@[simp] theorem u_sRet : sRet fa ρ = bnd (fa ρ) Fl.err fun d ρ1 => some (.ret d ρ1) := (rfl)
@[simp] theorem u_sRetN : sRetN ρ = some (.ret .none ρ) := (rfl)
@[simp] theorem u_sRetR : sRetR i ρ = match ρ[i]? with | some (some d) => some (.ret d (ρ.set i none)) | _ => none := (rfl)
@[simp] theorem u_sIf : sIf ta f g ρ = bnd (ta ρ) Fl.err fun b ρ1 => if b = true then f ρ1 else g ρ1 := (rfl)
@[simp] theorem u_sPar : sPar i j fr ρ = bnd (fr ρ) Fl.err fun ds ρ1 => match ds with | [x, y] => some (.nx ((ρ1.set i (some x)).set j (some y))) | _ => none := (rfl)
@[simp] theorem u_sPar3 : sPar3 i j k fr ρ = bnd (fr ρ) Fl.err fun ds ρ1 => match ds with | [x, y, z] => some (.nx (((ρ1.set i (some x)).set j (some y)).set k (some z))) | _ => none := (rfl)
@[simp] theorem u_gNm : gNm i d ρ = some (ρ.set i (some d)) := (rfl)
@[simp] theorem u_gTp {t : List D → Env → Option Env} {ds : List D} : gTp t (.tuple ds) ρ = t ds ρ := (rfl)
@[simp] theorem u_gsN : gsNil [] ρ = some ρ := (rfl)
@[simp] theorem u_sAsg {t : D → Env → Option Env} : sAsg t fa ρ = bnd (fa ρ) Fl.err fun d ρ1 => (t d ρ1).map Fl.nx := (rfl)
@[simp] theorem u_iSeq : iSeq fa ρ = bnd (fa ρ) Out.err fun x ρ1 => match x with | .list ds => some (.ok ds ρ1) | .tuple ds => some (.ok ds ρ1) | .str z => some (.ok (chD z) ρ1) | _ => none := (rfl)
@[simp] theorem u_iScr : iScr i ρ = match ρ[i]? with | some (some (.list ds)) => some (.ok ds ρ) | _ => none := (rfl)
@[simp] theorem u_iZip : iZip fa fb ρ = bnd (fa ρ) Out.err fun x ρ1 => bnd (fb ρ1) Out.err fun y ρ2 => match x, y with | .list ds, .list es => some (.ok (zipD ds es) ρ2) | .tuple ds, .tuple es => some (.ok (zipD ds es) ρ2) | _, _ => none := (rfl)
theorem u_sFor {fi : M (List D)} {ft : D → Env → Option Env} : sFor fi ft f ρ = bnd (fi ρ) Fl.err fun ds ρ1 => forL ft f ds ρ1 := (rfl)
theorem u_fLc {vs : List Nat} {fi : M (List D)} {ft : D → Env → Option Env} {tt : M Bool} {fe : M D} : fLc vs fi ft tt fe ρ = bnd (fi ρ) Out.err fun ds ρ1 => bnd (compL vs ft tt fe ds [] ρ1) Out.err fun r ρ2 => some (.ok (.list r) ρ2) := (rfl)
@[simp] theorem u_tYes : tYesF ρ = some (.ok true ρ) := (rfl)
@[simp] theorem u_fM1 {op : Str → D → Option D} : fM1 ma op fb fa ρ = bnd (fb ρ) Out.err fun x ρ1 => match x with
  | .str s => bnd (fa ρ1) Out.err fun y ρ2 => match rd ma y ρ2 with | some y => (op s y).map fun z => .ok z ρ2 | none => none
  | _ => none := (rfl)
/-- a comprehension without test over a plain name whose elements leave the rest as it is -/
theorem compL_pure {i : Nat} {fe : M D} {ρ : Env} {F : D → D} : ∀ (ds acc : List D), acc.length + ds.length ≤ sizeLine → (∀ d ∈ ds, fe ((ρ.set i none).set i (some d)) = some (.ok (F d) ((ρ.set i none).set i (some d)))) → compL [i] (gNm i) tYesF fe ds acc ρ = some (.ok (acc ++ ds.map F) (ρ.set i none))
  | [], acc, _, _ => by
    simp [compL, wipeE]
  | d :: ds, acc, hl, h => by
    have h1 := h d List.mem_cons_self
    have l1 : acc.length < sizeLine := by
      rw [List.length_cons] at hl
      omega
    unfold compL
    simp only [wipeE, u_gNm, u_tYes]
    rw [h1]
    simp only [l1, if_true]
    have e : (List.set (List.set (List.set ρ i none) i (some d)) i none) = ρ.set i none := by
      rw [List.set_set, List.set_set]
    rw [e]
    have r := compL_pure (i := i) (fe := fe) (ρ := ρ.set i none) (F := F) ds (acc ++ [F d]) (by simp at hl ⊢; omega) (fun d' hd => by
      rw [List.set_set, List.set_set]
      have := h d' (List.mem_cons_of_mem _ hd)
      rw [List.set_set] at this
      exact this)
    rw [r, List.set_set]
    simp
end
end FN
set_option Elab.async false
set_option linter.all false
set_option maxRecDepth 100000
set_option maxHeartbeats 4000000
/-! FT1: texts: split, join, whole numbers as texts (plain Lean). -/
namespace FN
open PySem PySem.Spec PyProof.Rows L2
open Builtin.Str
abbrev cs (x : Str) : List Nat := x.cps.toList
theorem str_ext {a b : Str} (h : cs a = cs b) : a = b := Str.ext' (Array.toList_inj.mp h)
theorem cs_len (x : Str) : (cs x).length = x.length := by simp [cs, Str.length]
theorem cs_app (a b : Str) : cs (a ++ b) = cs a ++ cs b := by
  show (a ++ b).cps.toList = _
  rw [Str.cps_append, Array.toList_append]
/-! ### split, over lists of signs -/
def spl (s : List Nat) : Nat → List Nat → List (List Nat)
  | 0, l => [l]
  | n + 1, l => if s.isPrefixOf l then [] :: spl s n (l.drop s.length) else match l with
    | [] => [[]]
    | c :: r => match spl s n r with
      | [] => [[c]]
      | p :: q => (c :: p) :: q
theorem spl_ne (s : List Nat) : ∀ (n : Nat) (l : List Nat), ∃ p q, spl s n l = p :: q
  | 0, l => ⟨_, _, rfl⟩
  | n + 1, l => by
    unfold spl
    split
    · exact ⟨_, _, rfl⟩
    · split
      · exact ⟨_, _, rfl⟩
      · split
        · exact ⟨_, _, rfl⟩
        · exact ⟨_, _, rfl⟩
/-- y lies in x at i -/
theorem at_iff {x y : Str} {i : Nat} (hi : i ≤ x.length) : StrLaws.At x y x.length i ↔ (cs y).isPrefixOf ((cs x).drop i) = true := by
  have hn : (cs x).length = x.length := cs_len x
  have hy : (cs y).length = y.length := cs_len y
  rw [List.isPrefixOf_iff_prefix]
  constructor
  · intro h
    have h2 := h.2
    rw [StrLaws.subAt_eq] at h2
    have e : ((cs x).drop i).take y.length = cs y := eq_of_beq h2
    rw [← e]
    exact List.take_prefix _ _
  · intro h
    obtain ⟨t, e⟩ := h
    refine ⟨?_, ?_⟩
    · have l := congrArg List.length e
      rw [List.length_append, List.length_drop, hn, hy] at l
      omega
    · rw [StrLaws.subAt_eq]
      show ((cs x).drop i).take y.length == cs y
      rw [← e, ← hy, List.take_left']
      · simp
      · rfl
theorem sub_at {x : Str} {a b : Nat} : cs (strSub x a b) = ((cs x).drop a).take (b - a) := StrLaws.strSub_toList x a b
theorem parts_spl {x y : Str} (hw : 1 ≤ y.length) : ∀ (n a : Nat) (cuts : List Nat) (f : Nat), a ≤ x.length → StrLaws.ChainG x y x.length a cuts f → (∀ k, f ≤ k → ¬ StrLaws.At x y x.length k) → x.length - a < n →
    (StrLaws.partsFrom x y.length a cuts).map cs = spl (cs y) n ((cs x).drop a)
  | 0, a, cuts, f, _, _, _, hn => by omega
  | n + 1, a, cuts, f, ha, hc, hf, hn => by
    have lx : (cs x).length = x.length := cs_len x
    have ly : (cs y).length = y.length := cs_len y
    unfold spl
    by_cases hA : StrLaws.At x y x.length a
    · rw [if_pos ((at_iff ha).mp hA)]
      cases cuts with
      | nil =>
        have e : f = a := hc
        exact absurd hA (hf a (by omega))
      | cons c r =>
        obtain ⟨h1, h2, h3, h4⟩ := hc
        have e : c = a := by
          rcases Nat.lt_or_ge a c with q | q
          · exact absurd hA (h3 a (Nat.le_refl _) q)
          · omega
        subst e
        have hb := hA.1
        show cs (strSub x c c) :: (StrLaws.partsFrom x y.length (c + y.length) r).map cs = _
        rw [parts_spl hw n (c + y.length) r f hb h4 hf (by omega), sub_at, Nat.sub_self, List.take_zero, List.drop_drop, ly]
    · rw [if_neg (fun z => hA ((at_iff ha).mpr z))]
      by_cases hl : a = x.length
      · subst hl
        have e0 : (cs x).drop x.length = [] := List.drop_of_length_le (by omega)
        rw [e0]
        cases cuts with
        | nil =>
          show [cs (strSub x x.length x.length)] = [[]]
          rw [sub_at, e0, List.take_nil]
        | cons c r =>
          obtain ⟨h1, h2, _⟩ := hc
          have := h2.1
          omega
      · have hlt : a < (cs x).length := by omega
        rw [List.drop_eq_getElem_cons hlt]
        have IH : ∀ f', StrLaws.ChainG x y x.length (a + 1) cuts f' → (∀ k, f' ≤ k → ¬ StrLaws.At x y x.length k) → (StrLaws.partsFrom x y.length (a + 1) cuts).map cs = spl (cs y) n ((cs x).drop (a + 1)) := fun f' h1 h2 => parts_spl hw n (a + 1) cuts f' (by omega) h1 h2 (by omega)
        cases cuts with
        | nil =>
          have e : f = a := hc
          have r := IH (a + 1) rfl (fun k hk => hf k (by omega))
          show [cs (strSub x a x.length)] = _
          have r' : [cs (strSub x (a + 1) x.length)] = spl (cs y) n ((cs x).drop (a + 1)) := r
          dsimp only
          rw [← r']
          dsimp only
          rw [sub_at, sub_at, List.drop_eq_getElem_cons hlt]
          have e1 : x.length - a = (x.length - (a + 1)) + 1 := by omega
          rw [e1, List.take_succ_cons]
        | cons c r =>
          obtain ⟨h1, h2, h3, h4⟩ := hc
          have hca : a + 1 ≤ c := by
            rcases Nat.lt_or_ge a c with q | q
            · exact q
            · have e : c = a := by omega
              rw [e] at h2
              exact absurd h2 hA
          have r' := IH f ⟨hca, h2, fun k k1 k2 => h3 k (by omega) k2, h4⟩ hf
          have r2 : cs (strSub x (a + 1) c) :: (StrLaws.partsFrom x y.length (c + y.length) r).map cs = spl (cs y) n ((cs x).drop (a + 1)) := r'
          show cs (strSub x a c) :: (StrLaws.partsFrom x y.length (c + y.length) r).map cs = _
          dsimp only
          rw [← r2]
          dsimp only
          rw [sub_at, sub_at, List.drop_eq_getElem_cons hlt]
          have e1 : c - a = (c - (a + 1)) + 1 := by omega
          rw [e1, List.take_succ_cons]
theorem kind_pos (x : Str) : 1 ≤ Builtin.Str.strKind x := by
  unfold Builtin.Str.strKind
  split
  · exact Nat.le_refl _
  · split <;> decide
def sp (s l : List Nat) : List (List Nat) := spl s (l.length + 1) l
theorem split_sp {x y : Str} (hk : Builtin.Str.strKind y = 1) (hw : 1 ≤ y.length) : (Txt.split x y).map cs = sp (cs y) (cs x) := by
  have lx : (cs x).length = x.length := cs_len x
  have none : (∀ k, ¬ StrLaws.At x y x.length k) → ([x] : List Str).map cs = sp (cs y) (cs x) := fun h => by
    have := parts_spl hw (x.length + 1) 0 [] 0 (Nat.zero_le _) rfl (fun k _ => h k) (by omega)
    unfold sp
    rw [lx]
    rw [List.drop_zero] at this
    rw [← this]
    show [cs x] = [cs (strSub x 0 x.length)]
    rw [StrLaws.sub_whole]
  unfold Txt.split
  split
  · rename_i h
    rw [Bool.or_eq_true, decide_eq_true_eq, decide_eq_true_eq] at h
    rcases h with h | h
    · exact none fun k z => by
        have := z.1
        omega
    · have := kind_pos x
      omega
  · obtain ⟨f, hc, hf⟩ := StrLaws.occ_tight x y hw
    split
    · rename_i h
      rw [List.isEmpty_iff] at h
      rw [h] at hc
      have e : f = 0 := hc
      exact none fun k => hf k (by omega)
    · rw [StrLaws.partsBetween_eq]
      have := parts_spl hw (x.length + 1) 0 _ f (Nat.zero_le _) hc hf (by omega)
      unfold sp
      rw [lx, this, List.drop_zero]
/-! ### joined pieces are split again -/
theorem spl_fuel (s : List Nat) (hs : s ≠ []) : ∀ (n m : Nat) (l : List Nat), l.length < n → l.length < m → spl s n l = spl s m l
  | 0, _, _, h, _ => by omega
  | _ + 1, 0, _, _, h => by omega
  | n + 1, m + 1, l, h1, h2 => by
    have hl : 0 < s.length := List.length_pos_iff.mpr hs
    unfold spl
    by_cases q : s.isPrefixOf l = true
    · rw [if_pos q, if_pos q]
      have : (l.drop s.length).length < l.length := by
        have p := (List.isPrefixOf_iff_prefix.mp q).length_le
        rw [List.length_drop]
        omega
      rw [spl_fuel s hs n m _ (by omega) (by omega)]
    · rw [if_neg q, if_neg q]
      cases l with
      | nil => rfl
      | cons c r =>
        dsimp only
        rw [spl_fuel s hs n m r (by simp at h1; omega) (by simp at h2; omega)]
theorem sp_pre {s b : List Nat} (hs : s ≠ []) : sp s (s ++ b) = [] :: sp s b := by
  have h : s.isPrefixOf (s ++ b) = true := List.isPrefixOf_iff_prefix.mpr (List.prefix_append _ _)
  show spl s ((s ++ b).length + 1) (s ++ b) = _
  unfold spl
  rw [if_pos h, List.drop_left]
  unfold sp
  rw [spl_fuel s hs _ (b.length + 1) b (by rw [List.length_append]; have := List.length_pos_iff.mpr hs; omega) (by omega)]
theorem sp_cons {s r : List Nat} {c : Nat} (hs : s ≠ []) (h : ¬ s.isPrefixOf (c :: r) = true) : sp s (c :: r) = match sp s r with
    | [] => [[c]]
    | p :: q => (c :: p) :: q := by
  show spl s ((c :: r).length + 1) (c :: r) = _
  unfold spl
  rw [if_neg h]
  rfl
/-- a separator with a sign c at place o that stands not ahead of it -/
structure Mark (s : List Nat) (c o : Nat) : Prop where
  here : s[o]? = some c
  first : c ∉ s.take o
theorem Mark.ne {s : List Nat} {c o : Nat} (m : Mark s c o) : s ≠ [] := fun z => by
  have := m.here
  rw [z] at this
  simp at this
/-- not at the head of a piece free of c -/
theorem Mark.no {s : List Nat} {c o : Nat} (m : Mark s c o) {a b : List Nat} (ha : a ≠ []) (hc : c ∉ a) : ¬ s.isPrefixOf (a ++ (s ++ b)) = true := fun z => by
  obtain ⟨t, e⟩ := List.isPrefixOf_iff_prefix.mp z
  have h1 : (s ++ t)[o]? = some c := by
    rw [List.getElem?_append_left (List.getElem?_eq_some_iff.mp m.here).1]
    exact m.here
  rw [e] at h1
  have la : 0 < a.length := List.length_pos_iff.mpr ha
  by_cases q : o < a.length
  · rw [List.getElem?_append_left q] at h1
    exact hc (List.mem_of_getElem? h1)
  · rw [List.getElem?_append_right (by omega)] at h1
    have lo := (List.getElem?_eq_some_iff.mp m.here).1
    rw [List.getElem?_append_left (by omega)] at h1
    refine m.first (List.mem_of_getElem? (i := o - a.length) ?_)
    rw [List.getElem?_take_of_lt (by omega)]
    exact h1
theorem Mark.free {s : List Nat} {c o : Nat} (m : Mark s c o) {a : List Nat} (hc : c ∉ a) : ¬ s.isPrefixOf a = true := fun z => by
  obtain ⟨t, e⟩ := List.isPrefixOf_iff_prefix.mp z
  refine hc (List.mem_of_getElem? (i := o) ?_)
  rw [← e, List.getElem?_append_left (List.getElem?_eq_some_iff.mp m.here).1]
  exact m.here
theorem sp_free {s : List Nat} {c o : Nat} (m : Mark s c o) : ∀ a : List Nat, c ∉ a → sp s a = [a]
  | [], h => by
    show spl s 1 [] = _
    unfold spl
    rw [if_neg (m.free h)]
  | d :: a, h => by
    rw [sp_cons m.ne (m.free h), sp_free m a (fun z => h (List.mem_cons_of_mem _ z))]
theorem sp_cut {s : List Nat} {c o : Nat} (m : Mark s c o) (b : List Nat) : ∀ a : List Nat, c ∉ a → sp s (a ++ (s ++ b)) = a :: sp s b
  | [], _ => sp_pre m.ne
  | d :: a, h => by
    have q := sp_cons (r := a ++ (s ++ b)) (c := d) m.ne (m.no (a := d :: a) (by simp) h)
    show sp s (d :: (a ++ (s ++ b))) = _
    rw [q, sp_cut m b a (fun z => h (List.mem_cons_of_mem _ z))]
def jn (s : List Nat) : List (List Nat) → List Nat
  | [] => []
  | [x] => x
  | x :: y :: r => x ++ (s ++ jn s (y :: r))
theorem sp_jn {s : List Nat} {c o : Nat} (m : Mark s c o) : ∀ ps : List (List Nat), ps ≠ [] → (∀ p ∈ ps, c ∉ p) → sp s (jn s ps) = ps
  | [], h, _ => absurd rfl h
  | [x], _, h => sp_free m x (h x List.mem_cons_self)
  | x :: y :: r, _, h => by
    show sp s (x ++ (s ++ jn s (y :: r))) = _
    rw [sp_cut m _ x (h x List.mem_cons_self), sp_jn m (y :: r) (by simp) fun p hp => h p (List.mem_cons_of_mem _ hp)]
theorem cs_join (y : Str) : ∀ ps : List Str, cs (Txt.join y ps) = jn (cs y) (ps.map cs) := fun ps => by
  show cs (glued y ps) = _
  rw [StrLaws.glued_eq_join]
  have key : ∀ ps : List Str, cs (Str.join y ps) = jn (cs y) (ps.map cs) := fun ps => by
    induction ps with
    | nil => rfl
    | cons x r ih =>
      cases r with
      | nil => rfl
      | cons z r =>
        show cs (x ++ y ++ Str.join y (z :: r)) = cs x ++ (cs y ++ jn (cs y) ((z :: r).map cs))
        rw [cs_app, cs_app, ih, List.append_assoc]
  exact key ps
theorem map_cs_inj : ∀ {a b : List Str}, a.map cs = b.map cs → a = b
  | [], [], _ => rfl
  | x :: a, y :: b, h => by
    have h' := List.cons.inj h
    rw [str_ext h'.1, map_cs_inj h'.2]
  | [], _ :: _, h => by cases h
  | _ :: _, [], h => by cases h
/-- joined pieces that hold not the mark are split again -/
theorem split_join {y : Str} {c o : Nat} (m : Mark (cs y) c o) (hk : Builtin.Str.strKind y = 1) {ps : List Str} (hp : ps ≠ []) (hc : ∀ p ∈ ps, c ∉ cs p) : Txt.split (Txt.join y ps) y = ps := by
  have hw : 1 ≤ y.length := by
    rw [← cs_len]
    exact List.length_pos_iff.mpr m.ne
  refine map_cs_inj ?_
  rw [split_sp hk hw, cs_join, sp_jn m _ (by simpa using hp)]
  intro p h
  obtain ⟨q, hq, rfl⟩ := List.mem_map.mp h
  exact hc q hq
theorem join_split (x y : Str) : Txt.join y (Txt.split x y) = x := by
  show glued y _ = x
  rw [StrLaws.glued_eq_join]
  exact StrLaws.join_split x y
theorem split_ne (x y : Str) (hk : Builtin.Str.strKind y = 1) (hw : 1 ≤ y.length) : Txt.split x y ≠ [] := fun z => by
  have := split_sp (x := x) hk hw
  rw [z] at this
  obtain ⟨p, q, e⟩ := spl_ne (cs y) ((cs x).length + 1) (cs x)
  unfold sp at this
  rw [e] at this
  cases this
/-! ### whole numbers as texts -/
def dstr (n : Int) : Str := Str.ofString (toString n)
/-- the number of a word without zeros ahead, of at most 30 digits -/
def intL (l : List Nat) : Option Int :=
  let ds := if l.head? = some 45 then l.tail else l
  if ds.length = 0 ∨ 30 < ds.length ∨ ¬ (∀ c ∈ ds, 48 ≤ c ∧ c ≤ 57) then none
  else if ds.head? = some 48 ∧ l ≠ [48] then none
  else some (if l.head? = some 45 then -((NumText.digitsVal ds : Nat) : Int) else ((NumText.digitsVal ds : Nat) : Int))
theorem cs_nat (m : Nat) : cs (dstr (m : Int)) = (Nat.toDigits 10 m).map Char.toNat := PySem.W.KIN.signs_num m
theorem cs_neg (m : Nat) (h : 0 < m) : cs (dstr (-(m : Int))) = 45 :: (Nat.toDigits 10 m).map Char.toNat := by
  obtain ⟨k, rfl⟩ : ∃ k, m = k + 1 := ⟨m - 1, by omega⟩
  unfold dstr cs
  rw [PyProof.Rows.signs_ofString]
  show (("-" ++ Nat.repr (k + 1)).toList).map Char.toNat = _
  rw [String.toList_append, Nat.toList_repr]
  rfl
/-- the figures of m -/
def figs (m : Nat) : List Nat := (Nat.toDigits 10 m).map Char.toNat
theorem figs_small {m : Nat} (h : m < 10) : figs m = [48 + m] := by
  unfold figs
  rw [Nat.toDigits_of_lt_base h]
  have : ∀ d : Nat, d < 10 → [d.digitChar].map Char.toNat = [48 + d] := by decide
  exact this m h
theorem figs_big {m : Nat} (h : 10 ≤ m) : figs m = figs (m / 10) ++ [48 + m % 10] := by
  have t : Nat.toDigits 10 (m / 10) ++ Nat.toDigits 10 (m % 10) = Nat.toDigits 10 (10 * (m / 10) + m % 10) := Nat.toDigits_append_toDigits (by decide) (by omega) (Nat.mod_lt _ (by decide))
  rw [Nat.div_add_mod] at t
  have e : figs m = figs (m / 10) ++ figs (m % 10) := by
    unfold figs
    rw [← t, List.map_append]
  rw [e, figs_small (m := m % 10) (Nat.mod_lt _ (by decide))]
theorem figs_all : ∀ (n m : Nat), m < n → ∀ c ∈ figs m, 48 ≤ c ∧ c ≤ 57
  | 0, _, h => by omega
  | n + 1, m, h => by
    by_cases q : m < 10
    · rw [figs_small q]
      intro c hc
      rw [List.mem_singleton] at hc
      omega
    · rw [figs_big (by omega)]
      intro c hc
      rcases List.mem_append.mp hc with hc | hc
      · exact figs_all n (m / 10) (by omega) c hc
      · rw [List.mem_singleton] at hc
        have := Nat.mod_lt m (show 0 < 10 by decide)
        omega
theorem figs_len : ∀ (k m : Nat), m < 10 ^ (k + 1) → (figs m).length ≤ k + 1
  | 0, m, h => by
    rw [figs_small (by simpa using h)]
    simp
  | k + 1, m, h => by
    by_cases q : m < 10
    · rw [figs_small q]
      simp
    · rw [figs_big (by omega), List.length_append]
      have := figs_len k (m / 10) (by rw [Nat.div_lt_iff_lt_mul (by decide)]; rw [Nat.pow_succ] at h; omega)
      simp only [List.length_singleton]
      omega
theorem figs_ne (m : Nat) : figs m ≠ [] := by
  by_cases q : m < 10
  · rw [figs_small q]
    simp
  · rw [figs_big (by omega)]
    simp
theorem figs_head : ∀ (n m : Nat), m < n → 0 < m → (figs m).head? ≠ some 48
  | 0, _, h, _ => by omega
  | n + 1, m, h, h0 => by
    by_cases q : m < 10
    · rw [figs_small q]
      simp
      omega
    · rw [figs_big (by omega), List.head?_append]
      have := figs_head n (m / 10) (by omega) (by omega)
      cases e : (figs (m / 10)).head? with
      | none => exact absurd (List.head?_eq_none_iff.mp e) (figs_ne _)
      | some c =>
        rw [e] at this
        simpa using this
theorem figs_val (m : Nat) : NumText.digitsVal (figs m) = m := PySem.W.KIN.val_back m
theorem figs_45 (m : Nat) : (figs m).head? ≠ some 45 := fun z => by
  have h : 45 ∈ figs m := List.mem_of_mem_head? z
  have := figs_all (m + 1) m (by omega) 45 h
  omega
theorem map_back : ∀ {l : List Nat}, (∀ c ∈ l, 48 ≤ c ∧ c ≤ 57) → (l.map Char.ofNat).map Char.toNat = l
  | [], _ => rfl
  | c :: l, h => by
    have hc := h c List.mem_cons_self
    have e : (Char.ofNat c).toNat = c := by
      have : ∀ d : Nat, d < 58 → (Char.ofNat d).toNat = d := by decide
      exact this c (by omega)
    rw [List.map_cons, List.map_cons, e, map_back fun d hd => h d (List.mem_cons_of_mem _ hd)]
theorem figs_of {ds : List Nat} (h0 : ds ≠ []) (h : ∀ c ∈ ds, 48 ≤ c ∧ c ≤ 57) (hz : ds.head? ≠ some 48 ∨ ds = [48]) : figs (NumText.digitsVal ds) = ds := by
  unfold figs
  have hl : ds.length = (ds.length - 1) + 1 := by
    have := List.length_pos_iff.mpr h0
    omega
  rw [NumText.toDigits_digitsVal (ds.length - 1) ds hl h ?_, map_back h]
  rcases hz with hz | hz
  · right
    cases ds with
    | nil => exact absurd rfl h0
    | cons c r =>
      have hc := h c List.mem_cons_self
      have : c ≠ 48 := fun e => hz (by rw [e]; rfl)
      exact ⟨c, r, rfl, by omega⟩
  · left
    rw [hz]
    rfl
theorem intL_dstr {n : Int} (h : n.natAbs < 10 ^ 30) : intL (cs (dstr n)) = some n := by
  rcases (show n < 0 ∨ 0 ≤ n by omega) with hn | hn
  · obtain ⟨m, rfl⟩ : ∃ m : Nat, n = -(m : Int) := ⟨n.natAbs, by omega⟩
    have hm : 0 < m := by omega
    have hb : m < 10 ^ 30 := by
      rw [Int.natAbs_neg, Int.natAbs_natCast] at h
      exact h
    rw [cs_neg m hm]
    show intL (45 :: figs m) = _
    unfold intL
    have h1 : (figs m).length ≠ 0 := fun z => figs_ne m (List.length_eq_zero_iff.mp z)
    have h2 := figs_len 29 m hb
    have h3 : ∀ c ∈ figs m, 48 ≤ c ∧ c ≤ 57 := figs_all (m + 1) m (by omega)
    have h4 := figs_head (m + 1) m (by omega) hm
    simp only [List.head?_cons, List.tail_cons, if_true]
    rw [if_neg (by intro z; rcases z with z | z | z; exact h1 z; omega; exact z h3), if_neg (fun z => h4 z.1), figs_val]
  · obtain ⟨m, rfl⟩ := Int.eq_ofNat_of_zero_le hn
    have hb : m < 10 ^ 30 := by simpa using h
    rw [cs_nat m]
    show intL (figs m) = _
    unfold intL
    have h1 : (figs m).length ≠ 0 := fun z => figs_ne m (List.length_eq_zero_iff.mp z)
    have h2 := figs_len 29 m hb
    have h3 : ∀ c ∈ figs m, 48 ≤ c ∧ c ≤ 57 := figs_all (m + 1) m (by omega)
    simp only [figs_45, if_false]
    rw [if_neg (by intro z; rcases z with z | z | z; exact h1 z; omega; exact z h3), figs_val]
    by_cases h0 : m = 0
    · subst h0
      rw [if_neg (fun z => z.2 (figs_small (by decide)))]
    · rw [if_neg (fun z => figs_head (m + 1) m (by omega) (by omega) z.1)]
theorem dstr_intL {l : List Nat} {n : Int} (h : intL l = some n) : cs (dstr n) = l := by
  unfold intL at h
  by_cases h45 : l.head? = some 45
  · simp only [h45, if_true] at h
    split at h
    · cases h
    · rename_i q
      split at h
      · cases h
      · rename_i q2
        cases h
        have h0 : l.tail ≠ [] := fun z => q (.inl (by rw [z]; rfl))
        have h3 : ∀ c ∈ l.tail, 48 ≤ c ∧ c ≤ 57 := Classical.byContradiction fun z => q (.inr (.inr z))
        have hh : l.tail.head? ≠ some 48 := fun z => q2 ⟨z, fun e => by rw [e] at h45; cases h45⟩
        have e := figs_of h0 h3 (.inl hh)
        have hp : 0 < NumText.digitsVal l.tail := by
          cases hl : l.tail with
          | nil => exact absurd hl h0
          | cons c r =>
            have hc := h3 c (by rw [hl]; exact List.mem_cons_self)
            refine NumText.digitsVal_pos ?_
            have : c ≠ 48 := fun e => hh (by rw [hl, e]; rfl)
            omega
        rw [cs_neg _ hp]
        show 45 :: figs _ = l
        rw [e]
        cases l with
        | nil => cases h45
        | cons c r =>
          cases h45
          rfl
  · simp only [h45, if_false] at h
    split at h
    · cases h
    · rename_i q
      split at h
      · cases h
      · rename_i q2
        cases h
        have h0 : l ≠ [] := fun z => q (.inl (by rw [z]; rfl))
        have h3 : ∀ c ∈ l, 48 ≤ c ∧ c ≤ 57 := Classical.byContradiction fun z => q (.inr (.inr z))
        rw [cs_nat]
        refine figs_of h0 h3 ?_
        by_cases e : l = [48]
        · exact .inr e
        · exact .inl fun z => q2 ⟨z, e⟩
/-- .. bounds -/
theorem intL_bound {l : List Nat} {n : Int} (h : intL l = some n) : l.length ≤ 31 ∧ ∀ c ∈ l, c = 45 ∨ (48 ≤ c ∧ c ≤ 57) := by
  unfold intL at h
  by_cases h45 : l.head? = some 45
  · simp only [h45, if_true] at h
    split at h
    · cases h
    · rename_i q
      cases l with
      | nil => cases h45
      | cons c r =>
        cases h45
        refine ⟨?_, fun d hd => ?_⟩
        · have : ¬ 30 < r.length := fun z => q (.inr (.inl z))
          rw [List.length_cons]
          omega
        · rcases List.mem_cons.mp hd with rfl | hd
          · exact .inl rfl
          · exact .inr ((Classical.byContradiction fun z => q (.inr (.inr z)) : ∀ c ∈ r, 48 ≤ c ∧ c ≤ 57) d hd)
  · simp only [h45, if_false] at h
    split at h
    · cases h
    · rename_i q
      refine ⟨?_, fun d hd => .inr ((Classical.byContradiction fun z => q (.inr (.inr z)) : ∀ c ∈ l, 48 ≤ c ∧ c ≤ 57) d hd)⟩
      have : ¬ 30 < l.length := fun z => q (.inr (.inl z))
      omega
end FN
set_option Elab.async false
set_option linter.all false
set_option maxRecDepth 100000
set_option maxHeartbeats 4000000
/-! FN19: plain data in mirrors (no program). -/
namespace FN
open PySem PySem.Spec PyProof.Rows L2
open PySem.PyData (eqv eqvAll strOk)
@[simp] theorem eqv_nn : eqv .none .none = true := by unfold eqv; rfl
@[simp] theorem eqv_ii (i j : Int) : eqv (.int i) (.int j) = decide (i = j) := by unfold eqv; rfl
@[simp] theorem eqv_bb (i j : Bool) : eqv (.bool i) (.bool j) = (i == j) := by unfold eqv; rfl
@[simp] theorem eqv_ss (i j : Str) : eqv (.str i) (.str j) = decide (i = j) := by unfold eqv; by_cases h : i = j <;> simp [h]
@[simp] theorem eqv_ll (i j : List D) : eqv (.list i) (.list j) = eqvAll i j := by rw [eqv]
@[simp] theorem eqv_tt (i j : List D) : eqv (.tuple i) (.tuple j) = eqvAll i j := by rw [eqv]
@[simp] theorem eqv_in (i : Int) : eqv (.int i) .none = false := by unfold eqv; rfl
@[simp] theorem eqv_tn (i : List D) : eqv (.tuple i) .none = false := by unfold eqv; rfl
@[simp] theorem eqv_ln (i : List D) : eqv (.list i) .none = false := by unfold eqv; rfl
@[simp] theorem eqv_sn (i : Str) : eqv (.str i) .none = false := by unfold eqv; rfl
@[simp] theorem eqv_bn (i : Bool) : eqv (.bool i) .none = false := by unfold eqv; rfl
@[simp] theorem eqv_xn (d : D) : eqv d .none = isNone d := by cases d <;> simp [isNone] <;> (unfold eqv; rfl)
@[simp] theorem eqvA_nn : eqvAll [] [] = true := by rw [eqvAll]
@[simp] theorem eqvA_cc (x y : D) (xs ys : List D) : eqvAll (x :: xs) (y :: ys) = (eqv x y && eqvAll xs ys) := by rw [eqvAll]
@[simp] theorem eqvA_nc (y : D) (ys : List D) : eqvAll [] (y :: ys) = false := by rw [eqvAll]
@[simp] theorem eqvA_cn (x : D) (xs : List D) : eqvAll (x :: xs) [] = false := by rw [eqvAll]
/-- data of the depth n at most, its texts in order -/
def okD : Nat → D → Bool
  | _, .none => true
  | _, .bool _ => true
  | _, .int _ => true
  | _, .str x => strOk x
  | n + 1, .list ds => ds.all (okD n)
  | n + 1, .tuple ds => ds.all (okD n)
  | _, _ => false
theorem okD_all {n : Nat} (h : ∀ d, okD n d = true → d.canLay0 = true ∧ d.depth ≤ n) : ∀ ds : List D, ds.all (okD n) = true → PyData.canLayAll0 ds = true ∧ PyData.depthAll ds ≤ n
  | [], _ => ⟨by rw [PyData.canLayAll0], by rw [PyData.depthAll]; omega⟩
  | d :: ds, z => by
    rw [List.all_cons, Bool.and_eq_true] at z
    have a := h d z.1
    have b := okD_all h ds z.2
    exact ⟨by rw [PyData.canLayAll0, a.1, b.1]; rfl, by rw [PyData.depthAll]; omega⟩
theorem okD_lay : ∀ (n : Nat) (d : D), okD n d = true → d.canLay0 = true ∧ d.depth ≤ n
  | n, .none, _ => ⟨by rw [PyData.canLay0], by rw [PyData.depth]; omega⟩
  | n, .bool _, _ => ⟨by rw [PyData.canLay0], by rw [PyData.depth]; omega⟩
  | n, .int _, _ => ⟨by rw [PyData.canLay0], by rw [PyData.depth]; omega⟩
  | n, .str x, h => ⟨by rw [PyData.canLay0]; unfold okD at h; exact h, by rw [PyData.depth]; omega⟩
  | n + 1, .list ds, h => by
    unfold okD at h
    have := okD_all (okD_lay n) ds h
    exact ⟨by rw [PyData.canLay0]; exact this.1, by rw [PyData.depth]; omega⟩
  | n + 1, .tuple ds, h => by
    unfold okD at h
    have := okD_all (okD_lay n) ds h
    exact ⟨by rw [PyData.canLay0]; exact this.1, by rw [PyData.depth]; omega⟩
  | 0, .list ds, h => by unfold okD at h; cases h
  | 0, .tuple ds, h => by unfold okD at h; cases h
  | n, .dict _, h => by unfold okD at h; cases h
theorem shaped_ok {n : Nat} {d : D} (h : okD n d = true) (hn : n ≤ 64 := by omega) : SeqAt.shaped d = true := by
  have := okD_lay n d h
  unfold SeqAt.shaped
  rw [this.1, Bool.true_and]
  exact decide_eq_true (by omega)
@[simp] theorem shaped_i (i : Int) : SeqAt.shaped (.int i) = true := shaped_ok (n := 0) (by unfold okD; rfl)
@[simp] theorem shaped_b (i : Bool) : SeqAt.shaped (.bool i) = true := shaped_ok (n := 0) (by unfold okD; rfl)
@[simp] theorem shaped_n : SeqAt.shaped .none = true := shaped_ok (n := 0) (by unfold okD; rfl)
theorem shaped_s {x : Str} (h : strOk x = true) : SeqAt.shaped (.str x) = true := shaped_ok (n := 0) (by unfold okD; exact h)
@[simp] theorem dEq_ii (i j : Int) : dEq (.int i) (.int j) = some (.bool (decide (i = j))) := by simp [dEq]
@[simp] theorem dNe_ii (i j : Int) : dNe (.int i) (.int j) = some (.bool (!decide (i = j))) := by simp [dNe]
@[simp] theorem dNe_bb (i j : Bool) : dNe (.bool i) (.bool j) = some (.bool (!(i == j))) := by simp [dNe]
@[simp] theorem dEq_bb (i j : Bool) : dEq (.bool i) (.bool j) = some (.bool (i == j)) := by simp [dEq]
theorem dEq_ss {x y : Str} (hx : strOk x = true) (hy : strOk y = true) : dEq (.str x) (.str y) = some (.bool (decide (x = y))) := by simp [dEq, shaped_s hx, shaped_s hy]
theorem dNe_ss {x y : Str} (hx : strOk x = true) (hy : strOk y = true) : dNe (.str x) (.str y) = some (.bool (!decide (x = y))) := by simp [dNe, shaped_s hx, shaped_s hy]
@[simp] theorem bools_map {α : Type} (q : α → Bool) : ∀ l : List α, bools? (l.map fun x => .bool (q x)) = some (l.map q)
  | [] => rfl
  | x :: l => by
    rw [List.map_cons]
    unfold bools?
    rw [bools_map q l]
    rfl
@[simp] theorem dAll_map {α : Type} (q : α → Bool) (l : List α) : dAll (.list (l.map fun x => .bool (q x))) = some (.bool (l.all q)) := by
  simp [dAll]
@[simp] theorem strs_map {α : Type} (q : α → Str) : ∀ l : List α, strsOf (l.map fun x => .str (q x)) = some (l.map q)
  | [] => rfl
  | x :: l => by
    rw [List.map_cons]
    unfold strsOf
    rw [strs_map q l]
    rfl
@[simp] theorem strs_str (l : List Str) : strsOf (l.map .str) = some l := by
  have := strs_map (fun x => x) l
  simpa using this
@[simp] theorem ints_int : ∀ l : List Int, intsOf (l.map .int) = some l
  | [] => rfl
  | x :: l => by
    rw [List.map_cons]
    unfold intsOf
    rw [ints_int l]
    rfl
theorem dJoin_list {α : Type} {s : Str} {q : α → Str} {l : List α} (h : ((l.map q).map (·.length)).sum + (l.map q).length * s.length ≤ 16777216) : dJoin s (.list (l.map fun x => .str (q x))) = some (.str (Txt.join s (l.map q))) := by
  unfold dJoin
  simp only [strs_map]
  exact if_pos h
theorem atI_nat {α : Type} (xs : List α) (n : Nat) : atI xs (n : Int) = xs[n]? := by
  unfold atI ixN
  rw [if_pos (by omega)]
  by_cases h : n < xs.length
  · rw [if_pos (by omega)]
    simp
  · rw [if_neg (by omega)]
    rw [List.getElem?_eq_none (by omega)]
    rfl
@[simp] theorem atI_0 {α : Type} (xs : List α) : atI xs 0 = xs.head? := by
  have := atI_nat xs 0
  rw [show ((0 : Nat) : Int) = 0 from rfl] at this
  rw [this]
  cases xs <;> rfl
@[simp] theorem atI_1 {α : Type} (xs : List α) : atI xs 1 = xs[1]? := atI_nat xs 1
@[simp] theorem atI_2 {α : Type} (xs : List α) : atI xs 2 = xs[2]? := atI_nat xs 2
/-- a comprehension over one plain name -/
theorem lc_pure {i : Nat} {fi : M (List D)} {fe : M D} {ρ ρ1 : Env} {ds : List D} {F : D → D} (hi : fi ρ = some (.ok ds ρ1)) (hl : ds.length ≤ sizeLine) (h : ∀ d ∈ ds, fe ((ρ1.set i none).set i (some d)) = some (.ok (F d) ((ρ1.set i none).set i (some d)))) : fLc [i] fi (gNm i) tYesF fe ρ = some (.ok (.list (ds.map F)) (ρ1.set i none)) := by
  rw [u_fLc, hi]
  simp only [u_ok]
  rw [compL_pure (F := F) ds [] (by simpa using hl) h]
  simp
theorem lc_same {i : Nat} {fi : M (List D)} {fe : M D} {ρ : Env} {ds : List D} (F : D → D) (hl : ds.length ≤ sizeLine) (hi : fi ρ = some (.ok ds ρ)) (h : ∀ d ∈ ds, fe ((ρ.set i none).set i (some d)) = some (.ok (F d) ((ρ.set i none).set i (some d)))) : fLc [i] fi (gNm i) tYesF fe ρ = some (.ok (.list (ds.map F)) (ρ.set i none)) := lc_pure hi hl h
theorem compL_map {α : Type} {i : Nat} {fe : M D} {g : α → D} (F : α → D) : ∀ (xs : List α) (acc : List D) (ρ : Env), acc.length + xs.length ≤ sizeLine → (∀ d ∈ xs, fe ((ρ.set i none).set i (some (g d))) = some (.ok (F d) ((ρ.set i none).set i (some (g d))))) → compL [i] (gNm i) tYesF fe (xs.map g) acc ρ = some (.ok (acc ++ xs.map F) (ρ.set i none)) := by
  intro xs
  induction xs with
  | nil =>
    intro acc ρ _ _
    simp [compL, wipeE]
  | cons x xs ih =>
    intro acc ρ hl h
    have h1 := h x List.mem_cons_self
    have l1 : acc.length < sizeLine := by
      rw [List.length_cons] at hl
      omega
    rw [List.map_cons]
    unfold compL
    simp only [wipeE, u_gNm, u_tYes]
    rw [h1]
    simp only [l1, if_true]
    rw [List.set_set, List.set_set]
    rw [ih (acc ++ [F x]) (ρ.set i none) (by simp at hl ⊢; omega) (fun d' hd => by
      rw [List.set_set, List.set_set]
      have := h d' (List.mem_cons_of_mem _ hd)
      rw [List.set_set] at this
      exact this), List.set_set]
    simp
/-- the same, the elements the images of xs -/
theorem lc_map {α : Type} {i : Nat} {fi : M (List D)} {fe : M D} {ρ : Env} {xs : List α} {g : α → D} (F : α → D) (hl : xs.length ≤ sizeLine) (hi : fi ρ = some (.ok (xs.map g) ρ)) (h : ∀ d ∈ xs, fe ((ρ.set i none).set i (some (g d))) = some (.ok (F d) ((ρ.set i none).set i (some (g d))))) : fLc [i] fi (gNm i) tYesF fe ρ = some (.ok (.list (xs.map F)) (ρ.set i none)) := by
  rw [u_fLc, hi]
  simp only [u_ok]
  rw [compL_map F xs [] ρ (by simpa using hl) h]
  simp
theorem wipe2 {i j : Nat} (hij : i ≠ j) (ρ : Env) : wipeE ρ [i, j] = (ρ.set i none).set j none := by
  simp only [wipeE]
  exact List.set_comm _ _ (by omega)
theorem compL2_map {α β : Type} {i j : Nat} {fi1 : M (List D)} {fe : M D} {g : α → D} {g1 : β → D} {ys : α → List β} (F : α → β → D) (hij : i ≠ j) : ∀ (xs : List α) (acc : List D) (ρ : Env), acc.length + (xs.flatMap ys).length ≤ sizeLine → (∀ d ∈ xs, fi1 (((ρ.set i none).set j none).set i (some (g d))) = some (.ok ((ys d).map g1) (((ρ.set i none).set j none).set i (some (g d)))) ∧ ∀ e ∈ ys d, fe ((((ρ.set i none).set j none).set i (some (g d))).set j (some (g1 e))) = some (.ok (F d e) ((((ρ.set i none).set j none).set i (some (g d))).set j (some (g1 e))))) → compL2 [i, j] [j] (gNm i) tYesF fi1 (gNm j) tYesF fe (xs.map g) acc ρ = some (.ok (acc ++ xs.flatMap fun x => (ys x).map (F x)) ((ρ.set i none).set j none)) := by
  intro xs
  induction xs with
  | nil =>
    intro acc ρ _ _
    simp [compL2, wipe2 hij]
  | cons x xs ih =>
    intro acc ρ hl h
    obtain ⟨h1, h2⟩ := h x List.mem_cons_self
    rw [List.flatMap_cons, List.length_append] at hl
    rw [List.map_cons]
    unfold compL2
    simp only [wipe2 hij, u_gNm, u_tYes]
    rw [h1]
    have ex : ∀ v : Option D, ((((ρ.set i none).set j none).set i v).set j none) = ((ρ.set i none).set j none).set i v := fun v => by
      rw [List.set_comm _ _ (by omega : i ≠ j), List.set_set]
    simp only
    rw [compL_map (F x) (ys x) acc _ (by omega) (fun e he => by rw [ex]; exact h2 e he)]
    simp only
    have ey : ∀ v : Option D, ((((((ρ.set i none).set j none).set i v).set j none).set i none).set j none) = (ρ.set i none).set j none := fun v => by
      rw [ex, List.set_set, List.set_comm _ _ (by omega : j ≠ i), List.set_set, List.set_set]
    rw [ey]
    have ez : ((((ρ.set i none).set j none).set i none).set j none) = (ρ.set i none).set j none := by
      rw [List.set_comm _ _ (by omega : j ≠ i), List.set_set, List.set_set]
    rw [ih (acc ++ (ys x).map (F x)) ((ρ.set i none).set j none) (by rw [List.length_append, List.length_map]; omega) (fun d hd => by
      rw [ez]
      exact h d (List.mem_cons_of_mem _ hd)), ez, List.flatMap_cons, List.append_assoc]
theorem lc2_map {α β : Type} {i j : Nat} {fi fi1 : M (List D)} {fe : M D} {g : α → D} {g1 : β → D} {ys : α → List β} {xs : List α} {ρ : Env} (F : α → β → D) (hij : i ≠ j) (hl : (xs.flatMap ys).length ≤ sizeLine) (hi : fi ρ = some (.ok (xs.map g) ρ)) (h : ∀ d ∈ xs, fi1 (((ρ.set i none).set j none).set i (some (g d))) = some (.ok ((ys d).map g1) (((ρ.set i none).set j none).set i (some (g d)))) ∧ ∀ e ∈ ys d, fe ((((ρ.set i none).set j none).set i (some (g d))).set j (some (g1 e))) = some (.ok (F d e) ((((ρ.set i none).set j none).set i (some (g d))).set j (some (g1 e))))) : fLc2 [i, j] [j] fi (gNm i) tYesF fi1 (gNm j) tYesF fe ρ = some (.ok (.list (xs.flatMap fun x => (ys x).map (F x))) ((ρ.set i none).set j none)) := by
  show bnd (fi ρ) Out.err (fun ds ρ1 => bnd (compL2 [i, j] [j] (gNm i) tYesF fi1 (gNm j) tYesF fe ds [] ρ1) Out.err fun r ρ2 => some (Out.ok (PyData.list r) ρ2)) = _
  rw [hi]
  simp only [u_ok]
  rw [compL2_map F hij xs [] ρ (by simpa using hl) h]
  simp
/-! ### slices of texts -/
theorem cs_mk (l : List Nat) : cs ⟨l.toArray⟩ = l := by simp [cs]
theorem cs_cut (z : Str) (lo hi : Option Int) : cs (cutS z lo hi) = ((cs z).drop (HT.sIx z.length 0 lo)).take (HT.sIx z.length z.length hi - HT.sIx z.length 0 lo) := by
  unfold cutS
  rw [cs_mk]
theorem cs_to (z : Str) (n : Nat) : cs (cutS z none (some (n : Int))) = (cs z).take n := by
  rw [cs_cut, HT.sIx_none, HT.sIx_nat, ← cs_len]
  simp
theorem cs_from (z : Str) (n : Nat) : cs (cutS z (some (n : Int)) none) = (cs z).drop n := by
  rw [cs_cut, HT.sIx_none, HT.sIx_nat, ← cs_len]
  by_cases h : n ≤ (cs z).length
  · rw [Nat.min_eq_left h]
    exact List.take_of_length_le (by simp)
  · rw [Nat.min_eq_right (by omega), List.drop_eq_nil_of_le (Nat.le_refl _), List.drop_eq_nil_of_le (by omega), List.take_nil]
end FN
set_option Elab.async false
set_option linter.all false
set_option maxRecDepth 100000
set_option maxHeartbeats 4000000
/-! FT2: all or none; rows and tables of numbers as texts (no program). -/
namespace FN
open PySem PySem.Spec PyProof.Rows L2
open PySem.PyData (strOk)
section
variable {α β γ : Type}
def mapO (f : α → Option β) : List α → Option (List β)
  | [] => some []
  | a :: r => match f a with
    | none => none
    | some b => (mapO f r).map fun l => b :: l
theorem mapO_some {f : α → Option β} : ∀ {l : List α} {l' : List β}, mapO f l = some l' ↔ l.map f = l'.map some
  | [], l' => by
    cases l' <;> simp [mapO]
  | a :: r, l' => by
    unfold mapO
    cases h : f a with
    | none => cases l' <;> simp [h]
    | some b =>
      cases l' with
      | nil => simp [h]
      | cons c l' =>
        simp [h, Option.map_eq_some_iff]
        constructor
        · rintro ⟨z, e⟩
          exact ⟨e, mapO_some.mp z⟩
        · rintro ⟨e, z⟩
          exact ⟨mapO_some.mpr z, e⟩
theorem mapO_none {f : α → Option β} : ∀ {l : List α}, mapO f l = none ↔ l.any (fun a => (f a).isNone) = true
  | [] => by simp [mapO]
  | a :: r => by
    unfold mapO
    cases h : f a with
    | none => simp [h]
    | some b => simp only [List.any_cons, h, Option.isNone_some, Bool.false_or, Option.map_eq_none_iff]; exact mapO_none
theorem mapO_length {f : α → Option β} {l : List α} {l' : List β} (h : mapO f l = some l') : l'.length = l.length := by
  have := congrArg List.length (mapO_some.mp h)
  simpa using this.symm
theorem mapO_back {f : α → Option β} {g : β → α} (h : ∀ a b, f a = some b → g b = a) : ∀ {l : List α} {l' : List β}, mapO f l = some l' → l'.map g = l
  | [], l', z => by
    rw [mapO_some] at z
    cases l' with
    | nil => rfl
    | cons => simp at z
  | a :: r, l', z => by
    rw [mapO_some] at z
    cases l' with
    | nil => simp at z
    | cons b l' =>
      simp at z
      rw [List.map_cons, h a b z.1, mapO_back h (mapO_some.mpr (by simpa using z.2))]
theorem mapO_fore {f : α → Option β} {g : β → α} {l : List β} (h : ∀ b ∈ l, f (g b) = some b) : mapO f (l.map g) = some l := by
  rw [mapO_some, List.map_map]
  exact List.map_congr_left h
theorem mapO_mem {f : α → Option β} : ∀ {l : List α} {l' : List β}, mapO f l = some l' → ∀ b ∈ l', ∃ a ∈ l, f a = some b
  | [], l', z, b, hb => by
    rw [mapO_some] at z
    cases l' with
    | nil => cases hb
    | cons => simp at z
  | a :: r, l', z, b, hb => by
    rw [mapO_some] at z
    cases l' with
    | nil => cases hb
    | cons c l' =>
      simp at z
      rcases List.mem_cons.mp hb with rfl | hb
      · exact ⟨a, List.mem_cons_self, z.1⟩
      · obtain ⟨x, hx, e⟩ := mapO_mem (mapO_some.mpr (by simpa using z.2)) b hb
        exact ⟨x, List.mem_cons_of_mem _ hx, e⟩
end
/-! ### numbers as texts, once more -/
theorem val_lt0 : ∀ (ds : List Nat) (acc : Nat), (∀ c ∈ ds, 48 ≤ c ∧ c ≤ 57) → ds.foldl (fun acc c => acc * 10 + (c - 48)) acc < (acc + 1) * 10 ^ ds.length
  | [], acc, _ => by simp
  | c :: ds, acc, h => by
    have h1 := val_lt0 ds (acc * 10 + (c - 48)) fun d hd => h d (List.mem_cons_of_mem _ hd)
    have h2 := h c List.mem_cons_self
    rw [List.foldl_cons, List.length_cons, Nat.pow_succ]
    refine Nat.lt_of_lt_of_le h1 ?_
    rw [Nat.mul_comm (10 ^ ds.length) 10, ← Nat.mul_assoc]
    exact Nat.mul_le_mul_right _ (by omega)
theorem val_lt (ds : List Nat) (h : ∀ c ∈ ds, 48 ≤ c ∧ c ≤ 57) : NumText.digitsVal ds < 10 ^ ds.length := by
  have := val_lt0 ds 0 h
  rw [Nat.zero_add, Nat.one_mul] at this
  exact this
theorem intL_small {l : List Nat} {n : Int} (h : intL l = some n) : n.natAbs < 10 ^ 30 := by
  have key : ∀ ds : List Nat, ¬ (ds.length = 0 ∨ 30 < ds.length ∨ ¬ (∀ c ∈ ds, 48 ≤ c ∧ c ≤ 57)) → NumText.digitsVal ds < 10 ^ 30 := fun ds q => by
    have q2 : ¬ 30 < ds.length := fun z => q (.inr (.inl z))
    have q4 := val_lt _ (Classical.byContradiction fun z => q (.inr (.inr z)) : ∀ c ∈ ds, 48 ≤ c ∧ c ≤ 57)
    exact Nat.lt_of_lt_of_le q4 (Nat.pow_le_pow_right (by decide) (by omega))
  unfold intL at h
  by_cases h45 : l.head? = some 45
  · simp only [h45, if_true] at h
    by_cases q : l.tail.length = 0 ∨ 30 < l.tail.length ∨ ¬ (∀ c ∈ l.tail, 48 ≤ c ∧ c ≤ 57)
    · rw [if_pos q] at h
      cases h
    · rw [if_neg q] at h
      have k := key _ q
      by_cases q2 : l.tail.head? = some 48 ∧ l ≠ [48]
      · rw [if_pos q2] at h
        cases h
      · rw [if_neg q2] at h
        have e := Option.some.inj h
        omega
  · simp only [h45, if_false] at h
    by_cases q : l.length = 0 ∨ 30 < l.length ∨ ¬ (∀ c ∈ l, 48 ≤ c ∧ c ≤ 57)
    · rw [if_pos q] at h
      cases h
    · rw [if_neg q] at h
      have k := key _ q
      by_cases q2 : l.head? = some 48 ∧ l ≠ [48]
      · rw [if_pos q2] at h
        cases h
      · rw [if_neg q2] at h
        have e := Option.some.inj h
        omega
theorem log_small {n : Int} (h : n.natAbs < 10 ^ 30) : n.natAbs.log2 < 1920 := by
  by_cases h0 : n.natAbs = 0
  · rw [h0]; decide
  · rw [Nat.log2_lt h0]
    exact Nat.lt_of_lt_of_le h (by decide +kernel)
theorem dstr_bound {n : Int} (h : n.natAbs < 10 ^ 30) : (cs (dstr n)).length ≤ 31 ∧ ∀ c ∈ cs (dstr n), c = 45 ∨ (48 ≤ c ∧ c ≤ 57) := intL_bound (intL_dstr h)
theorem strOk_of {x : Str} (h : ∀ c ∈ cs x, c < 0x110000) : strOk x = true := by
  unfold PyData.strOk
  rw [Array.all_eq_true']
  intro c hc
  exact decide_eq_true (h c (Array.mem_toList_iff.mpr hc))
theorem of_strOk {x : Str} (h : strOk x = true) : ∀ c ∈ cs x, c < 0x110000 := by
  unfold PyData.strOk at h
  rw [Array.all_eq_true'] at h
  intro c hc
  exact of_decide_eq_true (h c (Array.mem_toList_iff.mp hc))
/-! ### words: numbers, and '-' -/
def wS : Option Int → Str
  | none => "-"
  | some i => dstr i
def Sm : Option Int → Prop
  | none => True
  | some i => i.natAbs < 10 ^ 30
/-- a word's meaning; '-' only where b lets it -/
def itm (b : Bool) (w : Str) : Option (Option Int) := if b = true ∧ cs w = [45] then some none else (intL (cs w)).map some
theorem cs_dash : cs ("-" : Str) = [45] := by decide +kernel
theorem itm_back {b : Bool} {w : Str} {o : Option Int} (h : itm b w = some o) : wS o = w := by
  unfold itm at h
  split at h
  · rename_i z
    cases h
    exact str_ext (by rw [z.2]; exact cs_dash)
  · rw [Option.map_eq_some_iff] at h
    obtain ⟨i, e, rfl⟩ := h
    exact str_ext (dstr_intL e)
theorem itm_sm {b : Bool} {w : Str} {o : Option Int} (h : itm b w = some o) : Sm o ∧ (b = false → o.isSome = true) := by
  unfold itm at h
  split at h
  · rename_i z
    cases h
    exact ⟨True.intro, fun q => by rw [q] at z; cases z.1⟩
  · rw [Option.map_eq_some_iff] at h
    obtain ⟨i, e, rfl⟩ := h
    exact ⟨intL_small e, fun _ => rfl⟩
theorem intL_dash : intL [45] = none := by decide +kernel
theorem itm_fore {b : Bool} {o : Option Int} (h : Sm o) (hb : b = false → o.isSome = true) : itm b (wS o) = some o := by
  unfold itm
  cases o with
  | none =>
    cases b with
    | true => rw [if_pos ⟨rfl, cs_dash⟩]
    | false => cases hb rfl
  | some i =>
    have e := intL_dstr (show i.natAbs < 10 ^ 30 from h)
    show (if b = true ∧ cs (dstr i) = [45] then _ else _) = _
    rw [if_neg]
    · show Option.map some (intL (cs (dstr i))) = _
      rw [e]
      rfl
    · intro z
      rw [z.2, intL_dash] at e
      cases e
theorem wS_bound {o : Option Int} (h : Sm o) : (cs (wS o)).length ≤ 31 ∧ ∀ c ∈ cs (wS o), c = 45 ∨ (48 ≤ c ∧ c ≤ 57) := by
  cases o with
  | none =>
    show (cs ("-" : Str)).length ≤ 31 ∧ _
    rw [show cs (wS none) = [45] from cs_dash, cs_dash]
    exact ⟨by decide, fun c hc => .inl (by simpa using hc)⟩
  | some i => exact dstr_bound h
/-! ### rows -/
abbrev sp1 : Str := " "
abbrev sp3 : Str := " ; "
abbrev bar3 : Str := " | "
theorem cs_sp1 : cs sp1 = [32] := by decide +kernel
theorem cs_sp3 : cs sp3 = [32, 59, 32] := by decide +kernel
theorem cs_bar3 : cs bar3 = [32, 124, 32] := by decide +kernel
theorem mark1 : Mark (cs sp1) 32 0 := by rw [cs_sp1]; exact ⟨rfl, by decide⟩
theorem mark3 : Mark (cs sp3) 59 1 := by rw [cs_sp3]; exact ⟨rfl, by decide⟩
theorem markb : Mark (cs bar3) 124 1 := by rw [cs_bar3]; exact ⟨rfl, by decide⟩
theorem kind1 : Builtin.Str.strKind sp1 = 1 := by decide +kernel
theorem kind3 : Builtin.Str.strKind sp3 = 1 := by decide +kernel
theorem kindb : Builtin.Str.strKind bar3 = 1 := by decide +kernel
theorem len1 : sp1.length = 1 := by decide +kernel
theorem len3 : sp3.length = 3 := by decide +kernel
theorem lenb : bar3.length = 3 := by decide +kernel
def rowS (l : List (Option Int)) : Str := Txt.join sp1 (l.map wS)
def tabS (l : List (List (Option Int))) : Str := Txt.join sp3 (l.map rowS)
def rowP (b : Bool) (x : Str) : Option (List (Option Int)) := mapO (itm b) (Txt.split x sp1)
def tabP (b : Bool) (x : Str) : Option (List (List (Option Int))) := mapO (rowP b) (Txt.split x sp3)
theorem rowP_back {b : Bool} {x : Str} {l : List (Option Int)} (h : rowP b x = some l) : rowS l = x := by
  unfold rowS
  rw [mapO_back (fun _ _ => itm_back) h, join_split]
theorem rowP_ne {b : Bool} {x : Str} {l : List (Option Int)} (h : rowP b x = some l) : l ≠ [] := fun z => by
  have := mapO_length h
  rw [z] at this
  exact split_ne x sp1 kind1 (by rw [len1]; decide) (List.length_eq_zero_iff.mp this.symm)
theorem rowP_sm {b : Bool} {x : Str} {l : List (Option Int)} (h : rowP b x = some l) : ∀ o ∈ l, Sm o ∧ (b = false → o.isSome = true) := fun o ho => by
  obtain ⟨w, _, e⟩ := mapO_mem h o ho
  exact itm_sm e
theorem rowP_fore {b : Bool} {l : List (Option Int)} (hl : l ≠ []) (h : ∀ o ∈ l, Sm o ∧ (b = false → o.isSome = true)) : rowP b (rowS l) = some l := by
  unfold rowP rowS
  rw [split_join mark1 kind1 (by simpa using hl)]
  · exact mapO_fore fun o ho => itm_fore (h o ho).1 (h o ho).2
  · intro p hp
    obtain ⟨o, ho, rfl⟩ := List.mem_map.mp hp
    intro z
    rcases (wS_bound (h o ho).1).2 32 z with q | q <;> omega
theorem tabP_back {b : Bool} {x : Str} {l : List (List (Option Int))} (h : tabP b x = some l) : tabS l = x := by
  unfold tabS
  rw [mapO_back (fun _ _ => rowP_back) h, join_split]
theorem tabP_ne {b : Bool} {x : Str} {l : List (List (Option Int))} (h : tabP b x = some l) : l ≠ [] := fun z => by
  have := mapO_length h
  rw [z] at this
  exact split_ne x sp3 kind3 (by rw [len3]; decide) (List.length_eq_zero_iff.mp this.symm)
/-- the signs of a row's text -/
theorem rowS_cs {l : List (Option Int)} (h : ∀ o ∈ l, Sm o) : ∀ c ∈ cs (rowS l), c = 32 ∨ c = 45 ∨ (48 ≤ c ∧ c ≤ 57) := by
  unfold rowS
  rw [cs_join, cs_sp1]
  induction l with
  | nil => intro c hc; simp [jn] at hc
  | cons o l ih =>
    intro c hc
    cases l with
    | nil =>
      exact .inr ((wS_bound (h o List.mem_cons_self)).2 c (by simpa [jn] using hc))
    | cons o2 l =>
      simp only [List.map_cons] at hc ih
      unfold jn at hc
      rcases List.mem_append.mp hc with hc | hc
      · exact .inr ((wS_bound (h o List.mem_cons_self)).2 c hc)
      · rcases List.mem_append.mp hc with hc | hc
        · exact .inl (by simpa using hc)
        · exact ih (fun o ho => h o (List.mem_cons_of_mem _ ho)) c hc
theorem tabP_fore {b : Bool} {l : List (List (Option Int))} (hl : l ≠ []) (h : ∀ r ∈ l, r ≠ [] ∧ ∀ o ∈ r, Sm o ∧ (b = false → o.isSome = true)) : tabP b (tabS l) = some l := by
  unfold tabP tabS
  rw [split_join mark3 kind3 (by simpa using hl)]
  · exact mapO_fore fun o ho => rowP_fore (h o ho).1 (h o ho).2
  · intro p hp
    obtain ⟨o, ho, rfl⟩ := List.mem_map.mp hp
    intro z
    rcases rowS_cs (fun q hq => ((h o ho).2 q hq).1) 59 z with q | q | q <;> omega
/-! ### lengths -/
theorem jn_len (s : List Nat) : ∀ ps : List (List Nat), ps ≠ [] → (jn s ps).length + s.length = (ps.map (·.length)).sum + ps.length * s.length
  | [], h => absurd rfl h
  | [p], _ => by simp [jn]
  | p :: q :: ps, _ => by
    have ih := jn_len s (q :: ps) (by simp)
    unfold jn
    rw [List.length_append, List.length_append, List.map_cons, List.sum_cons, List.length_cons, Nat.succ_mul]
    omega
theorem join_len (s : Str) (ps : List Str) (h : ps ≠ []) : (Txt.join s ps).length + s.length = (ps.map (·.length)).sum + ps.length * s.length := by
  have := jn_len (cs s) (ps.map cs) (by simpa using h)
  rw [← cs_join, List.length_map, List.map_map, cs_len, cs_len] at this
  rw [this]
  congr 2
theorem dJoin_txt {α : Type} {s : Str} {q : α → Str} {l : List α} (h : (Txt.join s (l.map q)).length ≤ 1000000) (hs : s.length ≤ 1000) : dJoin s (.list (l.map fun x => .str (q x))) = some (.str (Txt.join s (l.map q))) := by
  refine dJoin_list ?_
  by_cases e : l.map q = []
  · rw [e]
    simp
  · have := join_len s (l.map q) e
    omega
theorem split_len (x s : Str) (hk : Builtin.Str.strKind s = 1) (hw : 1 ≤ s.length) : (Txt.split x s).length ≤ x.length + 1 := by
  have e := join_len s (Txt.split x s) (split_ne x s hk hw)
  rw [join_split] at e
  have h1 : (Txt.split x s).length - 1 ≤ ((Txt.split x s).length - 1) * s.length := Nat.le_mul_of_pos_right _ hw
  have h2 : ((Txt.split x s).length - 1) * s.length + s.length = (Txt.split x s).length * s.length := by
    have : 0 < (Txt.split x s).length := List.length_pos_iff.mpr (split_ne x s hk hw)
    rw [← Nat.succ_mul]
    congr 1
    omega
  omega
theorem mem_sum {l : List Nat} {n : Nat} (h : n ∈ l) : n ≤ l.sum := by
  induction l with
  | nil => cases h
  | cons a l ih =>
    rw [List.sum_cons]
    rcases List.mem_cons.mp h with rfl | h
    · omega
    · have := ih h
      omega
theorem join_piece {s p : Str} {ps : List Str} (h : p ∈ ps) : p.length ≤ (Txt.join s ps).length := by
  have e := join_len s ps (List.ne_nil_of_mem h)
  have h1 : p.length ≤ (ps.map (·.length)).sum := mem_sum (List.mem_map.mpr ⟨p, h, rfl⟩)
  have h2 : s.length ≤ ps.length * s.length := Nat.le_mul_of_pos_left _ (List.length_pos_of_mem h)
  have h3 : (Txt.split (Txt.join s ps) s).length = (Txt.split (Txt.join s ps) s).length := rfl
  obtain ⟨n, hn⟩ : ∃ n, ps.length = n + 1 := ⟨ps.length - 1, by have := List.length_pos_of_mem h; omega⟩
  rw [hn, Nat.succ_mul] at e
  omega
theorem sum_le {l : List Nat} {n : Nat} (h : ∀ a ∈ l, a ≤ n) : l.sum ≤ l.length * n := by
  induction l with
  | nil => simp
  | cons a l ih =>
    rw [List.sum_cons, List.length_cons, Nat.succ_mul]
    have := h a List.mem_cons_self
    have := ih fun b hb => h b (List.mem_cons_of_mem _ hb)
    omega
theorem join_le {s : Str} {ps : List Str} {n : Nat} (h : ∀ p ∈ ps, p.length ≤ n) : (Txt.join s ps).length ≤ ps.length * (n + s.length) := by
  by_cases e : ps = []
  · subst e
    have : cs (Txt.join s []) = [] := by rw [cs_join]; rfl
    rw [← cs_len, this]
    simp
  · have q := join_len s ps e
    have h1 : (ps.map (·.length)).sum ≤ (ps.map (·.length)).length * n := sum_le fun a ha => by
      obtain ⟨p, hp, rfl⟩ := List.mem_map.mp ha
      exact h p hp
    rw [List.length_map] at h1
    rw [Nat.mul_add]
    omega
theorem rowS_le {l : List (Option Int)} (h : ∀ o ∈ l, Sm o) : (rowS l).length ≤ l.length * 32 := by
  unfold rowS
  have := join_le (s := sp1) (ps := l.map wS) (n := 31) fun p hp => by
    obtain ⟨o, ho, rfl⟩ := List.mem_map.mp hp
    rw [← cs_len]
    exact (wS_bound (h o ho)).1
  rw [len1, List.length_map] at this
  exact this
end FN
set_option Elab.async false
set_option linter.all false
set_option maxRecDepth 100000
set_option maxHeartbeats 4000000
/-! FN20: loops and comprehensions by invariants; the bag that laws draw from (no program). -/
namespace FN
open PySem PySem.Spec PyProof.Rows L2
open PySem.PyData (eqv eqvAll strOk)
/-! ### invariants -/
/-- a comprehension over one plain name, G at each turn (slot i is free in it), P of each element -/
theorem compL_inv {i : Nat} {fe : M D} (G : Nat → Env → Prop) (P : D → Prop) : ∀ (ds acc : List D) (n : Nat) (ρ : Env), acc.length + ds.length ≤ sizeLine → G n (ρ.set i none) → (∀ k d ρ, ds[k]? = some d → G (n + k) ρ → ∃ v ρ', fe (ρ.set i (some d)) = some (.ok v ρ') ∧ P v ∧ G (n + k + 1) (ρ'.set i none)) → ∃ vs ρ', compL [i] (gNm i) tYesF fe ds acc ρ = some (.ok (acc ++ vs) ρ') ∧ vs.length = ds.length ∧ (∀ v ∈ vs, P v) ∧ G (n + ds.length) ρ'
  | [], acc, n, ρ, _, hG, _ => ⟨[], ρ.set i none, by simp [compL, wipeE], rfl, fun _ z => by simp at z, by simpa using hG⟩
  | d :: ds, acc, n, ρ, hl, hG, h => by
    obtain ⟨v, ρ', e, p, g⟩ := h 0 d (ρ.set i none) rfl (by simpa using hG)
    have l1 : acc.length < sizeLine := by
      rw [List.length_cons] at hl
      omega
    obtain ⟨vs, ρ2, e2, l2, p2, g2⟩ := compL_inv (i := i) (fe := fe) G P ds (acc ++ [v]) (n + 1) (ρ'.set i none) (by simp at hl ⊢; omega) (by rw [List.set_set]; simpa using g) (fun k d' ρ3 hk hg => by
      have := h (k + 1) d' ρ3 (by simpa using hk) (by rw [show n + (k + 1) = n + 1 + k by omega]; exact hg)
      rw [show n + (k + 1) + 1 = n + 1 + k + 1 by omega] at this
      exact this)
    refine ⟨v :: vs, ρ2, ?_, by simp [l2], ?_, by rw [List.length_cons, show n + (ds.length + 1) = n + 1 + ds.length by omega]; exact g2⟩
    · unfold compL
      simp only [wipeE, u_gNm, u_tYes]
      rw [e]
      simp only [l1, if_true]
      rw [e2]
      simp
    · intro x hx
      rcases List.mem_cons.mp hx with rfl | hx
      · exact p
      · exact p2 x hx
theorem lc_inv {i : Nat} {fi : M (List D)} {fe : M D} {ρ ρ1 : Env} {ds : List D} (G : Nat → Env → Prop) (P : D → Prop) (hl : ds.length ≤ sizeLine) (hi : fi ρ = some (.ok ds ρ1)) (h0 : G 0 (ρ1.set i none)) (h : ∀ k d ρ, ds[k]? = some d → G k ρ → ∃ v ρ', fe (ρ.set i (some d)) = some (.ok v ρ') ∧ P v ∧ G (k + 1) (ρ'.set i none)) : ∃ vs ρ', fLc [i] fi (gNm i) tYesF fe ρ = some (.ok (.list vs) ρ') ∧ vs.length = ds.length ∧ (∀ v ∈ vs, P v) ∧ G ds.length ρ' := by
  obtain ⟨vs, ρ', e, l, p, g⟩ := compL_inv (i := i) (fe := fe) G P ds [] 0 ρ1 (by simpa using hl) h0 (fun k d ρ hk hg => by
    rw [Nat.zero_add] at hg ⊢
    exact h k d ρ hk hg)
  refine ⟨vs, ρ', ?_, l, p, by simpa using g⟩
  rw [u_fLc, hi]
  simp only [u_ok]
  rw [e]
  simp
/-- a for loop without break, return -/
theorem forL_inv {ft : D → Env → Option Env} {f : Env → Option Fl} (G : Nat → Env → Prop) : ∀ (ds : List D) (n : Nat) (ρ : Env), G n ρ → (∀ k d ρ, ds[k]? = some d → G (n + k) ρ → ∃ ρ1 ρ2, ft d ρ = some ρ1 ∧ (f ρ1 = some (.nx ρ2) ∨ f ρ1 = some (.ct ρ2)) ∧ G (n + k + 1) ρ2) → ∃ ρ', forL ft f ds ρ = some (.nx ρ') ∧ G (n + ds.length) ρ'
  | [], n, ρ, hG, _ => ⟨ρ, rfl, hG⟩
  | d :: ds, n, ρ, hG, h => by
    obtain ⟨ρ1, ρ2, e1, e2, g⟩ := h 0 d ρ rfl hG
    obtain ⟨ρ', e3, g3⟩ := forL_inv (ft := ft) (f := f) G ds (n + 1) ρ2 g (fun k d' ρ3 hk hg => by
      have := h (k + 1) d' ρ3 (by simpa using hk) (by rw [show n + (k + 1) = n + 1 + k by omega]; exact hg)
      rw [show n + (k + 1) + 1 = n + 1 + k + 1 by omega] at this
      exact this)
    refine ⟨ρ', ?_, by rw [List.length_cons, show n + (ds.length + 1) = n + 1 + ds.length by omega]; exact g3⟩
    unfold forL
    rw [e1]
    rcases e2 with e2 | e2
    · simp only [e2]; exact e3
    · simp only [e2]; exact e3
theorem for_inv {fi : M (List D)} {ft : D → Env → Option Env} {f : Env → Option Fl} {ρ ρ1 : Env} {ds : List D} (G : Nat → Env → Prop) (hi : fi ρ = some (.ok ds ρ1)) (h0 : G 0 ρ1) (h : ∀ k d ρ, ds[k]? = some d → G k ρ → ∃ ρ1 ρ2, ft d ρ = some ρ1 ∧ (f ρ1 = some (.nx ρ2) ∨ f ρ1 = some (.ct ρ2)) ∧ G (k + 1) ρ2) : ∃ ρ', sFor fi ft f ρ = some (.nx ρ') ∧ G ds.length ρ' := by
  obtain ⟨ρ', e, g⟩ := forL_inv (ft := ft) (f := f) G ds 0 ρ1 h0 (fun k d ρ hk hg => by
    rw [Nat.zero_add] at hg ⊢
    exact h k d ρ hk hg)
  refine ⟨ρ', ?_, by simpa using g⟩
  rw [u_sFor, hi]
  exact e
/-! ### comprehensions in general -/
theorem compL_fm {vs : List Nat} {ft : D → Env → Option Env} {tt : M Bool} {fe : M D} {ρw : Env} (F : D → Option D) (hw : wipeE ρw vs = ρw) : ∀ (ds acc : List D), acc.length + ds.length ≤ sizeLine → (∀ d ∈ ds, ∃ ρ1 ρ2 ρ3, ft d ρw = some ρ1 ∧ ((F d = none ∧ tt ρ1 = some (.ok false ρ2) ∧ wipeE ρ2 vs = ρw) ∨ ∃ y, F d = some y ∧ tt ρ1 = some (.ok true ρ2) ∧ fe ρ2 = some (.ok y ρ3) ∧ wipeE ρ3 vs = ρw)) → compL vs ft tt fe ds acc ρw = some (.ok (acc ++ ds.filterMap F) ρw)
  | [], acc, _, _ => by simp [compL, hw]
  | d :: ds, acc, hl, h => by
    obtain ⟨ρ1, ρ2, ρ3, e1, h1⟩ := h d List.mem_cons_self
    rw [List.length_cons] at hl
    unfold compL
    rw [hw, e1]
    rcases h1 with ⟨f, e2, w2⟩ | ⟨y, f, e2, e3, w3⟩
    · simp only [e2]
      rw [w2, compL_fm F hw ds acc (by omega) fun d' hd => h d' (List.mem_cons_of_mem _ hd), List.filterMap_cons, f]
    · have l1 : acc.length < sizeLine := by omega
      simp only [e2, e3, l1, if_true]
      rw [w3, compL_fm F hw ds (acc ++ [y]) (by simp; omega) fun d' hd => h d' (List.mem_cons_of_mem _ hd), List.filterMap_cons, f]
      simp
theorem lc_fm {vs : List Nat} {fi : M (List D)} {ft : D → Env → Option Env} {tt : M Bool} {fe : M D} {ρ ρw : Env} {ds : List D} (F : D → Option D) (hl : ds.length ≤ sizeLine) (hi : fi ρ = some (.ok ds ρw)) (hw : wipeE ρw vs = ρw) (h : ∀ d ∈ ds, ∃ ρ1 ρ2 ρ3, ft d ρw = some ρ1 ∧ ((F d = none ∧ tt ρ1 = some (.ok false ρ2) ∧ wipeE ρ2 vs = ρw) ∨ ∃ y, F d = some y ∧ tt ρ1 = some (.ok true ρ2) ∧ fe ρ2 = some (.ok y ρ3) ∧ wipeE ρ3 vs = ρw)) : fLc vs fi ft tt fe ρ = some (.ok (.list (ds.filterMap F)) ρw) := by
  rw [u_fLc, hi]
  simp only [u_ok]
  rw [compL_fm F hw ds [] (by simpa using hl) h]
  simp
/-- without a test -/
theorem lc_all {vs : List Nat} {fi : M (List D)} {ft : D → Env → Option Env} {fe : M D} {ρ ρw : Env} {ds : List D} (F : D → D) (hl : ds.length ≤ sizeLine) (hi : fi ρ = some (.ok ds ρw)) (hw : wipeE ρw vs = ρw) (h : ∀ d ∈ ds, ∃ ρ1 ρ3, ft d ρw = some ρ1 ∧ fe ρ1 = some (.ok (F d) ρ3) ∧ wipeE ρ3 vs = ρw) : fLc vs fi ft tYesF fe ρ = some (.ok (.list (ds.map F)) ρw) := by
  have := lc_fm (vs := vs) (ft := ft) (tt := tYesF) (fe := fe) (fun d => some (F d)) hl hi hw (fun d hd => by
    obtain ⟨ρ1, ρ3, e1, e3, w⟩ := h d hd
    exact ⟨ρ1, ρ1, ρ3, e1, .inr ⟨F d, rfl, rfl, e3, w⟩⟩)
  rw [this, show (fun d => some (F d)) = some ∘ F from rfl, List.filterMap_eq_map]
/-! ### range -/
theorem rgD_len (i j : Int) : (rgD i j).length = (j - i).toNat := by simp [rgD]
theorem rgD_get {i j : Int} {k : Nat} {d : D} (h : (rgD i j)[k]? = some d) : d = .int (i + (k : Nat)) ∧ k < (j - i).toNat := by
  unfold rgD at h
  rw [List.getElem?_map] at h
  have hk : k < (j - i).toNat := by
    apply Classical.byContradiction
    intro z
    rw [List.getElem?_eq_none (by simp; omega)] at h
    cases h
  rw [List.getElem?_range hk] at h
  cases h
  exact ⟨rfl, hk⟩
@[simp] theorem u_iRg1 {m : Md} {fa : M D} {ρ : Env} : iRg1 m fa ρ = bnd (fa ρ) Out.err fun x ρ1 => match rd m x ρ1 with
  | some (.int j) => if okR j = true then some (.ok (rgD 0 j) ρ1) else none
  | _ => none := (rfl)
@[simp] theorem u_iRg2 {ma mb : Md} {fa fb : M D} {ρ : Env} : iRg2 ma mb fa fb ρ = bnd (fa ρ) Out.err fun x ρ1 => bnd (fb ρ1) Out.err fun y ρ2 => match rd ma x ρ2, rd mb y ρ2 with
  | some (.int i), some (.int j) => if okR i && okR j then some (.ok (rgD i j) ρ2) else none
  | _, _ => none := (rfl)
theorem okR_of {i : Int} (h1 : -(2 ^ 62) ≤ i) (h2 : i < 2 ^ 62) : okR i = true := decide_eq_true ⟨h1, h2⟩
@[simp] theorem u_sPut {i : Nat} {fi fa : M D} {ρ : Env} : sPut i fi fa ρ = bnd (fa ρ) Fl.err fun d ρ1 => match ρ1[i]? with
  | some (some (.list _)) => bnd (fi ρ1) Fl.err fun k ρ2 => match ρ2[i]?, k with
    | some (some (.list ds)), .int k => (ixN ds.length k).map fun j => .nx (ρ2.set i (some (.list (ds.set j d))))
    | _, _ => none
  | _ => none := (rfl)
@[simp] theorem u_fMt {i : Nat} {op : List D → D → Option (D × List D)} {fa : M D} {ρ : Env} : fMt i op fa ρ = match ρ[i]? with
  | some (some (.list _)) => bnd (fa ρ) Out.err fun d ρ1 => match ρ1[i]? with
    | some (some (.list ds)) => (op ds d).map fun r => .ok r.1 (ρ1.set i (some (.list r.2)))
    | _ => none
  | _ => none := (rfl)
@[simp] theorem u_fMt0 {i : Nat} {op : List D → Option (D × List D)} {ρ : Env} : fMt0 i op ρ = match ρ[i]? with
  | some (some (.list ds)) => (op ds).map fun r => .ok r.1 (ρ.set i (some (.list r.2)))
  | _ => none := (rfl)
@[simp] theorem u_sAug {i : Nat} {op : D → D → Option D} {fa : M D} {ρ : Env} : sAug i op fa ρ = match ρ[i]? with
  | some (some x) => bnd (fa ρ) Fl.err fun y ρ1 => (op x y).map fun z => .nx (ρ1.set i (some z))
  | _ => none := (rfl)
@[simp] theorem dAdd_ii (i j : Int) : dAdd (.int i) (.int j) = some (.int (i + j)) := (rfl)
@[simp] theorem dSub_ii (i j : Int) : dSub (.int i) (.int j) = some (.int (i - j)) := (rfl)
@[simp] theorem dLt_ii (i j : Int) : dLt (.int i) (.int j) = some (.bool (decide (i < j))) := (rfl)
@[simp] theorem dLe_ii (i j : Int) : dLe (.int i) (.int j) = some (.bool (decide (i ≤ j))) := (rfl)
@[simp] theorem dGt_ii (i j : Int) : dGt (.int i) (.int j) = some (.bool (decide (j < i))) := (rfl)
@[simp] theorem dGe_ii (i j : Int) : dGe (.int i) (.int j) = some (.bool (decide (j ≤ i))) := (rfl)
@[simp] theorem dInt_i (i : Int) : dInt (.int i) = some (.int i) := (rfl)
theorem dMod_ii {i j : Int} (h : 0 < j) : dMod (.int i) (.int j) = some (.int (i % j)) := by simp [dMod, oI, h]
theorem dDiv_ii {i j : Int} (h : 0 < j) (h2 : j < 2 ^ 8000) : dDiv (.int i) (.int j) = some (.int (i / j)) := by
  have : j.natAbs.log2 < 8000 := (Nat.log2_lt (by omega)).mpr (by omega)
  simp [dDiv, oI, h, show j.natAbs.log2 < 9000 by omega]
@[simp] theorem dMax2_ii (i j : Int) : dMax2 (.int i) (.int j) = some (.int (if j > i then j else i)) := (rfl)
@[simp] theorem dMin2_ii (i j : Int) : dMin2 (.int i) (.int j) = some (.int (if j < i then j else i)) := (rfl)
@[simp] theorem dNeg_i (i : Int) : dNeg (.int i) = some (.int (-i)) := (rfl)
@[simp] theorem dLen_l (ds : List D) : dLen (.list ds) = some (.int ds.length) := (rfl)
@[simp] theorem dLen_t (ds : List D) : dLen (.tuple ds) = some (.int ds.length) := (rfl)
@[simp] theorem dIx_l (ds : List D) (i : Int) : dIx (.list ds) (.int i) = atI ds i := (rfl)
@[simp] theorem dIx_t (ds : List D) (i : Int) : dIx (.tuple ds) (.int i) = atI ds i := (rfl)
@[simp] theorem tru_b (b : Bool) : truD (.bool b) = some b := (rfl)
theorem u_try_err {sel : Str → Option Bool} {i : Nat} {fb fs : Env → Option Fl} {ρ ρ' : Env} {n : Str} {d : D} (h : fb ρ = some (.err n d ρ')) (hs : sel n = some true) : sTry sel i fb fs ρ = match fs (ρ'.set i (some (.dict [(.none, d)]))) with
      | some (.nx ρ2) => some (.nx (ρ2.set i none))
      | some (.ret d ρ2) => some (.ret d ρ2)
      | _ => none := by
  unfold sTry
  rw [h]
  simp only [hs]
  try rfl
theorem u_try_ok {sel : Str → Option Bool} {i : Nat} {fb fs : Env → Option Fl} {ρ ρ' : Env} (h : fb ρ = some (.nx ρ')) : sTry sel i fb fs ρ = some (.nx ρ') := by
  unfold sTry
  rw [h]
@[simp] theorem u_fXv {i : Nat} {ρ : Env} : fXv i ρ = match ρ[i]? with
  | some (some (.dict [(.none, d)])) => some (.ok d ρ)
  | _ => none := (rfl)
@[simp] theorem u_fIsX {i : Nat} {ρ : Env} : fIsX i ρ = match ρ[i]? with
  | some (some (.dict [(.none, _)])) => some (.ok (.bool true) ρ)
  | _ => none := (rfl)
/-- a call with the object of slot i and one datum -/
theorem call_r1 {i : Nat} {g : M D} {fx : M D} {ρ : Env} {b b' : Option D} {x bv v : D} {t : Kind} (h0 : ρ[i]? = some (some bv)) (hx : fx ρ = some (.ok x ρ)) (hg : g [some bv, some x] = some (.ok v [b', b])) : fCall [.r i, .t t] (noErr g) (aCons (fRef i) (aCons fx aNil)) ρ = some (.ok v (ρ.set i b')) := by
  rw [u_fCall]
  simp [h0, hx, u_noErr, hg]
theorem call_r1x {i : Nat} {g : M D} {fx : M D} {ρ : Env} {b b' : Option D} {x bv v : D} {t : Kind} (h0 : ρ[i]? = some (some bv)) (hx : fx ρ = some (.ok x ρ)) (hg : g [some bv, some x] = some (.ok v [b', b])) : fCall [.r i, .t t] g (aCons (fRef i) (aCons fx aNil)) ρ = some (.ok v (ρ.set i b')) := by
  rw [u_fCall]
  simp [h0, hx, hg]
theorem map_of {α : Type} {g : α → D} {p : α → Prop} : ∀ {vs : List D}, (∀ v ∈ vs, ∃ a, v = g a ∧ p a) → ∃ l : List α, vs = l.map g ∧ (∀ a ∈ l, p a) ∧ l.length = vs.length
  | [], _ => ⟨[], rfl, (fun _ h => by cases h), rfl⟩
  | v :: vs, h => by
    obtain ⟨a, e, q⟩ := h v List.mem_cons_self
    obtain ⟨l, e2, q2, l2⟩ := map_of (vs := vs) fun v hv => h v (List.mem_cons_of_mem _ hv)
    exact ⟨a :: l, by rw [e, e2]; rfl, fun b hb => by
      rcases List.mem_cons.mp hb with rfl | hb
      · exact q
      · exact q2 b hb, by simp [l2]⟩
end FN
/-! ### what laws share -/
namespace FNL
open PySem PySem.Spec PyProof.Rows L2 FN
noncomputable def b_bag : FN.Env → Option Fl :=
  (sSeq (sSet 2 (fIf (fTst (f2 (.t (.v true)) (.t (.v true)) dLt (fVar 1) (f1 (.r 0) dLen (fRef 0)))) (f2 (.t (.v true)) (.t (.v true)) dMod (f1 (.t (.v true)) dInt (f2 (.r 0) (.t (.v true)) dIx (fRef 0) (fVar 1))) (f2 (.t (.v true)) (.t (.v true)) dPow (fC (.int 10)) (fC (.int 60)))) (f2 (.t (.v true)) (.t (.v true)) dAdd (f2 (.t (.v true)) (.t (.v true)) dMul (fC (.int 41)) (fVar 1)) (fC (.int 7)))))
  (sRet (fLst (aCons (f2 (.t (.v true)) (.t (.v true)) dMax2 (fC (.int 0)) (f2 (.t (.v true)) (.t (.v true)) dSub (fVar 2) (f2 (.t (.v true)) (.t (.v true)) dPow (fC (.int 10)) (fC (.int 18))))) (aCons (f2 (.t (.v true)) (.t (.v true)) dAdd (f2 (.t (.v true)) (.t (.v true)) dMod (f1 (.t (.v true)) dInt (fVar 2)) (fC (.int 1000003))) (f2 (.t (.v true)) (.t (.v true)) dMul (fC (.int 31)) (fVar 1))) (aCons (fC (.int 0)) aNil))))))
noncomputable def m_bag : M D := runF [.scr, (.v true)] (.lst (.v true)) 1 b_bag
noncomputable def b_take : FN.Env → Option Fl :=
  (sSeq (sIf (fTst (f2 (.t (.v true)) (.t (.v true)) dGt (f2 (.r 0) (.t (.v true)) dIx (fRef 0) (fC (.int 0))) (fC (.int 0))))
  (sSeq (sSet 3 (f2 (.t (.v true)) (.t (.v true)) dMod (f1 (.t (.v true)) dInt (f2 (.r 0) (.t (.v true)) dIx (fRef 0) (fC (.int 0)))) (fVar 1)))
  (sSeq (sPut 0 (fC (.int 0)) (f2 (.t (.v true)) (.t (.v true)) dDiv (f2 (.r 0) (.t (.v true)) dIx (fRef 0) (fC (.int 0))) (fVar 1)))
  (sRet (fVar 3))))
  sNx)
  (sSeq (sPut 0 (fC (.int 2)) (f2 (.t (.v true)) (.t (.v true)) dAdd (f2 (.r 0) (.t (.v true)) dIx (fRef 0) (fC (.int 2))) (fC (.int 1))))
  (sSeq (sSet 2 (f2 (.t (.v true)) (.t (.v true)) dMod (f1 (.t (.v true)) dInt (f2 (.t (.v true)) (.t (.v true)) dAdd (f2 (.t (.v true)) (.t (.v true)) dPow (f2 (.t (.v true)) (.t (.v true)) dAdd (f2 (.r 0) (.t (.v true)) dIx (fRef 0) (fC (.int 1))) (f2 (.t (.v true)) (.t (.v true)) dMul (fC (.int 7919)) (f2 (.r 0) (.t (.v true)) dIx (fRef 0) (fC (.int 2))))) (fC (.int 3))) (f2 (.r 0) (.t (.v true)) dIx (fRef 0) (fC (.int 2))))) (f2 (.t (.v true)) (.t (.v true)) dAdd (f2 (.t (.v true)) (.t (.v true)) dPow (fC (.int 10)) (fC (.int 28))) (fC (.int 331)))))
  (sSeq (sSet 2 (f2 (.t (.v true)) (.t (.v true)) dMod (f1 (.t (.v true)) dInt (f2 (.t (.v true)) (.t (.v true)) dAdd (f2 (.t (.v true)) (.t (.v true)) dAdd (f2 (.t (.v true)) (.t (.v true)) dMul (fVar 2) (fVar 2)) (f2 (.t (.v true)) (.t (.v true)) dMul (fC (.int 104729)) (f2 (.r 0) (.t (.v true)) dIx (fRef 0) (fC (.int 1))))) (f2 (.r 0) (.t (.v true)) dIx (fRef 0) (fC (.int 2))))) (f2 (.t (.v true)) (.t (.v true)) dAdd (f2 (.t (.v true)) (.t (.v true)) dPow (fC (.int 10)) (fC (.int 27))) (fC (.int 103)))))
  (sRet (f2 (.t (.v true)) (.t (.v true)) dMod (f1 (.t (.v true)) dInt (f2 (.t (.v true)) (.t (.v true)) dDiv (fVar 2) (fC (.int 15485863)))) (fVar 1)))))))
noncomputable def m_take : M D := runF [(.lst (.v true)), (.v true)] (.v true) 2 b_take
noncomputable def b_one_of : FN.Env → Option Fl :=
  (sRet (f2 (.t (.v true)) (.t (.v true)) dIx (fVar 1) (fCall [.r 0, .t (.v true)] (noErr m_take) (aCons (fRef 0) (aCons (f1 (.t (.v true)) dLen (fVar 1)) aNil)))))
noncomputable def m_one_of : M D := runF [(.lst (.v true)), (.v true)] (.v true) 0 b_one_of
/-- what is drawn from, behind at most n mixed draws -/
def Bag (n : Nat) (d : FN.D) : Prop := ∃ a b c : Int, d = .list [.int a, .int b, .int c] ∧ 0 ≤ a ∧ a < 10 ^ 60 ∧ 0 ≤ b ∧ b ≤ 2000000 ∧ 0 ≤ c ∧ c ≤ n
theorem Bag.mono {n m : Nat} {d : FN.D} (h : Bag n d) (l : n ≤ m) : Bag m d := by
  obtain ⟨a, b, c, e, h1, h2, h3, h4, h5, h6⟩ := h
  exact ⟨a, b, c, e, h1, h2, h3, h4, h5, by omega⟩
theorem log_lt {i : Int} {k : Nat} (h : i.natAbs < 2 ^ k) (hk : 0 < k) : i.natAbs.log2 < k := by
  by_cases z : i.natAbs = 0
  · rw [z]; simpa using hk
  · exact (Nat.log2_lt z).mpr h
theorem ixN3 : ixN 3 0 = some 0 ∧ ixN 3 2 = some 2 := by decide
theorem mod_in (i j : Int) (h : 0 < j) : 0 ≤ i % j ∧ i % j < j := ⟨Int.emod_nonneg _ (by omega), Int.emod_lt_of_pos _ h⟩
theorem e_take {n : Nat} {bag : FN.D} {many : Int} (hb : Bag n bag) (hn : n ≤ 1000000) (h1 : 1 ≤ many) (h2 : many ≤ 2 ^ 62) : ∃ i bag', m_take [some bag, some (.int many)] = some (.ok (.int i) [some bag', none]) ∧ Bag (n + 1) bag' ∧ 0 ≤ i ∧ i < many := by
  obtain ⟨a, b, c, rfl, ha, ha2, hb1, hb2, hc1, hc2⟩ := hb
  have lm : many.natAbs.log2 < 9000 := Nat.lt_of_lt_of_le (log_lt (k := 63) (by omega) (by decide)) (by decide)
  by_cases hp : 0 < a
  · refine ⟨a % many, .list [.int (a / many), .int b, .int c], ?_, ⟨a / many, b, c, rfl, Int.ediv_nonneg ha (by omega), ?_, hb1, hb2, hc1, by omega⟩, (mod_in a many (by omega)).1, (mod_in a many (by omega)).2⟩
    · simp [m_take, u_runF, b_take, hp, dMod_ii (show 0 < many by omega), dDiv_ii (show 0 < many by omega) (show many < 2 ^ 8000 by omega), ixN3]
    · exact Int.lt_of_le_of_lt (Int.ediv_le_self _ ha) ha2
  · have ec : (b + 7919 * (c + 1)).natAbs < 2 ^ 64 := by omega
    have lc : Nat.log2 7919 + (c + 1).natAbs.log2 < 1000000 := by
      have := log_lt (i := c + 1) (k := 63) (by omega) (by decide)
      have : Nat.log2 7919 = 12 := by decide +kernel
      omega
    have lb : Nat.log2 104729 + b.natAbs.log2 < 1000000 := by
      have := log_lt (i := b) (k := 63) (by omega) (by decide)
      have : Nat.log2 104729 = 16 := by decide +kernel
      omega
    have m1 := mod_in ((b + 7919 * (c + 1)) ^ 3 + (c + 1)) 10000000000000000000000000331 (by decide)
    have l1 : (((b + 7919 * (c + 1)) ^ 3 + (c + 1)) % 10000000000000000000000000331).natAbs.log2 < 200 := log_lt (by omega) (by decide)
    have l2 : Nat.log2 15485863 < 9000 := by decide +kernel
    generalize e1 : ((b + 7919 * (c + 1)) ^ 3 + (c + 1)) % 10000000000000000000000000331 = x1 at m1 l1
    generalize e2 : ((x1 * x1 + 104729 * b + (c + 1)) % 1000000000000000000000000103) = x2
    refine ⟨(x2 / 15485863) % many, .list [.int a, .int b, .int (c + 1)], ?_, ⟨a, b, c + 1, rfl, ha, ha2, hb1, hb2, by omega, by omega⟩, (mod_in _ many (by omega)).1, (mod_in _ many (by omega)).2⟩
    have p28 : dPow (.int 10) (.int 28) = some (.int 10000000000000000000000000000) := by simp [dPow, oI]
    have p27 : dPow (.int 10) (.int 27) = some (.int 1000000000000000000000000000) := by simp [dPow, oI]
    have p3 : dPow (.int (b + 7919 * (c + 1))) (.int 3) = some (.int ((b + 7919 * (c + 1)) ^ 3)) := by simp [dPow, oI, ec]
    have md : ∀ i : Int, dMod (.int i) (.int 10000000000000000000000000331) = some (.int (i % 10000000000000000000000000331)) := fun i => dMod_ii (by decide)
    have md2 : ∀ i : Int, dMod (.int i) (.int 1000000000000000000000000103) = some (.int (i % 1000000000000000000000000103)) := fun i => dMod_ii (by decide)
    have dv : ∀ i : Int, dDiv (.int i) (.int 15485863) = some (.int (i / 15485863)) := fun i => dDiv_ii (by decide) (by decide)
    simp [m_take, u_runF, b_take, hp, dMod_ii (show 0 < many by omega), ixN3, dMul, lc, lb, p28, p27, p3, md, md2, dv, e1, e2, show x1.natAbs.log2 + x1.natAbs.log2 < 1000000 by omega]
theorem atI_in {α : Type} {xs : List α} {i : Int} (h0 : 0 ≤ i) (h1 : i < xs.length) : ∃ x, atI xs i = some x ∧ x ∈ xs := by
  have e : i = ((i.toNat : Nat) : Int) := by omega
  have hl : i.toNat < xs.length := by omega
  refine ⟨xs[i.toNat], ?_, List.getElem_mem hl⟩
  have := atI_nat xs i.toNat
  rw [← e] at this
  rw [this, List.getElem?_eq_getElem hl]
theorem e_one_of {n : Nat} {bag : FN.D} {ds : List FN.D} (hb : Bag n bag) (hn : n ≤ 1000000) (h1 : ds ≠ []) (h2 : ds.length ≤ 1000000) : ∃ d bag', m_one_of [some bag, some (.list ds)] = some (.ok d [some bag', none]) ∧ Bag (n + 1) bag' ∧ d ∈ ds := by
  have hl : 0 < ds.length := List.length_pos_iff.mpr h1
  obtain ⟨i, bag', e, b', i0, i1⟩ := e_take (many := (ds.length : Int)) hb hn (by omega) (by omega)
  obtain ⟨x, ex, hx⟩ := atI_in i0 i1
  refine ⟨x, bag', ?_, b', hx⟩
  have hbag : ∃ l, bag = .list l := by obtain ⟨a, b, c, e, _⟩ := hb; exact ⟨_, e⟩
  obtain ⟨l, rfl⟩ := hbag
  simp [m_one_of, u_runF, b_one_of, u_fCall, u_noErr, dLen, e, dIx, ex]
noncomputable def b_same (rec : M D) : FN.Env → Option Fl :=
  (sSeq (sIf (fTru (.t (.v true)) (f1b (.t (.v true)) (fun d => isTuple d || isList d) (fVar 1)))
  (sSeq (sIf (tOrF (fTst (f2 (.t (.v true)) (.t (.v true)) dNe (f1b (.t (.v true)) isTuple (fVar 1)) (f1b (.t (.v true)) isTuple (fVar 0)))) (fTst (f2 (.t (.v true)) (.t (.v true)) dNe (f1b (.t (.v true)) isList (fVar 1)) (f1b (.t (.v true)) isList (fVar 0)))))
  (sRet (fC (.bool false)))
  sNx)
  (sRet (fAnd (f2 (.t (.v true)) (.t (.v true)) dEq (f1 (.t (.v true)) dLen (fVar 0)) (f1 (.t (.v true)) dLen (fVar 1))) (f1 (.t (.v true)) dAll (fLc [2, 3] (iZip (fVar 0) (fVar 1)) (gTp (gsCons (gNm 2) (gsCons (gNm 3) gsNil))) tYesF (fCall [.t (.v true), .t (.v true)] (noErr rec) (aCons (fVar 2) (aCons (fVar 3) aNil))))))))
  sNx)
  (sSeq (sIf (tOrF (fTst (f2 (.t (.v true)) (.t (.v true)) dIs (fVar 1) (fC .none))) (fTru (.t (.v true)) (f1b (.t (.v true)) isBool (fVar 1))))
  (sRet (fIf (fTst (f2 (.t (.v true)) (.t (.v true)) dIs (fVar 1) (fC .none))) (f2 (.t (.v true)) (.t (.v true)) dIs (fVar 0) (fC .none)) (fAnd (f1b (.t (.v true)) isBool (fVar 0)) (f2 (.t (.v true)) (.t (.v true)) dEq (fVar 0) (fVar 1)))))
  sNx)
  (sSeq (sIf (tOrF (fTru (.t (.v true)) (f1b (.t (.v true)) isBool (fVar 0))) (fTst (f2 (.t (.v true)) (.t (.v true)) dNe (f1b (.t (.v true)) isInt (fVar 1)) (f1b (.t (.v true)) isInt (fVar 0)))))
  (sRet (fC (.bool false)))
  sNx)
  (sRet (fAnd (f2 (.t (.v true)) (.t (.v true)) dEq (f1b (.t (.v true)) isStr (fVar 1)) (f1b (.t (.v true)) isStr (fVar 0))) (f2 (.t (.v true)) (.t (.v true)) dEq (fVar 0) (fVar 1)))))))
noncomputable def m_same : Nat → M D
  | 0 => fun _ => none
  | n + 1 => runF [(.v true), (.v true)] (.v true) 2 (b_same (m_same n))
theorem zip_self (ds : List FN.D) : zipD ds ds = ds.map fun d => .tuple [d, d] := by
  unfold zipD
  induction ds with
  | nil => rfl
  | cons d ds ih => rw [List.zip_cons_cons, List.map_cons, List.map_cons, ih]
theorem okD_mono : ∀ {n : Nat} {d : FN.D}, okD n d = true → okD (n + 1) d = true
  | n, .none, _ => by unfold okD; rfl
  | n, .bool _, _ => by unfold okD; rfl
  | n, .int _, _ => by unfold okD; rfl
  | n, .str x, h => by unfold okD at h ⊢; exact h
  | n + 1, .list ds, h => by
    unfold okD at h ⊢
    rw [List.all_eq_true] at h ⊢
    exact fun d hd => okD_mono (h d hd)
  | n + 1, .tuple ds, h => by
    unfold okD at h ⊢
    rw [List.all_eq_true] at h ⊢
    exact fun d hd => okD_mono (h d hd)
  | 0, .list ds, h => by unfold okD at h; cases h
  | 0, .tuple ds, h => by unfold okD at h; cases h
  | n, .dict _, h => by unfold okD at h; cases h
/-- data of the depth n at most, no list of it too long -/
def smD : Nat → FN.D → Bool
  | _, .none => true
  | _, .bool _ => true
  | _, .int _ => true
  | _, .str x => PyData.strOk x
  | n + 1, .list ds => decide (ds.length ≤ 1000000) && ds.all (smD n)
  | n + 1, .tuple ds => decide (ds.length ≤ 1000000) && ds.all (smD n)
  | _, _ => false
theorem smD_mono : ∀ {n : Nat} {d : FN.D}, smD n d = true → smD (n + 1) d = true
  | n, .none, _ => by unfold smD; rfl
  | n, .bool _, _ => by unfold smD; rfl
  | n, .int _, _ => by unfold smD; rfl
  | n, .str x, h => by unfold smD at h ⊢; exact h
  | n + 1, .list ds, h => by
    unfold smD at h ⊢
    rw [Bool.and_eq_true, List.all_eq_true] at h ⊢
    exact ⟨h.1, fun d hd => smD_mono (h.2 d hd)⟩
  | n + 1, .tuple ds, h => by
    unfold smD at h ⊢
    rw [Bool.and_eq_true, List.all_eq_true] at h ⊢
    exact ⟨h.1, fun d hd => smD_mono (h.2 d hd)⟩
  | 0, .list ds, h => by unfold smD at h; cases h
  | 0, .tuple ds, h => by unfold smD at h; cases h
  | n, .dict _, h => by unfold smD at h; cases h
theorem smD_le {n m : Nat} {d : FN.D} (h : smD n d = true) (l : n ≤ m) : smD m d = true := by
  induction l with
  | refl => exact h
  | step _ ih => exact smD_mono ih
theorem dAll_true {α : Type} (l : List α) : dAll (.list (l.map fun _ => .bool true)) = some (.bool true) := by
  rw [dAll_map (fun _ => true) l]
  simp
theorem same_lc {n : Nat} {x y : Option FN.D} {ds : List FN.D} {fi : M (List FN.D)} (hl : ds.length ≤ 1000000) (hi : fi [x, y, none, none] = some (.ok (zipD ds ds) [x, y, none, none])) (h : ∀ d ∈ ds, m_same n [some d, some d] = some (.ok (.bool true) [none, none])) : fLc [2, 3] fi (gTp (gsCons (gNm 2) (gsCons (gNm 3) gsNil))) tYesF (fCall [.t (.v true), .t (.v true)] (noErr (m_same n)) (aCons (fVar 2) (aCons (fVar 3) aNil))) [x, y, none, none] = some (.ok (.list (ds.map fun _ => .bool true)) [x, y, none, none]) := by
  rw [lc_all (ds := zipD ds ds) (ρw := [x, y, none, none]) (fun _ => .bool true) (by rw [zip_self, List.length_map]; unfold sizeLine; omega) hi rfl ?_]
  · rw [zip_self, List.map_map]
    rfl
  · intro d hd
    rw [zip_self] at hd
    obtain ⟨e, he, rfl⟩ := List.mem_map.mp hd
    refine ⟨[x, y, some e, some e], [x, y, some e, some e], ?_, ?_, rfl⟩
    · simp [gsCons]
    · simp [u_fCall, u_noErr, h e he]
theorem e_same : ∀ (n : Nat) (d : FN.D), smD n d = true → m_same (n + 1) [some d, some d] = some (.ok (.bool true) [none, none])
  | n, .none, _ => by simp [m_same, u_runF, b_same, isTuple, FN.isList, dIs, isNone, isBool]
  | n, .bool b, _ => by cases b <;> simp [m_same, u_runF, b_same, isTuple, FN.isList, dIs, isNone, isBool]
  | n, .int i, _ => by simp [m_same, u_runF, b_same, isTuple, FN.isList, dIs, isNone, isBool, FN.isInt, isStr]
  | n, .str x, h => by
    unfold smD at h
    simp [m_same, u_runF, b_same, isTuple, FN.isList, dIs, isNone, isBool, FN.isInt, isStr, dEq_ss h h]
  | n + 1, .list ds, h => by
    unfold smD at h
    rw [Bool.and_eq_true, List.all_eq_true] at h
    have ih := same_lc (n := n + 1) (x := some (.list ds)) (y := some (.list ds)) (ds := ds) (fi := iZip (fVar 0) (fVar 1)) (of_decide_eq_true h.1) (by simp) fun d hd => e_same n d (h.2 d hd)
    rw [m_same, u_runF, b_same]
    simp [isTuple, FN.isList, dIs, isNone, isBool, FN.isInt, isStr, dLen, ih, dAll_true]
  | n + 1, .tuple ds, h => by
    unfold smD at h
    rw [Bool.and_eq_true, List.all_eq_true] at h
    have ih := same_lc (n := n + 1) (x := some (.tuple ds)) (y := some (.tuple ds)) (ds := ds) (fi := iZip (fVar 0) (fVar 1)) (of_decide_eq_true h.1) (by simp) fun d hd => e_same n d (h.2 d hd)
    rw [m_same, u_runF, b_same]
    simp [isTuple, FN.isList, dIs, isNone, isBool, FN.isInt, isStr, dLen, ih, dAll_true]
  | 0, .list ds, h => by unfold smD at h; cases h
  | 0, .tuple ds, h => by unfold smD at h; cases h
  | n, .dict _, h => by unfold smD at h; cases h
/-- a comprehension over a range that draws an item a turn -/
theorem lc_draw {i : Nat} {fi : M (List FN.D)} {ρ0 ρ : FN.Env} {bag : FN.D} {ds its : List FN.D} {n : Nat} {t : FN.Kind} {fs : M FN.D} (hi0 : i ≠ 0) (hb : Bag n bag) (h0 : ρ[0]? = some (some bag)) (hfs : ∀ b d, fs (((ρ.set 0 (some b)).set i none).set i (some d)) = some (.ok (.list its) (((ρ.set 0 (some b)).set i none).set i (some d)))) (hfi : fi ρ0 = some (.ok ds ρ)) (hn : n + ds.length ≤ 1000000) (h1 : its ≠ []) (h2 : its.length ≤ 1000000) : ∃ vs bag', fLc [i] fi (gNm i) tYesF (fCall [.r 0, .t t] (noErr m_one_of) (aCons (fRef 0) (aCons fs aNil))) ρ0 = some (.ok (.list vs) ((ρ.set 0 (some bag')).set i none)) ∧ vs.length = ds.length ∧ (∀ v ∈ vs, v ∈ its) ∧ Bag (n + ds.length) bag' := by
  have l0 : 0 < ρ.length := (List.getElem?_eq_some_iff.mp h0).1
  have e0 : ρ.set 0 (some bag) = ρ := List.ext_getElem? fun j => by
    rw [List.getElem?_set]
    by_cases z : 0 = j
    · subst z
      rw [if_pos rfl, if_pos l0, h0]
    · rw [if_neg z]
  obtain ⟨vs, ρ', e, l, p, bag', rfl, hb'⟩ := lc_inv (i := i) (fi := fi) (fe := fCall [.r 0, .t t] (noErr m_one_of) (aCons (fRef 0) (aCons fs aNil))) (ds := ds) (fun k ρ' => ∃ bag', ρ' = (ρ.set 0 (some bag')).set i none ∧ Bag (n + k) bag') (fun v => v ∈ its) (by unfold sizeLine; omega) hfi ⟨bag, by rw [e0], by simpa using hb⟩ (fun k d ρ1 hk hg => by
    obtain ⟨b1, rfl, hb1⟩ := hg
    have hk2 : k < ds.length := (List.getElem?_eq_some_iff.mp hk).1
    obtain ⟨v, b2, ev, hb2, hv⟩ := e_one_of hb1 (by omega) h1 h2
    refine ⟨v, _, call_r1 (b := none) (bv := b1) ?_ (hfs b1 d) ev, hv, b2, ?_, hb2⟩
    · rw [List.set_set, List.getElem?_set, if_neg hi0, List.getElem?_set, if_pos rfl, if_pos l0]
    · rw [List.set_set, List.set_comm _ _ hi0, List.set_set, List.set_set])
  exact ⟨vs, bag', e, l, p, hb'⟩
theorem atI_ints (ns : List Int) (k : Int) (h0 : 0 ≤ k) (h1 : k < ns.length) : ∃ i, atI (ns.map PyData.int) k = some (.int i) := by
  obtain ⟨x, e, hx⟩ := atI_in (xs := ns.map PyData.int) h0 (by rw [List.length_map]; exact h1)
  obtain ⟨i, _, rfl⟩ := List.mem_map.mp hx
  exact ⟨i, e⟩
theorem p60 : dPow (.int 10) (.int 60) = some (.int (10 ^ 60)) := by simp [dPow, oI]
theorem p18 : dPow (.int 10) (.int 18) = some (.int (10 ^ 18)) := by simp [dPow, oI]
theorem e_bag (ns : List Int) (k : Int) (h0 : 0 ≤ k) (h1 : k ≤ 100) : ∃ bag, m_bag [some (.list (ns.map .int)), some (.int k)] = some (.ok bag [some (.list (ns.map .int)), none]) ∧ Bag 0 bag := by
  have l41 : Nat.log2 41 + k.natAbs.log2 < 1000000 := by
    have := log_lt (i := k) (k := 63) (by omega) (by decide)
    have : Nat.log2 41 = 5 := by decide +kernel
    omega
  have l31 : Nat.log2 31 + k.natAbs.log2 < 1000000 := by
    have := log_lt (i := k) (k := 63) (by omega) (by decide)
    have : Nat.log2 31 = 4 := by decide +kernel
    omega
  have d60 : ∀ i : Int, dMod (.int i) (.int (10 ^ 60)) = some (.int (i % 10 ^ 60)) := fun i => dMod_ii (by decide)
  have d1m : ∀ i : Int, dMod (.int i) (.int 1000003) = some (.int (i % 1000003)) := fun i => dMod_ii (by decide)
  have key : ∃ cell : Int, 0 ≤ cell ∧ cell < 10 ^ 60 ∧ (fIf (fTst (f2 (.t (.v true)) (.t (.v true)) dLt (fVar 1) (f1 (.r 0) dLen (fRef 0)))) (f2 (.t (.v true)) (.t (.v true)) dMod (f1 (.t (.v true)) dInt (f2 (.r 0) (.t (.v true)) dIx (fRef 0) (fVar 1))) (f2 (.t (.v true)) (.t (.v true)) dPow (fC (.int 10)) (fC (.int 60)))) (f2 (.t (.v true)) (.t (.v true)) dAdd (f2 (.t (.v true)) (.t (.v true)) dMul (fC (.int 41)) (fVar 1)) (fC (.int 7)))) [some (.list (ns.map .int)), some (.int k), none] = some (.ok (.int cell) [some (.list (ns.map .int)), some (.int k), none]) := by
    by_cases h : k < ns.length
    · obtain ⟨i, e⟩ := atI_ints ns k h0 h
      have m := mod_in i (10 ^ 60) (by decide)
      refine ⟨i % 10 ^ 60, m.1, m.2, ?_⟩
      rw [u_fIf, u_fTst, u_f2]
      simp only [u_fVar, List.getElem?_cons_succ, List.getElem?_cons_zero, u_ok, u_f1, u_fRef, u_rdr, u_rdv, dLen_l, Option.map_some, dLt_ii, List.length_map, decide_eq_true h, if_true]
      rw [u_f2, u_f1, u_f2]
      simp only [u_fVar, List.getElem?_cons_succ, List.getElem?_cons_zero, u_ok, u_fRef, u_rdr, u_rdv, dIx_l, e, Option.map_some, dInt_i, u_f2, u_fC, p60, d60]
    · refine ⟨41 * k + 7, by omega, by omega, ?_⟩
      simp [h, dMul, l41]
  obtain ⟨cell, c0, c1, ec⟩ := key
  have m := mod_in cell 1000003 (by decide)
  refine ⟨.list [.int (if cell - 10 ^ 18 > 0 then cell - 10 ^ 18 else 0), .int (cell % 1000003 + 31 * k), .int 0], ?_, _, _, _, rfl, by split <;> omega, by split <;> omega, by omega, by omega, by omega, by omega⟩
  rw [m_bag, u_runF, b_bag]
  simp only [List.replicate, List.cons_append, List.nil_append]
  rw [u_sSeq, u_sSet, ec]
  simp only [u_ok, List.set_cons_zero, List.set_cons_succ]
  rw [u_sRet, u_fLst, u_aCons, u_f2]
  simp only [u_fC, u_ok, u_f2, u_fVar, List.getElem?_cons_succ, List.getElem?_cons_zero, u_rdv, p18, Option.map_some, dSub_ii, dMax2_ii, u_aCons, u_f1, dInt_i, d1m, dMul, dAdd_ii]
  simp [l31, sizeLine]
end FNL
set_option Elab.async false
set_option linter.all false
set_option maxRecDepth 100000
set_option maxHeartbeats 4000000
/-! FN21: dicts. -/
namespace L2
open PySem PySem.Spec PyProof.Rows
/-- {k: v}, k a tracked tuple -/
def tDispT (tk tv : TE) : TE := fun σ H Q => ∀ p, H p = none → tk σ (upd H p (.dT [])) fun x H1 => tv σ H1 fun y H2 => H2 p = some (.dT []) ∧ ∃ (b : Addr) (ks : List Key), x = .ref b ∧ H2 b = some (.tup (ks.map kV)) ∧ Q (.ref p) (upd H2 p (.dT [(ks, y)]))
theorem pe_dispT {X : Cx} {pos : Pos} {k v : Expr} {tk tv : TE} (hu : X.A.units + 2 < cLine) (hk : PE X k tk) (hv : PE X v tv) : PE X (.Dict [some k] [v] pos) (tDispT tk tv) := by
  refine ⟨fun pins s σ H Q I q => ?_⟩
  have hn := I.hok.fresh (Nat.le_refl s.heap.objs.size)
  have I1 := I.laid (a := s.heap.objs.size) (o := .dT []) (h' := s.heap.push { cls := .type "dict", data := .dict #[] }) (t' := s.toks) (fun _ _ q => Heap.get?_push_of_some _ q) (Nat.le_refl _) (dt_empty s.heap I.big)
  rw [arm_eval_Dict, zip_pairTrees [some k] [v] X.env pos rfl rfl, dictDisplay_pairs _ (by intro z; cases z) (by rw [pairTrees_length [some k] [v] X.env pos rfl rfl, List.length_singleton]; decide)]
  refine wpAny_bind (wpAny_standAt (wpAny_bind (wpAny_subDictH (knd := tupleKind (mixKind X.prog X.w)) (Q := fun d s' => wpAny (model X.prog X.w) X.A (pure (Value.ref d)) _ X.xe s') (show X.A.units < cLine by omega) (by rw [pairTrees_length [some k] [v] X.env pos rfl rfl, List.length_singleton]; decide) ?_)))
  · refine pairTrees_cons_walk (thn (hk.run pins _ σ _ _ I1 (q _ hn)) fun u s1 ⟨x, H1, I2, rx, q1⟩ => thn (hv.run pins s1 σ H1 _ I2 q1) fun r s2 ⟨y, H2, I3, ry, e, b, ks, ex, eb, q2⟩ => pairTrees_nil_walk ?_)
    subst ex
    obtain rfl : u = Value.ref b := rx
    obtain ⟨z, hd, xs, rel, dd⟩ := dt_of I3.hok e
    have hx : xs = [] := by cases rel; rfl
    subst hx
    refine ⟨[(ks, b, r)], ⟨rfl, rfl, key_of I3.hok eb, True.intro⟩, dd, fun h' tk dd' hs => wpAny_pure ⟨.ref s.heap.objs.size, _, ?_, rfl, q2⟩⟩
    obtain ⟨o, es, ep, hq, h2, h3, h4, _, h5⟩ := dd'
    refine d_write I3 (by rw [e]; exact True.intro) hs ⟨o, hq⟩ ⟨by rw [List.length_singleton]; unfold sizeLine; omega, hd, _, .cons ⟨rfl, ?_, ry⟩ .nil, o, es, ep, hq, h2, h3, h4, h5⟩
    rw [upd_ne (ne_of eb e (fun z => nomatch z))]
    exact eb
end L2
namespace FN
open PySem PySem.Spec PyProof.Rows L2
/-! ### keys -/
def kk : D → Option Key
  | .int i => some (.inl i)
  | .str x => some (.inr x)
  | _ => none
def tkey : List D → Option (List Key)
  | [] => some []
  | d :: ds => match kk d, tkey ds with
    | some k, some ks => some (k :: ks)
    | _, _ => none
/-- the key that a datum is: t: of a dict with tuples as keys -/
def keyOf (t : Bool) (d : D) : Option (List Key) := match t with
  | true => match d with
    | .tuple ds => tkey ds
    | _ => none
  | false => (kk d).map fun k => [k]
theorem kk_kD (k : Key) : kk (kD k) = some k := by cases k <;> rfl
theorem kk_some {d : D} {k : Key} (h : kk d = some k) : d = kD k := by
  unfold kk at h
  split at h <;> cases h <;> rfl
theorem tkey_kD : ∀ ks : List Key, tkey (ks.map kD) = some ks
  | [] => rfl
  | k :: ks => by
    rw [List.map_cons]
    unfold tkey
    rw [kk_kD, tkey_kD ks]
theorem tkey_some : ∀ {ds : List D} {ks : List Key}, tkey ds = some ks → ds = ks.map kD
  | [], ks, h => by cases h; rfl
  | d :: ds, ks, h => by
    unfold tkey at h
    split at h
    · rename_i k ks' e1 e2
      cases h
      rw [List.map_cons, ← kk_some e1, ← tkey_some e2]
    · cases h
def dlook (t : Bool) : List (D × D) → List Key → Option D
  | [], _ => none
  | p :: r, k => if keyOf t p.1 = some k then some p.2 else dlook t r k
def dput (t : Bool) (ps : List (D × D)) (kd : D) (k : List Key) (v : D) : List (D × D) := if (dlook t ps k).isSome = true then ps.map (fun p => if keyOf t p.1 = some k then (p.1, v) else p) else ps ++ [(kd, v)]
def DV (t b : Bool) (K : PySem.W.Frag) (F : Hp) (o : HO) (ps : List (D × D)) : Prop := match t with
  | true => ∃ kvs, o = .dT kvs ∧ RKT b K F kvs ps
  | false => ∃ kvs, o = .dK kvs ∧ RKK b K F kvs ps
theorem DV.mono {t b : Bool} {K : PySem.W.Frag} {F F' : Hp} {o : HO} {ps : List (D × D)} (e : Same F F') (h : DV t b K F o ps) : DV t b K F' o ps := by
  cases t with
  | true => obtain ⟨kvs, e1, r⟩ := h; exact ⟨kvs, e1, r.mono e⟩
  | false => obtain ⟨kvs, e1, r⟩ := h; exact ⟨kvs, e1, r.mono e⟩
inductive OptR (b : Bool) (K : PySem.W.Frag) (F : Hp) : Option V → Option D → Prop
  | none : OptR b K F none none
  | some {v : V} {d : D} : RD b K F v d → OptR b K F (some v) (some d)
section
variable {b : Bool} {K : PySem.W.Frag} {F H : Hp}
theorem rds_keys : ∀ {xs : List V} {ks : List Key} {c : Bool}, RDs c K F xs (ks.map kD) → xs = ks.map kV
  | [], [], _, _ => rfl
  | [], _ :: _, _, h => by cases h
  | _ :: _, [], _, h => by cases h
  | x :: xs, k :: ks, _, h => by
    rw [List.map_cons] at h ⊢
    cases h with
    | cons h t =>
      rw [rds_keys t]
      congr 1
      cases k with
      | inl i => exact dp_int h.dp
      | inr i => exact dp_str h.dp
/-- the value of a key's datum -/
def KeyV (t : Bool) (H : Hp) (y : V) (ks : List Key) : Prop := match t with
  | true => ∃ a, y = .ref a ∧ H a = some (.tup (ks.map kV))
  | false => ∃ k, ks = [k] ∧ y = kV k
theorem keyV_of {t c : Bool} {y : V} {d : D} {ks : List Key} (hc : c = false ∨ t = false) (r : RD c K F y d) (s : Same F H) (h : keyOf t d = some ks) : KeyV t H y ks := by
  cases t with
  | true =>
    have hc : c = false := hc.resolve_right (by decide)
    subst hc
    unfold keyOf at h
    dsimp only at h
    split at h
    · rename_i ds
      have e := tkey_some h
      subst e
      cases r with
      | tup h1 t1 => exact ⟨_, rfl, by rw [← rds_keys t1]; exact s _ _ h1⟩
      | con z _ _ => cases z
    · cases h
  | false =>
    obtain ⟨k, e, rfl⟩ := Option.map_eq_some_iff.mp h
    have := kk_some e
    subst this
    refine ⟨k, rfl, ?_⟩
    cases k with
    | inl i => exact dp_int r.dp
    | inr i => exact dp_str r.dp
theorem rkt_look : ∀ {kvs : List (List Key × V)} {ps : List (D × D)}, RKT b K F kvs ps → ∀ ks, OptR b K F (valV kvs ks) (dlook true ps ks)
  | _, _, .nil, ks => .none
  | _, _, @RKT.cons _ _ _ k v d kvs ps r t, ks => by
    have e : keyOf true (.tuple (k.map kD)) = some k := tkey_kD k
    unfold dlook
    dsimp only
    rw [e]
    by_cases z : k = ks
    · rw [if_pos (by rw [z]), valV_pos z]
      exact .some r
    · rw [if_neg (fun y => z (Option.some.inj y)), valV_neg z]
      exact rkt_look t ks
theorem rkk_look : ∀ {kvs : List (Key × V)} {ps : List (D × D)}, RKK b K F kvs ps → ∀ k, OptR b K F (valV kvs k) (dlook false ps [k])
  | _, _, .nil, ks => .none
  | _, _, @RKK.cons _ _ _ k v d kvs ps r t, ks => by
    have e : keyOf false (kD k) = some [k] := by show (kk (kD k)).map _ = _; rw [kk_kD]; rfl
    unfold dlook
    dsimp only
    rw [e]
    by_cases z : k = ks
    · rw [if_pos (by rw [z]), valV_pos z]
      exact .some r
    · rw [if_neg (fun y => z (by injection y with y; injection y)), valV_neg z]
      exact rkk_look t ks
theorem rkt_len : ∀ {kvs : List (List Key × V)} {ps : List (D × D)}, RKT b K F kvs ps → kvs.length = ps.length
  | _, _, .nil => rfl
  | _, _, .cons _ t => by rw [List.length_cons, List.length_cons, rkt_len t]
theorem rkk_len : ∀ {kvs : List (Key × V)} {ps : List (D × D)}, RKK b K F kvs ps → kvs.length = ps.length
  | _, _, .nil => rfl
  | _, _, .cons _ t => by rw [List.length_cons, List.length_cons, rkk_len t]
theorem rkt_app : ∀ {kvs kvs' : List (List Key × V)} {ps ps' : List (D × D)}, RKT b K F kvs ps → RKT b K F kvs' ps' → RKT b K F (kvs ++ kvs') (ps ++ ps')
  | _, _, _, _, .nil, t => t
  | _, _, _, _, .cons h s, t => .cons h (rkt_app s t)
theorem rkk_app : ∀ {kvs kvs' : List (Key × V)} {ps ps' : List (D × D)}, RKK b K F kvs ps → RKK b K F kvs' ps' → RKK b K F (kvs ++ kvs') (ps ++ ps')
  | _, _, _, _, .nil, t => t
  | _, _, _, _, .cons h s, t => .cons h (rkk_app s t)
theorem rkt_map {v : V} {d : D} {ks : List Key} (r : RD b K F v d) : ∀ {kvs : List (List Key × V)} {ps : List (D × D)}, RKT b K F kvs ps → RKT b K F (kvs.map fun kv => if kv.1 = ks then (kv.1, v) else kv) (ps.map fun p => if keyOf true p.1 = some ks then (p.1, d) else p)
  | _, _, .nil => .nil
  | _, _, @RKT.cons _ _ _ k v' d' kvs ps r' t => by
    have e : keyOf true (.tuple (k.map kD)) = some k := tkey_kD k
    rw [List.map_cons, List.map_cons]
    dsimp only
    rw [e]
    by_cases z : k = ks
    · rw [if_pos z, if_pos (by rw [z])]
      exact .cons r (rkt_map r t)
    · rw [if_neg z, if_neg (fun y => z (Option.some.inj y))]
      exact .cons r' (rkt_map r t)
theorem rkk_map {v : V} {d : D} {k0 : Key} (r : RD b K F v d) : ∀ {kvs : List (Key × V)} {ps : List (D × D)}, RKK b K F kvs ps → RKK b K F (kvs.map fun kv => if kv.1 = k0 then (kv.1, v) else kv) (ps.map fun p => if keyOf false p.1 = some [k0] then (p.1, d) else p)
  | _, _, .nil => .nil
  | _, _, @RKK.cons _ _ _ k v' d' kvs ps r' t => by
    have e : keyOf false (kD k) = some [k] := by show (kk (kD k)).map _ = _; rw [kk_kD]; rfl
    rw [List.map_cons, List.map_cons]
    dsimp only
    rw [e]
    by_cases z : k = k0
    · rw [if_pos z, if_pos (by rw [z])]
      exact .cons r (rkk_map r t)
    · rw [if_neg z, if_neg (fun y => z (by injection y with y; injection y))]
      exact .cons r' (rkk_map r t)
theorem OptR.some_iff {o : Option V} {o' : Option D} (h : OptR b K F o o') : o.isSome = o'.isSome := by cases h <;> rfl
theorem rkt_put {kvs : List (List Key × V)} {ps : List (D × D)} (h : RKT b K F kvs ps) {ks : List Key} {kd d : D} {v : V} (hk : keyOf true kd = some ks) (r : RD b K F v d) : RKT b K F (putK kvs ks v) (dput true ps kd ks d) := by
  unfold putK dput
  rw [valV_any, (rkt_look h ks).some_iff]
  by_cases z : (dlook true ps ks).isSome = true
  · rw [if_pos z, if_pos z]
    exact rkt_map r h
  · rw [if_neg z, if_neg z]
    have : kd = .tuple (ks.map kD) := by
      unfold keyOf at hk
      dsimp only at hk
      split at hk
      · rw [tkey_some hk]
      · cases hk
    rw [this]
    exact rkt_app h (.cons r .nil)
theorem rkk_put {kvs : List (Key × V)} {ps : List (D × D)} (h : RKK b K F kvs ps) {k : Key} {kd d : D} {v : V} (hk : keyOf false kd = some [k]) (r : RD b K F v d) : RKK b K F (putK kvs k v) (dput false ps kd [k] d) := by
  unfold putK dput
  rw [valV_any, (rkk_look h k).some_iff]
  by_cases z : (dlook false ps [k]).isSome = true
  · rw [if_pos z, if_pos z]
    exact rkk_map r h
  · rw [if_neg z, if_neg z]
    have : kd = kD k := by
      obtain ⟨k', e, y⟩ := Option.map_eq_some_iff.mp hk
      cases y
      exact kk_some e
    rw [this]
    exact rkk_app h (.cons r .nil)
theorem dget_ok {t : Bool} {o : HO} {ps : List (D × D)} {a : Addr} {y : V} {ks : List Key} (hd : DV t b K F o ps) (e : H a = some o) (hy : KeyV t H y ks) : ∃ r, DGet H a y r ∧ OptR b K F r (dlook t ps ks) := by
  cases t with
  | true =>
    obtain ⟨kvs, rfl, r⟩ := hd
    obtain ⟨c, rfl, ec⟩ := hy
    exact ⟨_, .inr ⟨kvs, ks, c, .inl e, rfl, ec, rfl⟩, rkt_look r ks⟩
  | false =>
    obtain ⟨kvs, rfl, r⟩ := hd
    obtain ⟨k, rfl, rfl⟩ := hy
    exact ⟨_, .inl ⟨kvs, k, .inl e, rfl, rfl⟩, rkk_look r k⟩
theorem dput_ok {t : Bool} {o : HO} {ps : List (D × D)} {a : Addr} {y v : V} {kd d : D} {ks : List Key} (hd : DV t b K F o ps) (e : H a = some o) (hy : KeyV t H y ks) (hk : keyOf t kd = some ks) (hl : ps.length < sizeLine) (r : RD b K F v d) : ∃ o', DPut H a y v (upd H a o') ∧ DV t b K F o' (dput t ps kd ks d) := by
  cases t with
  | true =>
    obtain ⟨kvs, rfl, rr⟩ := hd
    obtain ⟨c, rfl, ec⟩ := hy
    exact ⟨_, .inr ⟨kvs, ks, c, e, rfl, ec, by rw [rkt_len rr]; exact hl, rfl⟩, _, rfl, rkt_put rr hk r⟩
  | false =>
    obtain ⟨kvs, rfl, rr⟩ := hd
    obtain ⟨k, rfl, rfl⟩ := hy
    exact ⟨_, .inl ⟨kvs, k, e, rfl, by rw [rkk_len rr]; exact hl, rfl⟩, _, rfl, rkk_put rr hk r⟩
theorem isD_of {t : Bool} {o : HO} {ps : List (D × D)} {a : Addr} (hd : DV t b K F o ps) (e : H a = some o) : IsD H a := by
  cases t with
  | true => obtain ⟨kvs, rfl, _⟩ := hd; exact .inr ⟨kvs, .inl e⟩
  | false => obtain ⟨kvs, rfl, _⟩ := hd; exact .inl ⟨kvs, .inl e⟩
end
end FN
namespace FN
open PySem PySem.Spec PyProof.Rows L2
/-- the slot's dict is owned -/
def dictK (t b : Bool) : Option Kind → Prop
  | some (.dT c) => (true, c) = (t, b)
  | some (.dK c) => (false, c) = (t, b)
  | some (.fix _ (.dT c)) => (true, c) = (t, b)
  | some (.fix _ (.dK c)) => (false, c) = (t, b)
  | _ => False
theorem od_dictE {t b : Bool} {K : PySem.W.Frag} {F H : Hp} {k : Kind} {v : V} {ps : List (D × D)} {f : FpS} (hk : dictK t b (some k)) (o : OD K F H k v (.dict ps) f) : ∃ a ob, v = .ref a ∧ H a = some ob ∧ f a ∧ DV t b K F ob ps := by
  unfold dictK at hk
  split at hk
  · rename_i c e
    cases e
    cases hk
    obtain ⟨a, kvs, ps', e1, e2, e3, h1, r⟩ := o
    cases e2
    exact ⟨a, _, e1, e3, h1, kvs, rfl, r⟩
  · rename_i c e
    cases e
    cases hk
    obtain ⟨a, kvs, ps', e1, e2, e3, h1, r⟩ := o
    cases e2
    exact ⟨a, _, e1, e3, h1, kvs, rfl, r⟩
  · rename_i u c e
    cases e
    cases hk
    obtain ⟨a, kvs, ps', e1, e2, e3, h1, r⟩ := (show OD K F H (.dT _) v (.dict ps) f from o)
    cases e2
    exact ⟨a, _, e1, e3, h1, kvs, rfl, r⟩
  · rename_i u c e
    cases e
    cases hk
    obtain ⟨a, kvs, ps', e1, e2, e3, h1, r⟩ := (show OD K F H (.dK _) v (.dict ps) f from o)
    cases e2
    exact ⟨a, _, e1, e3, h1, kvs, rfl, r⟩
  · exact hk.elim
theorem od_dictI {t b : Bool} {K : PySem.W.Frag} {F H : Hp} {k : Kind} {a : Addr} {ob : HO} {ps : List (D × D)} {f : FpS} (hk : dictK t b (some k)) (e : H a = some ob) (h : f a) (d : DV t b K F ob ps) : OD K F H k (.ref a) (.dict ps) f := by
  unfold dictK at hk
  split at hk
  · rename_i c ek
    cases ek
    cases hk
    obtain ⟨kvs, rfl, r⟩ := d
    exact ⟨a, kvs, ps, rfl, rfl, e, h, r⟩
  · rename_i c ek
    cases ek
    cases hk
    obtain ⟨kvs, rfl, r⟩ := d
    exact ⟨a, kvs, ps, rfl, rfl, e, h, r⟩
  · rename_i u c ek
    cases ek
    cases hk
    obtain ⟨kvs, rfl, r⟩ := d
    exact show OD K F H (.dT _) _ _ _ from ⟨a, kvs, ps, rfl, rfl, e, h, r⟩
  · rename_i u c ek
    cases ek
    cases hk
    obtain ⟨kvs, rfl, r⟩ := d
    exact show OD K F H (.dK _) _ _ _ from ⟨a, kvs, ps, rfl, rfl, e, h, r⟩
  · exact hk.elim
theorem own_dict {K : PySem.W.Frag} {t b : Bool} {κ : List Kind} {ρ : Env} {σ : L2.St} {w : Wd} {i : Nat} {ps : List (D × D)} (rel : Rel K κ ρ σ w) (hk : dictK t b κ[i]?) (ed : ρ[i]? = some (some (.dict ps))) :
    ∃ a ob, σ[i]? = some (some (.ref a)) ∧ w.H a = some ob ∧ DV t b K w.F ob ps ∧ ∀ ob' ps', DV t b K w.F ob' ps' → ∃ w', w'.H = upd w.H a ob' ∧ w'.F = w.F ∧ Rel K κ (ρ.set i (some (.dict ps'))) σ w' ∧ Ext w w' := by
  obtain ⟨k, ek⟩ := kind_at rel ed
  rw [ek] at hk
  obtain ⟨v, f, g, ev, o, s, y1, y2, y3⟩ := rel.slots.out ed ek
  have hi : i < σ.length := (List.getElem?_eq_some_iff.mp ev).1
  obtain ⟨a, ob, rfl, eH, ga, dv⟩ := od_dictE hk o
  refine ⟨a, ob, ev, eH, dv, fun ob' ps' r' => ?_⟩
  have nF : w.F a = none := rel.frz a (y2 a ga)
  have ne : ∀ x, g x → x ≠ a := fun x h z => y1 a ga (by rw [← z]; exact h)
  have s' : Slots K w.F (upd w.H a ob') κ (ρ.set i none) σ g := s.frame (Same.refl _) fun x o h q => by rw [upd_ne (ne x h)]; exact q
  have o' : OD K w.F (upd w.H a ob') k (.ref a) (.dict ps') (fun x => x = a) := od_dictI hk upd_same rfl r'
  have p := s'.put hi o' (fun x hx hg => ne x hg hx)
  rw [List.set_set, set_same ek, set_same ev] at p
  refine ⟨⟨w.F, upd w.H a ob', fun x => x = a ∨ g x⟩, rfl, rfl, ⟨fun x o q => ?_, fun x h => ?_, fun x h => ?_, rel.fixed, p⟩, ⟨Same.refl _, fun x o q => .inl q, fun x o q n => ?_, fun x h => .inl ?_⟩⟩
  · show upd w.H a _ x = some o
    rw [upd_ne (ne_of_none q nF)]
    exact rel.same x o q
  · rcases h with rfl | h
    · exact nF
    · exact rel.frz x (y3 x h)
  · show upd w.H a _ x ≠ none
    by_cases hx : x = a
    · rw [hx, upd_same]
      intro z
      cases z
    · rw [upd_ne hx]
      exact rel.live x (h.elim (fun z => absurd z hx) (y3 x))
  · show upd w.H a _ x = some o
    rw [upd_ne (fun z => n (by rw [z]; exact y2 a ga))]
    exact q
  · rcases h with rfl | h
    · exact y2 _ ga
    · exact y3 x h
/-! ### a dict read -/
/-- the operand is a dict -/
def cM (t b : Bool) (κ : List Kind) : Md → Prop
  | .t (.dT c) => (true, c) = (t, b)
  | .t (.dK c) => (false, c) = (t, b)
  | .r i => dictK t b κ[i]?
  | _ => False
def rdD (m : Md) (d : D) (ρ : Env) : Option (List (D × D)) := match m with
  | .t _ => match d with
    | .dict ps => some ps
    | _ => none
  | .r i => match ρ[i]? with
    | some (some (.dict ps)) => some ps
    | _ => none
theorem dict_of {c : Ct} {t b : Bool} {κ : List Kind} {ρ : Env} {σ : L2.St} {w w1 : Wd} {m : Md} {d : D} {v : V} {ps : List (D × D)} (hm : cM t b κ m) (rel : Rel c.K κ ρ σ w1) (tm : TempM c.K m σ w w1 d v) (h : rdD m d ρ = some ps) : ∃ a ob, v = .ref a ∧ w1.H a = some ob ∧ DV t b c.K w1.F ob ps := by
  cases m with
  | t k =>
    unfold rdD at h
    dsimp only at h
    split at h
    · cases h
      obtain ⟨g, o, _⟩ := tm
      have hk : dictK t b (some k) := by
        cases k <;> first | exact hm | exact hm.elim
      obtain ⟨a, ob, e1, e2, _, dv⟩ := od_dictE hk o
      exact ⟨a, ob, e1, e2, dv⟩
    · cases h
  | r i =>
    unfold rdD at h
    dsimp only at h
    split at h
    · rename_i ps' ed
      cases h
      obtain ⟨a, ob, ev, eH, dv, _⟩ := own_dict rel hm ed
      rw [show σ[i]? = some (some v) from tm] at ev
      cases ev
      exact ⟨a, ob, rfl, eH, dv⟩
    · cases h
section
variable {X : Cx} {W : WX} {C : FC} {t b : Bool} {κ : List Kind} {pos : Pos} {o e : Expr} {fo fk fa : M D} {m mk : Md} {kb : Bool}
/-- d[k] -/
def fDGet (t : Bool) (m : Md) (fo fk : M D) : M D := fun ρ => bdo (fo ρ) fun d ρ1 => bdo (fk ρ1) fun k ρ2 => match rdD m d ρ2, keyOf t k with
  | some ps, some ks => (dlook t ps ks).map fun v => .ok v ρ2
  | _, _ => none
/-- the key's kind -/
def kM (t kb : Bool) : Prop := kb = false ∨ t = false
theorem fe_dget (hu : X.A.units + 64 < cLine) (ho : FV X W κ m o fo) (hi : FV X W κ (.t (.v kb)) e fk) (hm : cM t b κ m := by rfl) (hkb : kM t kb := by first | exact .inl rfl | exact .inr rfl) (hs : NoSl e := by intro _ _; rfl) : FV X W κ (.t (.v b)) (.Subscript o e pos) (fDGet t m fo fk) :=
  (pe_dget (by omega) ho hi hs).imp fun σ H Q h => by
    obtain ⟨ρ, w, rfl, rel, post⟩ := h
    refine seqV (P := PostV (ctx X W) κ σ (.t (.v b)) w Q) rel post (fun z => z) (fun n d ρ' z => z) fun d ρ1 v w1 rel1 e1 t1 post1 => ?_
    refine seqV (P := PostV (ctx X W) κ σ (.t (.v b)) w Q) rel1 post1 (fun z => z) (fun n d ρ' z => z.since e1) fun k ρ2 y w2 rel2 e2 t2 post2 => ?_
    split at post2
    · rename_i ps ks ep ek
      obtain ⟨a, ob, rfl, eH, dv⟩ := dict_of hm rel2 (t1.keep e2) ep
      have kv := keyV_of hkb (Temp.rd t2) rel2.same ek
      obtain ⟨r, g, oR⟩ := dget_ok dv eH kv
      generalize dlook t ps ks = x at post2 oR
      cases oR with
      | none => exact post2.elim
      | some rr => exact ⟨a, _, rfl, g, fin_imm post2 rel2 (e1.trans e2) rr⟩
    · exact post2.elim
/-- k in d -/
def fDIn (t neg : Bool) (m : Md) (fk fo : M D) : M D := fun ρ => bdo (fk ρ) fun k ρ1 => bdo (fo ρ1) fun d ρ2 => match rdD m d ρ2, keyOf t k with
  | some ps, some ks => some (.ok (.bool (if neg then !(dlook t ps ks).isSome else (dlook t ps ks).isSome)) ρ2)
  | _, _ => none
theorem ev_din {bb neg : Bool} {σ : L2.St} {H : Hp} {Q : VK} (hm : cM t b κ m) (hkb : kM t kb) (h : tV (ctx X W) κ (.t (.v bb)) (fDIn t neg m fk fo) σ H Q) : tV (ctx X W) κ (.t (.v kb)) fk σ H fun y H1 => tV (ctx X W) κ m fo σ H1 fun x H2 => ∃ a r, x = .ref a ∧ DGet H2 a y r ∧ Q (.bl (if neg then !r.isSome else r.isSome)) H2 := by
  obtain ⟨ρ, w, rfl, rel, post⟩ := h
  refine seqV (P := PostV (ctx X W) κ σ (.t (.v bb)) w Q) rel post (fun z => z) (fun n d ρ' z => z) fun k ρ1 y w1 rel1 e1 t1 post1 => ?_
  refine seqV (P := PostV (ctx X W) κ σ (.t (.v bb)) w Q) rel1 post1 (fun z => z) (fun n d ρ' z => z.since e1) fun d ρ2 v w2 rel2 e2 t2 post2 => ?_
  split at post2
  · rename_i ps ks ep ek
    obtain ⟨a, ob, rfl, eH, dv⟩ := dict_of hm rel2 t2 ep
    have kv := keyV_of hkb (Temp.rd (t1.keep e2)) rel2.same ek
    obtain ⟨r, g, oR⟩ := dget_ok dv eH kv
    refine ⟨a, r, rfl, g, ?_⟩
    have := fin_imm post2 rel2 (e1.trans e2) (.bl _)
    rw [← oR.some_iff] at this
    exact this
  · exact post2.elim
theorem fe_din {bb : Bool} (hu : X.A.units + 64 < cLine) (hi : FV X W κ (.t (.v kb)) e fk) (ho : FV X W κ m o fo) (hmk : behindInMarks .In o = false) (hm : cM t b κ m := by rfl) (hkb : kM t kb := by first | exact .inl rfl | exact .inr rfl) : FV X W κ (.t (.v bb)) (.Compare e [.In] [o] pos) (fDIn t false m fk fo) :=
  (pe_cmp (pc_din (by omega) hi ho) hmk).imp fun σ H Q h => ev_din (neg := false) hm hkb h
theorem fe_dnin {bb : Bool} (hu : X.A.units + 64 < cLine) (hi : FV X W κ (.t (.v kb)) e fk) (ho : FV X W κ m o fo) (hmk : behindInMarks .NotIn o = false) (hm : cM t b κ m := by rfl) (hkb : kM t kb := by first | exact .inl rfl | exact .inr rfl) : FV X W κ (.t (.v bb)) (.Compare e [.NotIn] [o] pos) (fDIn t true m fk fo) :=
  (pe_cmp (pc_dnotin (by omega) hi ho) hmk).imp fun σ H Q h => ev_din (neg := true) hm hkb h
theorem ft_din (hu : X.A.units + 64 < cLine) (hi : FV X W κ (.t (.v kb)) e fk) (ho : FV X W κ m o fo) (hmk : behindInMarks .In o = false) (hm : cM t b κ m := by rfl) (hkb : kM t kb := by first | exact .inl rfl | exact .inr rfl) : FT X W κ (.Compare e [.In] [o] pos) (fTst (fDIn t false m fk fo)) :=
  (pt_cmp (pc_din (by omega) hi ho) hmk).imp fun σ H Q h => ev_din (bb := true) (neg := false) hm hkb (tst_of h)
theorem ft_dnin (hu : X.A.units + 64 < cLine) (hi : FV X W κ (.t (.v kb)) e fk) (ho : FV X W κ m o fo) (hmk : behindInMarks .NotIn o = false) (hm : cM t b κ m := by rfl) (hkb : kM t kb := by first | exact .inl rfl | exact .inr rfl) : FT X W κ (.Compare e [.NotIn] [o] pos) (fTst (fDIn t true m fk fo)) :=
  (pt_cmp (pc_dnotin (by omega) hi ho) hmk).imp fun σ H Q h => ev_din (bb := true) (neg := true) hm hkb (tst_of h)
end
end FN
namespace FN
open PySem PySem.Spec PyProof.Rows L2
section
variable {c : Ct} {κ : List Kind} {σ : L2.St} {w w1 : Wd} {ρ : Env} {d : D} {Q : VK}
/-- a new owned object -/
theorem fin_own {k : Kind} {p : Addr} {o : HO} (h : PostV c κ σ (.t k) w Q (some (.ok d ρ))) (rel : Rel c.K κ ρ σ w1) (e : Ext w w1) (np : w1.H p = none) (od : OD c.K w1.F (upd w1.H p o) k (.ref p) d (fun a => a = p)) : Q (.ref p) (upd w1.H p o) := by
  obtain ⟨w2, eH, eF, ef, rel2, e2⟩ := world_own (o := o) rel np
  rw [← eH]
  refine h _ w2 rel2 (e.trans e2) ⟨fun a => a = p, by rw [eF, eH]; exact od, fun a ha => ?_⟩
  have ha' : a = p := ha
  rw [ha']
  refine ⟨fun z => ?_, ?_, ?_, ?_⟩
  · rw [ef] at z
    exact rel.live _ z np
  · rw [eF]
    exact rel.same.free np
  · rw [eH, upd_same]
    intro z; cases z
  · cases q : w.H p with
    | none => exact .inr rfl
    | some o =>
      by_cases y : w.fp p
      · exact .inl y
      · rw [e.keep p o q y] at np; cases np
/-- an object beside the slots, changed -/
theorem fin_own2 {k : Kind} {p : Addr} {o : HO} {w2 : Wd} {ρ2 : Env} (h : PostV c κ σ (.t k) w Q (some (.ok d ρ2))) (ew : Ext w w1) (np : w.H p = none) (nfp : ¬ w1.fp p) (nF : w1.F p = none) (hp : w1.H p ≠ none) (rel2 : Rel c.K κ ρ2 σ w2) (e : Ext w1 w2) (od : OD c.K w2.F (upd w2.H p o) k (.ref p) d (fun a => a = p)) : Q (.ref p) (upd w2.H p o) := by
  have hp1 : ∃ u, w1.H p = some u := by
    cases q : w1.H p with
    | none => exact absurd q hp
    | some u => exact ⟨u, rfl⟩
  obtain ⟨u, hu⟩ := hp1
  have n2 : ¬ w2.fp p := e.nofp hu nfp
  have nF2 : w2.F p = none := by
    cases y : w2.F p with
    | none => rfl
    | some u' =>
      rcases e.new p u' y with y | y | y
      · rw [nF] at y; cases y
      · exact absurd y nfp
      · rw [hu] at y; cases y
  have ne : ∀ a, w2.fp a → a ≠ p := fun a h z => n2 (by rw [← z]; exact h)
  have rel3 : Rel c.K κ ρ2 σ ⟨w2.F, upd w2.H p o, w2.fp⟩ := by
    refine ⟨fun b u h => ?_, rel2.frz, fun a h => ?_, rel2.fixed, rel2.slots.frame (Same.refl _) fun a u h q => ?_⟩
    · show upd w2.H p o b = some u
      rw [upd_ne (ne_of_none h nF2)]
      exact rel2.same b u h
    · show upd w2.H p o a ≠ none
      rw [upd_ne (ne a h)]
      exact rel2.live a h
    · show upd w2.H p o a = some u
      rw [upd_ne (ne a h)]
      exact q
  have e02 := ew.trans e
  have e3 : Ext w ⟨w2.F, upd w2.H p o, w2.fp⟩ := ⟨e02.same, e02.new, fun a u h n => by
    show upd w2.H p o a = some u
    rw [upd_ne (fun z => by rw [z, np] at h; cases h)]
    exact e02.keep a u h n, e02.fp⟩
  refine h _ ⟨w2.F, upd w2.H p o, w2.fp⟩ rel3 e3 ⟨fun a => a = p, od, fun a ha => ?_⟩
  have ha' : a = p := ha
  rw [ha']
  exact ⟨n2, nF2, (by show upd w2.H p o p ≠ none; rw [upd_same]; intro z; cases z), .inr np⟩
end
section
variable {X : Cx} {W : WX} {C : FC} {t b : Bool} {κ κn : List Kind} {pos apos cpos : Pos} {o e e2 : Expr} {fo fk fa : M D} {m mk : Md} {kb : Bool} {i : Nat}
/-- d.get(k) -/
def fDGet1 (t : Bool) (m : Md) (fo fk : M D) : M D := fun ρ => bdo (fo ρ) fun d ρ1 => match rdD m d ρ1 with
  | some _ => bdo (fk ρ1) fun k ρ2 => match rdD m d ρ2, keyOf t k with
    | some ps, some ks => some (.ok ((dlook t ps ks).getD .none) ρ2)
    | _, _ => none
  | none => none
theorem fe_dget1 (hu : X.A.units + 64 < cLine) (ho : FV X W κ m o fo) (hi : FV X W κ (.t (.v kb)) e fk) (m1 : M1 X o "get" apos e cpos) (hm : cM t b κ m := by rfl) (hkb : kM t kb := by first | exact .inl rfl | exact .inr rfl) : FV X W κ (.t (.v b)) (.Call (.Attribute o "get" apos) [e] [] cpos) (fDGet1 t m fo fk) :=
  (pe_dget1 (by omega) ho hi m1).imp fun σ H Q h => by
    obtain ⟨ρ, w, rfl, rel, post⟩ := h
    refine seqV (P := PostV (ctx X W) κ σ (.t (.v b)) w Q) rel post (fun z => z) (fun n d ρ' z => z) fun d ρ1 v w1 rel1 e1 t1 post1 => ?_
    split at post1
    · rename_i ps0 ep0
      obtain ⟨a, ob, rfl, eH, dv⟩ := dict_of hm rel1 t1 ep0
      refine ⟨a, rfl, isD_of dv eH, ?_⟩
      refine seqV (P := PostV (ctx X W) κ σ (.t (.v b)) w Q) rel1 post1 (fun z => z) (fun n d ρ' z => z.since e1) fun k ρ2 y w2 rel2 e2 t2 post2 => ?_
      split at post2
      · rename_i ps ks ep ek
        obtain ⟨a', ob', ea, eH', dv'⟩ := dict_of hm rel2 (t1.keep e2) ep
        cases ea
        have kv := keyV_of hkb (Temp.rd t2) rel2.same ek
        obtain ⟨r, g, oR⟩ := dget_ok dv' eH' kv
        refine ⟨r, g, ?_⟩
        generalize dlook t ps ks = x at post2 oR
        cases oR with
        | none => exact fin_imm post2 rel2 (e1.trans e2) .non
        | some rr => exact fin_imm post2 rel2 (e1.trans e2) rr
      · exact post2.elim
    · exact post1.elim
/-- d[k] = v -/
def sDPut (t : Bool) (i : Nat) (fk fa : M D) : Env → Option Fl := fun ρ => bnd (fa ρ) Fl.err fun d ρ1 => match ρ1[i]? with
  | some (some (.dict _)) => bnd (fk ρ1) Fl.err fun k ρ2 => match ρ2[i]?, keyOf t k with
    | some (some (.dict ps)), some ks => if ps.length < sizeLine then some (.nx (ρ2.set i (some (.dict (dput t ps k ks d))))) else none
    | _, _ => none
  | _ => none
theorem fs_dput {x : Str} {xp p : Pos} {ix a : Expr} (hu : X.A.units + 64 < cLine) (ho : FV X W κ (.r i) (.Name x xp) (fRef i)) (hi : FV X W κ (.t (.v kb)) ix fk) (ha : FV X W κ (.t (.v b)) a fa) (hm : dictK t b κ[i]? := by rfl) (hkb : kM t kb := by first | exact .inl rfl | exact .inr rfl) (he : EK C κ := by first | exact .inl rfl | exact .inr rfl)
    (hs : swapsWith a (some (.Subscript (.Name x xp) ix p)) pos.line X.env = pure false := by rfl) : FS X W C κ κ (.Assign [.Subscript (.Name x xp) ix p] a pos) (sDPut t i fk fa) := (ps_dput (by omega) ho hi ha hs).imp fun D' σ H h => by
  obtain ⟨ρ, w, rfl, rel, post⟩ := h
  refine seqV (P := PostS (ctx X W) C κ D' w) rel post (fun z => z) (fun n d ρ' z => errS he z) fun d ρ1 v w1 rel1 e1 t1 post1 => ?_
  split at post1
  · rename_i ps0 ed0
    refine ⟨ρ1, w1, rfl, rel1, ?_⟩
    unfold fRef
    rw [ed0]
    intro v0 w2 rel2 e2 t2
    obtain ⟨a0, ob0, ev0, _, _, _⟩ := own_dict rel2 hm ed0
    rw [show σ[i]? = some (some v0) from t2] at ev0
    cases ev0
    refine seqV (P := PostS (ctx X W) C κ D' w) rel2 post1 (fun z => z) (fun n d ρ' z => ErrOk.since (errS he z) (e1.trans e2)) fun k ρ3 y w3 rel3 e3 t3 post3 => ?_
    split at post3
    · rename_i ps ks ed ek
      split at post3
      · rename_i hl
        obtain ⟨a', ob, ev, eH, dv, wr⟩ := own_dict rel3 hm ed
        rw [show σ[i]? = some (some (V.ref a0)) from t2] at ev
        cases ev
        have kv := keyV_of hkb (Temp.rd t3) rel3.same ek
        have rv : RD b X.K w3.F v d := ((Temp.rd t1).mono e2.same).mono e3.same
        obtain ⟨ob', dp, dv'⟩ := dput_ok dv eH kv ek hl rv
        obtain ⟨w4, eH4, _, rel4, e4⟩ := wr ob' _ dv'
        refine ⟨a0, w4.H, rfl, by rw [eH4]; exact dp, ?_⟩
        exact post3 σ w4 rel4 (((e1.trans e2).trans e3).trans e4)
      · exact post3.elim
    · exact post3.elim
  · exact post1.elim
/-- {} -/
theorem fe_dnewK : FV X W κ (.t (.dK b)) (.Dict [] [] pos) (fC (.dict [])) := pe_dnewK.imp fun σ H Q h => by
  obtain ⟨ρ, w, rfl, rel, post⟩ := h
  exact fun p np => fin_own post rel (Ext.refl _) np ⟨p, [], [], rfl, rfl, upd_same, rfl, .nil⟩
theorem fe_dnewT : FV X W κ (.t (.dT b)) (.Dict [] [] pos) (fC (.dict [])) := pe_dnewT.imp fun σ H Q h => by
  obtain ⟨ρ, w, rfl, rel, post⟩ := h
  exact fun p np => fin_own post rel (Ext.refl _) np ⟨p, [], [], rfl, rfl, upd_same, rfl, .nil⟩
/-- {k: v} -/
def fDisp (t : Bool) (fk fa : M D) : M D := fun ρ => bdo (fk ρ) fun k ρ1 => bdo (fa ρ1) fun v ρ2 => match keyOf t k with
  | some _ => some (.ok (.dict [(k, v)]) ρ2)
  | none => none
theorem fe_dispT (hu : X.A.units + 64 < cLine) (hk : FV X W κ (.t (.v false)) e fk) (hv : FV X W κ (.t (.v b)) e2 fa) : FV X W κ (.t (.dT b)) (.Dict [some e] [e2] pos) (fDisp true fk fa) := (pe_dispT (by omega) hk hv).imp fun σ H Q h => by
  obtain ⟨ρ, w, rfl, rel, post⟩ := h
  intro p np
  obtain ⟨w0, eH, eF, ef, rel0, e0⟩ := world_own (o := .dT []) rel np
  rw [← eH]
  refine seqV (P := PostV (ctx X W) κ σ (.t (.dT b)) w Q) rel0 post (fun z => z) (fun n d ρ' z => z.since e0) fun k ρ1 x w1 rel1 e1 t1 post1 => ?_
  refine seqV (P := PostV (ctx X W) κ σ (.t (.dT b)) w Q) rel1 post1 (fun z => z) (fun n d ρ' z => z.since (e0.trans e1)) fun d ρ2 v w2 rel2 e2 t2 post2 => ?_
  split at post2
  · rename_i ks ek
    have n0 : ¬ w0.fp p := fun z => rel.live p (by rw [← ef]; exact z) np
    have h0 : w0.H p = some (.dT []) := by rw [eH, upd_same]
    have nF0 : w0.F p = none := by rw [eF]; exact rel.same.free np
    have e12 := e1.trans e2
    have kv := keyV_of (t := true) (.inl rfl) ((Temp.rd t1).mono e2.same) rel2.same ek
    obtain ⟨c, rfl, ec⟩ := kv
    have ekd : k = .tuple (ks.map kD) := by
      unfold keyOf at ek
      dsimp only at ek
      split at ek
      · rw [tkey_some ek]
      · cases ek
    refine ⟨e12.keep p _ h0 n0, c, ks, rfl, ec, ?_⟩
    refine fin_own2 post2 e0 np n0 nF0 (by rw [h0]; intro z; cases z) rel2 e12 ⟨p, _, _, rfl, rfl, upd_same, rfl, ?_⟩
    rw [ekd]
    exact .cons (Temp.rd t2) .nil
  · exact post2.elim
theorem fe_dispK (hk : FV X W κ (.t (.v kb)) e fk) (hv : FV X W κ (.t (.v b)) e2 fa) : FV X W κ (.t (.dK b)) (.Dict [some e] [e2] pos) (fDisp false fk fa) := (pe_disp (pps_cons hk hv pps_nil) rfl rfl (by simp) (by simp)).imp fun σ H Q h => by
  obtain ⟨ρ, w, rfl, rel, post⟩ := h
  intro p np
  obtain ⟨w0, eH, eF, ef, rel0, e0⟩ := world_own (o := .dK []) rel np
  rw [← eH]
  show tV _ _ _ _ _ _ _
  refine seqV (P := PostV (ctx X W) κ σ (.t (.dK b)) w Q) rel0 post (fun z => z) (fun n d ρ' z => z.since e0) fun k ρ1 x w1 rel1 e1 t1 post1 => ?_
  show tV _ _ _ _ _ _ _
  refine seqV (P := PostV (ctx X W) κ σ (.t (.dK b)) w Q) rel1 post1 (fun z => z) (fun n d ρ' z => z.since (e0.trans e1)) fun d ρ2 v w2 rel2 e2 t2 post2 => ?_
  split at post2
  · rename_i ks ek
    have n0 : ¬ w0.fp p := fun z => rel.live p (by rw [← ef]; exact z) np
    have h0 : w0.H p = some (.dK []) := by rw [eH, upd_same]
    have nF0 : w0.F p = none := by rw [eF]; exact rel.same.free np
    have e12 := e1.trans e2
    have kv := keyV_of (t := false) (.inr rfl) ((Temp.rd t1).mono e2.same) rel2.same ek
    obtain ⟨c, rfl, rfl⟩ := kv
    have ekd : k = kD c := by
      obtain ⟨k', e, y⟩ := Option.map_eq_some_iff.mp ek
      cases y
      exact kk_some e
    refine ⟨e12.keep p _ h0 n0, [(c, v)], rfl, by simp, ?_⟩
    refine fin_own2 post2 e0 np n0 nF0 (by rw [h0]; intro z; cases z) rel2 e12 ⟨p, _, _, rfl, rfl, upd_same, rfl, ?_⟩
    rw [ekd]
    exact .cons (Temp.rd t2) .nil
  · exact post2.elim
end
end FN
set_option Elab.async false
set_option linter.all false
set_option maxRecDepth 100000
set_option maxHeartbeats 4000000
/-! FN22: owned lists given away; sorted, reversed slices, index. -/
namespace FN
open PySem PySem.Spec PyProof.Rows L2
section
variable {X : Cx} {W : WX} {C : FC} {b : Bool} {κ κn : List Kind} {pos p : Pos} {e a o : Expr} {fa fb fo : M D} {m ma mb : Md} {i : Nat}
/-- the list of slot i goes out of the slot, as a datum -/
def fMove (i : Nat) : M D := fun ρ => match ρ[i]? with
  | some (some (.list ds)) => some (.ok (.list ds) (ρ.set i none))
  | _ => none
theorem fe_move (i : Nat) {x : Str} (hk : κ[i]? = some (.lst (.v b)) := by rfl) (hN : X.N[i]? = some x := by rfl) (hv : Vis X.env.scope x := by first | exact Or.inl rfl | exact Or.inr (Or.inl rfl) | exact Or.inr (Or.inr rfl)) (hd : (x == ("__debug__" : Str)) = false := by decide)
    (hcd : (x == ("__classdict__" : Str)) = false := by decide) : FV X W κ (.t (.v b)) (.Name x pos) (fMove i) := (pe_var hN hv hd hcd).imp fun σ H Q h => by
  obtain ⟨ρ, w, rfl, rel, post⟩ := h
  unfold fMove at post
  split at post
  · rename_i ds ed
    obtain ⟨v, f, g, ev, o, s, y1, y2, y3⟩ := rel.slots.out ed hk
    obtain ⟨a, xs, ds0, g', rfl, e2, eH, ga, _, _, od⟩ := o
    cases e2
    have rs := odl_rds od
    refine ⟨.ref a, ev, ?_⟩
    have nF : w.F a = none := rel.frz a (y2 a ga)
    have sF : Same w.F (upd w.F a (.lst xs)) := fun c u h => by rw [upd_ne (ne_of_none h nF)]; exact h
    refine post (.ref a) ⟨upd w.F a (.lst xs), w.H, g⟩ ⟨fun c u h => ?_, fun c h => ?_, fun c h => rel.live c (y3 c h), rel.fixed, s.frame sF fun _ _ _ q => q⟩ ⟨sF, fun c u h => ?_, fun c u h _ => h, fun c h => .inl (y3 c h)⟩ (Temp.imm (.lst upd_same (rs.mono sF)))
    · by_cases hc : c = a
      · subst hc
        have h' : upd w.F c (.lst xs) c = some u := h
        rw [upd_same] at h'
        rw [← h']
        exact eH
      · have h' : upd w.F a (.lst xs) c = some u := h
        rw [upd_ne hc] at h'
        exact rel.same c u h'
    · show upd w.F a (.lst xs) c = none
      rw [upd_ne (fun z => y1 a ga (by rw [← z]; exact h))]
      exact rel.frz c (y3 c h)
    · by_cases hc : c = a
      · exact .inr (.inl (by rw [hc]; exact y2 a ga))
      · have h' : upd w.F a (.lst xs) c = some u := h
        rw [upd_ne hc] at h'
        exact .inl h'
  · exact post.elim
end
end FN
/-! ### t[::-1] of a tuple -/
namespace HTR
open PySem PyProof.Rows HT
open PySem.SeqAt
open PySem.MeetsSeq PySem.MeetsSeq2 PySem.MeetsSeq3
section
variable {prog : Program} {w : World} {A : Around} {E : Value → Shared → Prop} {s : Shared}
theorem places_rev (n : Nat) : Builtin.Slice.sliceAdjust none none (-1) (n : Int) = ((n : Int) - 1, -1) ∧ Builtin.Slice.slicePlaces ((n : Int) - 1) (-1) (-1) = n := by
  refine ⟨rfl, ?_⟩
  unfold Builtin.Slice.slicePlaces
  rw [if_neg (by decide)]
  by_cases h : (n : Int) - 1 > -1
  · rw [if_pos h, Int.neg_neg, Int.ediv_one]
    omega
  · rw [if_neg h]
    omega
theorem pick_back (xs : Array Value) : ((List.range xs.size).filterMap fun (m : Nat) => xs[(((xs.size : Int) - 1) + (m : Int) * (-1)).toNat]?).toArray = xs.toList.reverse.toArray := by
  congr 1
  refine List.ext_getElem? fun i => ?_
  have key : ∀ k ≤ xs.size, (List.range k).filterMap (fun (m : Nat) => xs[(((xs.size : Int) - 1) + (m : Int) * (-1)).toNat]?) = (xs.toList.reverse).take k := by
    intro k
    induction k with
    | zero => intro _; rfl
    | succ k ih =>
      intro hk
      rw [List.range_succ, List.filterMap_append, ih (by omega), List.take_add_one]
      congr 1
      have e : (((xs.size : Int) - 1) + (k : Int) * (-1)).toNat = xs.size - 1 - k := by omega
      have hl : k < xs.toList.length := by rw [Array.length_toList]; omega
      rw [List.getElem?_reverse hl, List.filterMap_cons, e]
      have h2 : xs.size - 1 - k < xs.size := by omega
      rw [Array.length_toList, Array.getElem?_eq_getElem h2, List.getElem?_eq_getElem (by rw [Array.length_toList]; exact h2)]
      rfl
  rw [key _ (Nat.le_refl _), List.take_of_length_le (by rw [List.length_reverse, Array.length_toList]; exact Nat.le_refl _)]
theorem applied_rev {c : Addr} {vs : Value} {n : Nat} {R : Int × Int × Nat → Shared → Prop} (hc : s.heap.IsSliceOf c .none .none vs) (ps : IsPart vs (some (-1))) (q : R ((n : Int) - 1, -1, n) s) : wpAny (model prog w) A (Builtin.Slice.sliceApplied (.ref c) (pure (n : Int))) R E s := by
  obtain ⟨ob, hob, _, hf⟩ := id hc
  unfold Builtin.Slice.sliceApplied Builtin.Slice.sliceFields
  refine wpAny_bind (wpAny_bind (wpAny_field hob hf (x := .none) rfl (wpAny_bind (wpAny_field hob hf (x := .none) rfl (wpAny_bind (wpAny_field hob hf (x := vs) rfl (wpAny_pure ?_)))))))
  refine wpAny_bind (slicePart_ ps ?_)
  show wpAny _ _ (if ((-1 : Int) == 0) = true then _ else _) _ _ s
  rw [if_neg (by decide)]
  refine wpAny_bind (slicePart_none (wpAny_bind (slicePart_none (wpAny_bind (wpAny_pure ?_)))))
  show wpAny _ _ (match Builtin.Slice.sliceAdjust none none (-1) (n : Int) with | (a, b) => pure (a, (-1 : Int), Builtin.Slice.slicePlaces a b (-1))) _ _ s
  rw [(places_rev n).1]
  show wpAny _ _ (pure ((n : Int) - 1, (-1 : Int), Builtin.Slice.slicePlaces ((n : Int) - 1) (-1) (-1))) _ _ s
  rw [(places_rev n).2]
  exact wpAny_pure q
theorem getItem_back {a c : Addr} {xs : Array Value} {vs : Value} {R : Value → Shared → Prop} (ha : IsTup s.heap a xs) (hc : s.heap.IsSliceOf c .none .none vs) (ps : IsPart vs (some (-1)))
    (q : R (.ref s.heap.objs.size) { s with heap := s.heap.push { cls := .type "tuple", data := .seq xs.toList.reverse.toArray } }) (hz : xs.size ≤ sizeLine) : wpAny (model prog w) A (getItem (.ref a) (.ref c)) R E s := by
  obtain ⟨ob, hob, hcc, _⟩ := id hc
  have hTc : s.TypeIs (.ref c) "slice" := ⟨ob, hob, hcc⟩
  have fits : sizeOk (.seq xs.toList.reverse.toArray) := by
    show xs.toList.reverse.toArray.size ≤ sizeLine
    rw [List.size_toArray, List.length_reverse, Array.length_toList]
    exact hz
  unfold getItem
  try with_reducible refine wpAny_holding ?_
  first | refine wpAny_bind (wpAny_pure ?_) | skip
  refine wpAny_bind (wpAny_sequenceKey ha.typeIs (by decide) ?_)
  refine wpAny_bind (wpAny_callSpecial?_slot (name := Str.ofString "__getitem__") ha.typeIs PyProof.Rows.slot_tuple_getitem (wpAny_call_entry PyProof.Rows.slot_tuple_getitem ha.typeIs entry_tuple_getitem ?_ (args_tuple_getitem _ _)))
  show wpAny _ _ (Builtin.Tuple.tupleItemsOf (.ref a) >>= _) _ _ s
  refine wpAny_bind (tupleItemsOf_ ha ?_)
  refine wpAny_bind (wpAny_typeOf hTc ?_)
  rw [if_pos (by decide)]
  refine wpAny_bind (applied_rev hc ps ?_)
  show wpAny _ _ (if (((xs.size : Int) - 1) == 0 && (-1 : Int) == 1 && xs.size == xs.size) = true then _ else _) _ _ s
  rw [if_neg (by simp), pick_back]
  first
    | exact wpAny_bind (m := Builtin.Tuple.tupleExact _) (wpAny_newObj_type (wpAny_pure ⟨_, rfl, wpAny_pure q⟩) fits)
    | exact wpAny_bind (m := Builtin.Tuple.tupleExact _) (wpAny_newObj_type (wpAny_bind (wpAny_pure (wpAny_pure ⟨_, rfl, wpAny_pure q⟩))) fits)
    | exact wpAny_bind (wpAny_bind (m := Builtin.Tuple.tupleExact _) (wpAny_newObj_type (wpAny_pure (wpAny_pure ⟨_, rfl, wpAny_pure q⟩)) fits))
    | exact wpAny_bind (wpAny_bind (m := Builtin.Tuple.tupleExact _) (wpAny_newObj_type (wpAny_pure ⟨_, rfl, wpAny_pure q⟩) fits))
end
end HTR
namespace L2
open PySem PySem.Spec PyProof.Rows
/-- a list or a tuple, from behind -/
def tRevA (K : PySem.W.Frag) (te : TE) : TE := fun σ H Q => te σ H fun x H1 => ∃ a xs, x = .ref a ∧ ((SqT K H1 a xs ∧ ∀ p, H1 p = none → Q (.ref p) (upd H1 p (.tup xs.reverse))) ∨ SqL K H1 a xs ∧ ∀ p, H1 p = none → Q (.ref p) (upd H1 p (.lst xs.reverse)))
theorem pe_revA {o : Expr} {to : TE} {k : Nat} {q1 q2 q3 pos : Pos} {X : Cx} (ho : PE X o to) : PE X (.Subscript o (.Slice none none (some (.UnaryOp .USub (.Constant (.int 1) k q1) q2)) q3) pos) (tRevA X.K to) := by
  refine ⟨fun pins s σ H Q I hh => ?_⟩
  refine Subscript_ (thn (ho.run pins s σ H _ I hh) fun v0 s1 ⟨x, H1, I1, r1, a, xs, ex, alt⟩ => ?_)
  subst ex
  cases r1
  have hst : PO X (some (.UnaryOp .USub (.Constant (.int 1) k q1) q2)) (tPart (tUn (rU fun i => .int (-i)) (tC (.int 1)))) := po_some (pe_un un_neg pe_int)
  refine wpAny_Slice (thn (po_none.run pins s1 σ H1 (fun z H2 => z = none ∧ H2 = H1) I1 ⟨rfl, rfl⟩) fun vl s2 ⟨z, H2, I2, pl, ez, e2⟩ => ?_)
  subst ez e2
  refine thn (po_none.run pins s2 σ H2 (fun z H3 => z = none ∧ H3 = H2) I2 ⟨rfl, rfl⟩) fun vu s3 ⟨z, H3, I3, pu, ez, e3⟩ => ?_
  subst ez e3
  refine thn (hst.run pins s3 σ H3 (fun z H4 => z = some (-1) ∧ H4 = H3) I3 ⟨1, rfl, -1, rfl, rfl, rfl⟩) fun vs s4 ⟨z, H4, I4, ps, ez, e4⟩ => ?_
  subst ez e4
  have I5 : Inv X pins σ H4 { s4 with heap := s4.heap.push { cls := .type "slice", data := .fields #[vl, vu, vs] } } := I4.kept (t' := s4.toks) fun b ob q => Heap.get?_push_of_some _ q
  cases pl
  cases pu
  show wpAny (model X.prog X.w) X.A (subscriptTail o (.Slice none none (some (.UnaryOp .USub (.Constant (.int 1) k q1) q2)) q3) (.ref a) (.ref s4.heap.objs.size)) (EP X pins σ Q) X.xe { s4 with heap := s4.heap.push { cls := .type "slice", data := .fields #[.none, .none, vs] } }
  rcases alt with ⟨hx, q⟩ | ⟨hx, q⟩
  · obtain ⟨its, r, ht, hz⟩ := I5.tuple hx
    have hlen := r.length
    refine tail_any (ops := [.ref a, .ref s4.heap.objs.size]) ht.typeIs (PyProof.Rows.slot_tuple_getitem.lookup) ?_ (by with_unfolding_all rfl)
    refine HTR.getItem_back ht (Heap.IsSliceOf.new _ .none .none vs) ps ?_ (by rw [List.size_toArray]; omega)
    refine ⟨.ref _, _, I5.laid (t' := s4.toks) (o := .tup xs.reverse) (fun b ob q => Heap.get?_push_of_some _ q) (Nat.le_refl _) ?_, rfl, q _ (I5.hok.fresh (Nat.le_refl _))⟩
    exact ⟨by rw [List.length_reverse]; exact hz, _, r.reverse, IsTup.new _ _⟩
  · obtain ⟨its, r, ht, hz⟩ := I5.list hx
    have hlen := r.length
    refine tail_any (ops := [.ref a, .ref s4.heap.objs.size]) ht.isList.typeIs (PySem.slot_list_getitem.lookup) ?_ (by with_unfolding_all rfl)
    refine wpAny_getItem_list_slice ht.isList (Heap.IsSliceOf.new _ .none .none vs) .none .none ps (by decide) ?_ (by rw [List.size_toArray]; omega)
    rw [PySem.W.krv_pick]
    refine ⟨.ref _, _, I5.laid (t' := s4.toks) (o := .lst xs.reverse) (fun b ob q => Heap.get?_push_of_some _ q) (Nat.le_refl _) ?_, rfl, q _ (I5.hok.fresh (Nat.le_refl _))⟩
    exact ⟨by rw [List.length_reverse]; exact hz, _, 0, r.reverse, Heap.get?_push_size _ rfl⟩
end L2
namespace FN
open PySem PySem.Spec PyProof.Rows L2
section
variable {X : Cx} {W : WX} {b : Bool} {κ : List Kind} {pos : Pos} {a : Expr} {fa : M D} {m : Md}
def dRev : D → Option D
  | .list ds => some (.list ds.reverse)
  | .tuple ds => some (.tuple ds.reverse)
  | _ => none
theorem fe_rev {j : Nat} {q1 q2 q3 : Pos} (ha : FV X W κ m a fa) (h1 : itB b κ m := by rfl) : FV X W κ (.t (.v b)) (.Subscript a (.Slice none none (some (.UnaryOp .USub (.Constant (.int 1) j q1) q2)) q3) pos) (f1 m dRev fa) := (pe_revA ha).imp fun _ _ _ h => ev_1 (r := fun x H Q => ∃ a xs, x = V.ref a ∧ ((SqT X.K H a xs ∧ ∀ p, H p = none → Q (.ref p) (upd H p (.tup xs.reverse))) ∨ SqL X.K H a xs ∧ ∀ p, H p = none → Q (.ref p) (upd H p (.lst xs.reverse)))) (fun ρ w w1 x dx vx z rel e t ex ez post => by
  unfold dRev at ez
  split at ez
  · cases ez
    obtain ⟨p, us, ep, sp, rs1⟩ := opd_list h1 rel t ex
    exact ⟨p, us, ep, .inr ⟨SqL.of sp, fun p' np => fin_lst (b := b) (k := .v b) rfl post rel e rs1.reverse np⟩⟩
  · cases ez
    obtain ⟨p, us, ep, sp, r1, rs1⟩ := opd_tup h1 rel t ex
    exact ⟨p, us, ep, .inl ⟨sp, fun p' np => fin_tup post rel e rs1.reverse np⟩⟩
  · cases ez) h
end
end FN
/-! ### sorted(x) of a list or a tuple of alike data -/
namespace HSD
open PySem PySem.W PyProof.Rows
section
variable {prog : Program} {w : World} {A : Around} {E : Value → Shared → Prop} {s : Shared}
/-- collect of a list, a tuple: what stood stands, the heap has grown -/
theorem collect_grown {R : List Value → Shared → Prop} (a : Addr) {T : String} {ob : Obj} {xs : Array Value} {m : Nat} (hT : T = "list" ∨ T = "tuple") (ha : s.heap.get? a = some ob) (hc : ob.cls = .type T) (hd : ob.data = .seq xs m)
    (q : ∀ h1, (∀ c u, s.heap.get? c = some u → h1.get? c = some u) → s.heap.objs.size ≤ h1.objs.size → R xs.toList { s with heap := h1 }) (hz : xs.size ≤ sizeLine) : wpAny (model prog w) A (collect (.ref a)) R E s := by
  unfold collect
  refine wpAny_bind (wpAny_runValue (codeAny_builtin F.entry_proto_collect ?_))
  rw [Around.under_plainId F.plain_proto_collect _]
  show wpAny _ A.in1 (newList [] >>= fun z => again (.builtin "list.__iadd__" ⟨[z, .ref a], []⟩)) _ _ s
  refine wpAny_bind (wpAny_newObj_type ?_)
  refine wpAny_pure ⟨plainId_quiet F.plain_list_iadd _, codeAny_builtin F.entry_list_iadd ?_⟩
  rw [Around.under_plainId F.plain_list_iadd _]
  show wpAny _ A.in1 (Builtin.List.listExtendWith (.ref s.heap.objs.size) (.ref a) (.ref s.heap.objs.size)) _ _ _
  have e0 : (s.heap.push { cls := .type "list", data := .seq ([] : List Value).toArray }).get? s.heap.objs.size = some { cls := .type "list", data := .seq #[] 0 } := Heap.get?_push_size _ rfl
  have e1 := Heap.get?_update_self (Obj.mapSeq (· ++ xs)) e0 rfl
  have last : wpAny (model prog w) A (match Value.ref s.heap.objs.size with
      | Value.ref z => do
        match (← load z).data with
          | Data.seq ys _ => pure ys.toList
          | _ => unsupported "internal:collect"
      | _ => unsupported "internal:collect") R E { s with heap := (s.heap.push { cls := .type "list", data := .seq ([] : List Value).toArray }).update s.heap.objs.size (Obj.mapSeq (· ++ xs)) } := by
    show wpAny _ A (load s.heap.objs.size >>= _) _ _ _
    refine wpAny_bind (wpAny_load e1 (wpAny_pure ?_))
    have e2 : ((#[] : Array Value) ++ xs).toList = xs.toList := by simp
    show R ((#[] : Array Value) ++ xs).toList _
    rw [e2]
    refine q _ (fun c u hb => ?_) (by rw [Heap.size_update, size_push']; omega)
    exact (Heap.get?_update_other _ _ (Nat.ne_of_gt (Heap.lt_size hb))).trans (Heap.get?_push_of_some _ hb)
  refine wpAny_mono (wpAny_extend_seq (hsz := hz) (A := A) (R := fun r s' => r = .ok (.ret (.ref s.heap.objs.size)) ∧ s' = { s with heap := (s.heap.push { cls := .type "list", data := .seq ([] : List Value).toArray }).update s.heap.objs.size (Obj.mapSeq (· ++ xs)) })
    (s := { s with heap := s.heap.push { cls := .type "list", data := .seq ([] : List Value).toArray } }) _ a _ 0 hT e0 (Heap.get?_push_of_some _ ha) hc hd ⟨rfl, rfl⟩) (fun f s' h => ?_) (fun e s' h => ?_)
  · cases f with
    | done f =>
      obtain ⟨e, rfl⟩ := h
      cases e
      exact last
    | again c' => exact ⟨h.1, codeAny_mono h.2 fun r s'' hr => by obtain ⟨rfl, rfl⟩ := hr; exact last⟩
  · exact absurd h.1 (by simp)
theorem sorted_seq {T : String} {a : Addr} {vs : List Value} {n : Nat} {ob : Obj} {Q : Value → Shared → Prop} (hT : T = "list" ∨ T = "tuple") (ho : s.heap.get? a = some ob) (hc : ob.cls = .type T) (hd : ob.data = .seq vs.toArray n) (hL : vs.length ≤ sizeLine)
    (body : ∀ (h1 : Heap) (b : Addr) (F : Value → Shared → Prop), (∀ c o, s.heap.get? c = some o → c ≠ b ∧ h1.get? c = some o) → s.heap.objs.size ≤ b → h1.get? b = some (seqObj "list" vs.toArray 0) →
      wpAny (model prog w) A.in1.in1 (Builtin.«list.sort» ⟨[.ref b], []⟩) (fun f s' => f = .done (.ret .none) ∧ Q (.ref b) s') F { s with heap := h1 }) :
    wpAny (model prog w) A (call (.builtin "sorted") [.ref a]) Q E s := by
  refine call_function_entry_kw kind_sorted plain_sorted entry_sorted (args_sorted1 _) ?_
  unfold Builtin.«sorted»
  refine wpAny_bind (m := checkCount "sorted" 1 1 _) (wpAny_pure ?_)
  refine wpAny_bind (collect_grown a hT ho hc hd (fun h' keep bound => ?_) (by rw [List.size_toArray]; exact hL))
  refine wpAny_bind (wpAny_newList ?_ hL)
  have at' : (h'.push (seqObj "list" vs.toArray 0)).get? h'.objs.size = some (seqObj "list" vs.toArray 0) := Heap.get?_push_size _ rfl
  show wpAny _ _ _ _ _ { s with heap := h'.push (seqObj "list" vs.toArray 0) }
  refine wpAny_bind (wpAny_holding (wpAny_call_entry_kw slot_list_sort ⟨_, at', rfl⟩ entry_list_sort ?_ (args_list_sort _)))
  refine wpAny_mono (body _ _ _ (fun c o q => ⟨?_, Heap.get?_push_of_some _ (keep c o q)⟩) bound at') (fun f s' hf => ?_) fun _ _ e => e
  · exact Nat.ne_of_lt (Heap.lt_size (keep c o q))
  · obtain ⟨rfl, hq⟩ := hf
    exact ⟨_, rfl, wpAny_pure ⟨_, rfl, hq⟩⟩
end
end HSD
namespace L2
open PySem PySem.W PySem.Spec PyProof.Rows
def rSortD (K : PySem.W.Frag) : List V → Hp → VK → Prop := fun vs H Q => ∃ (a : Addr) (xs : List V) (ds : List PyData), vs = [.ref a] ∧ (SqL K H a xs ∨ SqT K H a xs) ∧ DpAll K H xs ds ∧ AllAlike ds ∧ Sortable ds ∧ (∀ d ∈ ds, d.depth ≤ 60) ∧
  ∀ p, H p = none → Q (.ref p) (upd H p (.lst (((xs.zip ds).mergeSort (dataLe false Prod.snd)).map Prod.fst)))
theorem each_zip {h : Heap} {xs : List V} {ds : List PyData} : ∀ {its : List Value} {as : List Addr}, Vals xs its → ReadsAll h its ds as → EachIs (fun (u : Value) (q : V × PyData) => RelV q.1 u) its (xs.zip ds) ∧ EachIs (fun (u : Value) (q : V × PyData) => ∃ as, Reads h u q.2 as) its (xs.zip ds) ∧ (xs.zip ds).map Prod.snd = ds := by
  induction xs generalizing ds with
  | nil =>
    intro its as r rd
    cases r
    cases rd
    exact ⟨.nil, .nil, rfl⟩
  | cons x xs ih =>
    intro its as r rd
    cases r with
    | cons h1 t1 =>
      cases rd with
      | cons h2 t2 =>
        obtain ⟨a, b, c⟩ := ih t1 t2
        exact ⟨.cons h1 a, .cons ⟨_, h2⟩ b, by rw [List.zip_cons_cons, List.map_cons, c]⟩
theorem vals_each : ∀ {out : List Value} {qs : List (V × PyData)}, EachIs (fun (u : Value) (q : V × PyData) => RelV q.1 u) out qs → Vals (qs.map Prod.fst) out
  | _, _, .nil => .nil
  | _, _, .cons h t => .cons h (vals_each t)
theorem cr_sortD {X : Cx} (hu : X.A.units + 64 < cLine) : CallR X (.builtin "sorted") (rSortD X.K) := by
  intro pins s σ H vs us Q I r h
  obtain ⟨a, xs, ds, rfl, hs, hd, hal, hk, hdp, q⟩ := h
  obtain ⟨T, its, n, ob, hT, ho, hc, hdat, rv, hz⟩ : ∃ (T : String) (its : List Value) (n : Nat) (ob : Obj), (T = "list" ∨ T = "tuple") ∧ s.heap.get? a = some ob ∧ ob.cls = .type T ∧ ob.data = .seq its.toArray n ∧ Vals xs its ∧ xs.length ≤ sizeLine := by
    rcases hs with hs | hs
    · obtain ⟨its, rv, hl, hz⟩ := I.list hs
      obtain ⟨ob, n, e, e1, _, e2⟩ := hl
      exact ⟨_, its, n, ob, .inl rfl, e, e1, e2, rv, hz⟩
    · obtain ⟨its, rv, ht, hz⟩ := I.tuple hs
      obtain ⟨ob, e, e1, n, e2⟩ := ht
      exact ⟨_, its, n, ob, .inr rfl, e, e1, e2, rv, hz⟩
  obtain ⟨as, rd⟩ := Dp.readsAll I ds xs its hd rv
  obtain ⟨z1, z2, z3⟩ := each_zip rv rd
  rw [Vals.ref1 r]
  have hl : its.length ≤ sizeLine := by rw [← rv.length]; exact hz
  refine HSD.sorted_seq hT ho hc hdat hl fun h1 b F keep bnd at' => ?_
  have er : EachIs (fun (u : Value) (q : V × PyData) => ∃ as, Reads (sortingHeap h1 b its) u q.2 as) its (xs.zip ds) := z2.mono fun _ _ ⟨as, r⟩ => ⟨as, PyProof.Rows.Reads.keeps (fun c o e => sortingHeap_old (keep c o e).1 (keep c o e).2) r⟩
  have hal' : AllAlike ((xs.zip ds).map Prod.snd) := by rw [z3]; exact hal
  have S := SortsAt.data (prog := X.prog) (w := X.w) (A := X.A.in1.in1) (s := { s with heap := sortingHeap h1 b its }) (each_map (R := fun v d => ∃ as, Reads (sortingHeap h1 b its) v d as) Prod.snd er) hal' (by rw [z3]; exact hk) (fun d hd => by
    rw [z3] at hd
    have := hdp d hd
    show X.A.units + 1 + 1 + d.depth < cLine
    omega)
  refine list_sort_vals (s := { s with heap := h1 }) at' S hl ⟨rfl, ?_⟩
  have out := sortVals_data false z1 er hal'
  have ov := vals_each out
  obtain ⟨ep, he⟩ := PyProof.Rows.sortedHeap_at (vs := its) (out := (sortVals (dataKind (sortingHeap h1 b its) ((xs.zip ds).map Prod.snd)) false its its).toArray) at'
  have hlen : (((xs.zip ds).mergeSort (dataLe false Prod.snd)).map Prod.fst).length ≤ sizeLine := by
    rw [List.length_map, List.length_mergeSort, List.length_zip]
    have : xs.length = its.length := rv.length
    omega
  refine ⟨.ref b, upd H b (.lst (((xs.zip ds).mergeSort (dataLe false Prod.snd)).map Prod.fst)), I.laid (t' := s.toks) (fun c o e => ?_) bnd ⟨hlen, _, ep, ov, he⟩, rfl, q b (I.hok.fresh bnd)⟩
  obtain ⟨k1, k2⟩ := keep c o e
  rw [PyProof.Rows.sortedHeap_old k1 (Heap.lt_size k2)]
  exact k2
end L2
namespace FN
open PySem PySem.W PySem.Spec PyProof.Rows L2
section
variable {K : PySem.W.Frag} {F : Hp} {b : Bool}
def SortOk (ds : List D) : Prop := AllAlike ds ∧ Sortable ds ∧ ∀ d ∈ ds, d.depth ≤ 60
theorem rds_zip : ∀ {xs : List V} {ds : List D}, RDs b K F xs ds → (xs.zip ds).map Prod.snd = ds ∧ ∀ q ∈ xs.zip ds, RD b K F q.1 q.2
  | _, _, .nil => ⟨rfl, fun _ h => by cases h⟩
  | _, _, @RDs.cons _ _ _ v vs d ds h t => by
    obtain ⟨e, a⟩ := rds_zip t
    refine ⟨by rw [List.zip_cons_cons, List.map_cons, e], fun q hq => ?_⟩
    rw [List.zip_cons_cons] at hq
    rcases List.mem_cons.mp hq with rfl | hq
    · exact h
    · exact a q hq
theorem rds_pairs : ∀ {qs : List (V × D)}, (∀ q ∈ qs, RD b K F q.1 q.2) → RDs b K F (qs.map Prod.fst) (qs.map Prod.snd)
  | [], _ => .nil
  | q :: qs, h => .cons (h q List.mem_cons_self) (rds_pairs fun q hq => h q (List.mem_cons_of_mem _ hq))
theorem rds_sort {xs : List V} {ds : List D} (h : RDs b K F xs ds) : RDs b K F (((xs.zip ds).mergeSort (dataLe false Prod.snd)).map Prod.fst) (ds.mergeSort (dataLe false id)) := by
  obtain ⟨e, a⟩ := rds_zip h
  have e2 : ((xs.zip ds).mergeSort (dataLe false Prod.snd)).map Prod.snd = ds.mergeSort (dataLe false id) := by
    have := List.map_mergeSort (r := dataLe false (Prod.snd : V × D → D)) (s := dataLe false (id : D → D)) (f := Prod.snd) (l := xs.zip ds) (fun _ _ _ _ => rfl)
    rw [e] at this
    exact this
  rw [← e2]
  exact rds_pairs fun q hq => a q ((List.mergeSort_perm _ _).mem_iff.mp hq)
end
open Classical in
noncomputable def dSorted : D → Option D
  | .list ds => if SortOk ds then some (.list (ds.mergeSort (dataLe false id))) else none
  | .tuple ds => if SortOk ds then some (.list (ds.mergeSort (dataLe false id))) else none
  | _ => none
section
variable {X : Cx} {W : WX} {b : Bool} {κ : List Kind} {pos p : Pos} {a : Expr} {fa : M D} {m : Md}
theorem fe_sorted {kd : Kind} (hd : newL b kd) (hu : X.A.units + 64 < cLine) (hg : Gl X "sorted") (hm : X.mg "sorted" = none) (ha : FV X W κ m a fa) (h1 : itB b κ m := by rfl) (hs : starEach (a :: []) X.env = (false, eval a X.env) :: starEach [] X.env := by rfl) : FV X W κ (.t kd) (.Call (.Name "sorted" p) [a] [] pos) (f1 m dSorted fa) :=
  (pe_callB (cr_sortD hu) hg hm boot_sorted (pa_cons ha pa_nil hs) (by decide) (by decide) hs).imp fun σ H Q h => ev_c1 (fun ρ w w1 x dx vx z rel ext t ex ez post => by
    unfold dSorted at ez
    split at ez
    · split at ez
      · rename_i ok
        cases ez
        obtain ⟨p, us, ep, sp, rs1⟩ := opd_list h1 rel t ex
        exact ⟨p, us, _, by rw [ep], .inl (SqL.of sp), (rs1.mono rel.same).dp, ok.1, ok.2.1, ok.2.2, fun p' np => fin_lst (b := b) hd post rel ext (rds_sort rs1) np⟩
      · cases ez
    · split at ez
      · rename_i ok
        cases ez
        obtain ⟨p, us, ep, sp, r1, rs1⟩ := opd_tup h1 rel t ex
        exact ⟨p, us, _, by rw [ep], .inr sp, (rs1.mono rel.same).dp, ok.1, ok.2.1, ok.2.2, fun p' np => fin_lst (b := b) hd post rel ext (rds_sort rs1) np⟩
      · cases ez
    · cases ez) h
end
end FN
set_option Elab.async false
set_option linter.all false
set_option maxRecDepth 100000
set_option maxHeartbeats 4000000
/-! FN23: itertools.combinations. -/
namespace CB
open PySem PySem.W PyProof.Rows
theorem cb_mro : mroOf (.type "itertools.combinations") = pure [.type "itertools.combinations", .type "object"] := by rw [mroOf_type]; kernel_rfl
theorem cb_lnew : typeLookup (.type "itertools.combinations") "__new__" = pure (some (.builtin "itertools.combinations.__new__")) := by rw [typeLookup_type, builtinLookup_eq_fast]; kernel_rfl
theorem cb_init : Slot "itertools.combinations" "__init__" "object.__init__" :=
  .of (owner := "object") (n := "__init__") (by rw [typeLookup_type, builtinLookup_eq_fast]; kernel_rfl) (by decide +kernel) (by decide +kernel) (by decide +kernel)
    (by first | exact .inl (by decide +kernel) | exact .inr (by decide +kernel)) (by rw [isSubtype_type]; kernel_rfl)
theorem cb_sub : isSubtype (.type "itertools.combinations") (.type "itertools.combinations") = pure true := by rw [isSubtype_type]; kernel_rfl
theorem cb_called : TypeCalled "itertools.combinations" "itertools.combinations.__new__" "object.__init__" :=
  ⟨by decide +kernel, by decide +kernel, ⟨_, _, cb_mro⟩, madeBy_type cb_mro cb_lnew (by decide +kernel), by decide +kernel, cb_sub, cb_init⟩
theorem cb_tcall (a b : Value) : checkTypeCall "itertools.combinations" ⟨[a, b], []⟩ = pure () := by kernel_rfl
theorem cb_ncall (a b : Value) : checkBuiltinCall "itertools.combinations.__new__" ⟨[.type "itertools.combinations", a, b], []⟩ = pure () := by kernel_rfl
theorem cb_enew : entryFor table "itertools.combinations.__new__" = some Builtin.«itertools.combinations.__new__» := entryFor_of_tree (by kernel_rfl)
theorem cb_snext : Slot "itertools.combinations" "__next__" "itertools.combinations.__next__" :=
  .of (owner := "itertools.combinations") (n := "__next__") (by rw [typeLookup_type, builtinLookup_eq_fast]; kernel_rfl) (by decide +kernel) (by decide +kernel) (by decide +kernel)
    (by first | exact .inl (by decide +kernel) | exact .inr (by decide +kernel)) (by rw [isSubtype_type]; kernel_rfl)
theorem cb_siter : Slot "itertools.combinations" "__iter__" "itertools.combinations.__iter__" :=
  .of (owner := "itertools.combinations") (n := "__iter__") (by rw [typeLookup_type, builtinLookup_eq_fast]; kernel_rfl) (by decide +kernel) (by decide +kernel) (by decide +kernel)
    (by first | exact .inl (by decide +kernel) | exact .inr (by decide +kernel)) (by rw [isSubtype_type]; kernel_rfl)
theorem cb_enext : entryFor table "itertools.combinations.__next__" = some Builtin.«itertools.combinations.__next__» := entryFor_of_tree (by kernel_rfl)
theorem cb_eiter : entryFor table "itertools.combinations.__iter__" = some Builtin.«dict_keyiterator.__iter__» :=
  entryFor_alias (id' := "dict_keyiterator.__iter__") (by kernel_rfl) (by first | rfl | decide +kernel | (unfold String.splitOn; simp +decide [String.splitOnAux])) (by decide +kernel) (by kernel_rfl)
theorem cb_owner : Manifest.owners.lookup (String.ofList ['s', 'n', 'o', 'i', 't', 'a', 'n', 'i', 'b', 'm', 'o', 'c', '.', 's', 'l', 'o', 'o', 't', 'r', 'e', 't', 'i'].reverse) = some Manifest.sig_itertools_combinations := by kernel_rfl
theorem cb_anext (a : Value) : argsOk "itertools.combinations.__next__" ⟨[a], []⟩ := by
  unfold argsOk; rw [signature?_of (id := "itertools.combinations.__next__") (n := ['_', '_', 't', 'x', 'e', 'n', '_', '_']) (o := ['s', 'n', 'o', 'i', 't', 'a', 'n', 'i', 'b', 'm', 'o', 'c', '.', 's', 'l', 'o', 'o', 't', 'r', 'e', 't', 'i']) (by kernel_rfl) cb_owner]; kernel_rfl
theorem cb_aiter (a : Value) : argsOk "itertools.combinations.__iter__" ⟨[a], []⟩ := by
  unfold argsOk; rw [signature?_of (id := "itertools.combinations.__iter__") (n := ['_', '_', 'r', 'e', 't', 'i', '_', '_']) (o := ['s', 'n', 'o', 'i', 't', 'a', 'n', 'i', 'b', 'm', 'o', 'c', '.', 's', 'l', 'o', 'o', 't', 'r', 'e', 't', 'i']) (by kernel_rfl) cb_owner]; kernel_rfl
theorem cb_nodict : typeHasDict (.type "itertools.combinations") = false := by decide +kernel
theorem cb_nolen : typeLookup (.type "itertools.combinations") "__len__" = pure none := by rw [typeLookup_type, builtinLookup_eq_fast]; kernel_rfl
theorem cb_nohint : typeLookup (.type "itertools.combinations") "__length_hint__" = pure none := by rw [typeLookup_type, builtinLookup_eq_fast]; kernel_rfl
end CB
set_option Elab.async false
set_option linter.all false
set_option maxRecDepth 100000
set_option maxHeartbeats 4000000
/-! FN24: itertools.combinations, made and drawn. -/
namespace CB
open PySem PySem.W PyProof.Rows
/-! ### the object -/
/-- the next indices of n things -/
def nx (n : Nat) (ix : List Nat) : Option (List Nat) := match (List.range ix.length).reverse.find? fun i => ix.getD i 0 != i + n - ix.length with
  | none => none
  | some i => some (ix.take i ++ (List.range (ix.length - i)).map (ix.getD i 0 + 1 + ·))
def flds (T : Addr) (st : Int) (last : Value) (ix : List Nat) : Array Value := ([.ref T, rawInt st, last] ++ ix.map fun (i : Nat) => rawInt i).toArray
abbrev IsCb (h : Heap) (I T : Addr) (st : Int) (last : Value) (ix : List Nat) : Prop := h.get? I = some { cls := .type "itertools.combinations", dict := none, data := .fields (flds T st last ix), slots := #[] }
abbrev IsPool (h : Heap) (T : Addr) (vs : List Value) : Prop := h.get? T = some { cls := .type "tuple", data := .seq vs.toArray }
def poolH (h : Heap) (vs : List Value) : Heap := h.push { cls := .type "tuple", data := .seq vs.toArray }
def cbH (h : Heap) (vs : List Value) (r : Nat) : Heap := (poolH h vs).push { cls := .type "itertools.combinations", data := .fields (flds h.objs.size (if r > vs.length then 2 else 0) .none (List.range r)) }
theorem new_cb (prog : Program) (w : World) (x : Value) (k : Nat) (t : Tok) (hk : k ≤ 1000) : MeetsIn prog w (Builtin.«itertools.combinations.__new__» ⟨[.type "itertools.combinations", x, .int k t], []⟩)
    (fun A R s => wpAny (model prog w) A.in1 (collect x) (fun vs s1 => vs.length ≤ sizeLine ∧ R (.ok (.ret (.ref (poolH s1.heap vs).objs.size))) { s1 with heap := cbH s1.heap vs k }) (fun e s1 => R (.error e) s1) s) :=
  .of_wp fun A R s h => by
    unfold Builtin.«itertools.combinations.__new__»
    have hsub := cb_sub
    have hd := cb_nodict
    have hk2 : ¬ ((decide ((k : Int) < -2 ^ 63) || decide ((k : Int) ≥ 2 ^ 63)) = true) := by
      have a : decide ((k : Int) < -2 ^ 63) = false := decide_eq_false (by omega)
      have b : decide ((k : Int) ≥ 2 ^ 63) = false := decide_eq_false (by omega)
      rw [a, b]
      decide
    have e0 : ("itertools." ++ "combinations" : String) = "itertools.combinations" := by decide +kernel
    iterate 70 (first
      | rw [e0]
      | wp_step
      | simp only [List.head?_cons, Option.some_or, List.getElem?_cons_succ, List.getElem?_cons_zero, List.length_cons, List.length_nil, List.forIn_nil]
      | rw [if_neg hk2])
    refine wpAny_mono h (fun vs s1 hR => ?_) fun _ _ z => z
    obtain ⟨hz, hR⟩ := hR
    rw [if_neg (show ¬ (k : Int) < 0 by omega), if_neg (show ¬ Builtin.Itertools.itTooMany (k : Int) = true by
      show ¬ decide ((k : Int) > 2 ^ 20) = true
      rw [decide_eq_true_eq]
      omega)]
    refine wpAny_bind (wpAny_newTuple (wpAny_pure ?_) hz)
    show wpAny _ _ (Builtin.Itertools.itNewRecord (.type "itertools.combinations") _ >>= _) _ _ _
    unfold Builtin.Itertools.itNewRecord
    refine wpAny_bind ?_
    rw [if_pos (by rw [cb_nodict]; rfl)]
    refine wpAny_newObj_type (wpAny_pure ⟨_, rfl, ?_⟩) ?_
    · exact hR
    · show (_ : Array Value).size ≤ sizeLine + 2
      simp
      unfold sizeLine
      omega
end CB
set_option Elab.async false
set_option linter.all false
set_option maxRecDepth 100000
set_option maxHeartbeats 4000000
/-! FN25: combinations drawn. -/
namespace CB
open PySem PySem.W PyProof.Rows
theorem flds_get (T : Addr) (st : Int) (last : Value) (ix : List Nat) : (flds T st last ix)[0]? = some (.ref T) ∧ (flds T st last ix)[1]? = some (rawInt st) ∧ (flds T st last ix)[2]? = some last ∧ (flds T st last ix).toList.drop 3 = ix.map (fun (i : Nat) => rawInt i) ∧ (flds T st last ix).size = ix.length + 3 := by
  unfold flds
  refine ⟨rfl, rfl, rfl, rfl, ?_⟩
  simp
theorem flds_set1 (T : Addr) (st st' : Int) (last : Value) (ix : List Nat) : (flds T st last ix).setIfInBounds 1 (rawInt st') = flds T st' last ix := by
  unfold flds
  simp
theorem flds_set2 (T : Addr) (st : Int) (last last' : Value) (ix : List Nat) : (flds T st last ix).setIfInBounds 2 last' = flds T st last' ix := by
  unfold flds
  simp
theorem flds_ix (T : Addr) (st : Int) (last : Value) (ix ix' : List Nat) : (flds T st last ix).extract 0 3 ++ (ix'.map fun (n : Nat) => rawInt n).toArray = flds T st last ix' := by
  unfold flds
  simp
theorem nums_back (ix : List Nat) : (ix.map (fun (i : Nat) => rawInt i)).map (fun | .int n _ => n.toNat | _ => 0) = ix := by
  rw [List.map_map]
  conv => rhs; rw [← List.map_id ix]
  rfl
section
variable {prog : Program} {w : World} {A : Around} {E : Value → Shared → Prop} {s : Shared}
/-- what is handed out: a new tuple, noted in the object -/
def outT (vs : List Value) (ix : List Nat) : List Value := ix.map fun i => vs.toArray.getD i .none
def KeepBut (I : Addr) (h h' : Heap) : Prop := ∀ b o, b ≠ I → h.get? b = some o → h'.get? b = some o
theorem cb_first {I T : Addr} {vs : List Value} {last : Value} {ix : List Nat} {Q : Value → Shared → Prop} (hI : IsCb s.heap I T 0 last ix) (hT : IsPool s.heap T vs) (hne : T ≠ I) (hz : ix.length ≤ 1000)
    (hQ : ∀ h', IsCb h' I T 1 (.ref s.heap.objs.size) ix → h'.get? s.heap.objs.size = some { cls := .type "tuple", data := .seq (outT vs ix).toArray } → KeepBut I s.heap h' → Q (.ref s.heap.objs.size) { s with heap := h' }) :
    wpAny (model prog w) A (Builtin.«itertools.combinations.__next__» ⟨[.ref I], []⟩) (fun fin s' => ∃ v, fin = .done (.ret v) ∧ Q v s') E s := by
  have f := flds_get T 0 last ix
  show wpAny _ _ (field (.ref I) 0 >>= _) _ _ _
  refine wpAny_bind (wpAny_field hI rfl (x := .ref T) f.1 ?_)
  show wpAny _ _ (Builtin.Itertools.itNumbersFrom (.ref I) 3 >>= _) _ _ _
  refine wpAny_bind ?_
  show wpAny _ _ (load I >>= _) _ _ _
  refine wpAny_bind (wpAny_load hI ?_)
  refine wpAny_pure ?_
  simp only [show (flds T 0 last ix).toList.drop 3 = ix.map (fun (i : Nat) => rawInt i) from rfl, List.map_map, Function.comp_def, rawInt, Int.toNat_natCast, List.map_id_fun', id]
  show wpAny _ _ (Builtin.Itertools.itIntField (.ref I) 1 >>= _) _ _ _
  refine wpAny_bind ?_
  show wpAny _ _ (field (.ref I) 1 >>= _) _ _ _
  refine wpAny_bind (wpAny_field hI rfl (x := rawInt 0) f.2.1 (wpAny_pure ?_))
  show wpAny _ _ (setField (.ref I) 1 (rawInt 1) >>= _) _ _ _
  refine wpAny_bind (wpAny_setField hI rfl (by rw [f.2.2.2.2]; omega) ?_)
  have hI1 : IsCb (s.heap.update I (Obj.mapFields fun x => x.setIfInBounds 1 (rawInt 1))) I T 1 last ix := by
    have := Heap.get?_update_self (Obj.mapFields fun x => x.setIfInBounds 1 (rawInt 1)) hI rfl
    rw [show Obj.mapFields (fun x => x.setIfInBounds 1 (rawInt 1)) { cls := .type "itertools.combinations", dict := none, data := .fields (flds T 0 last ix), slots := #[] } = { cls := .type "itertools.combinations", dict := none, data := .fields ((flds T 0 last ix).setIfInBounds 1 (rawInt 1)), slots := #[] } from rfl, flds_set1] at this
    exact this
  have hT1 : IsPool (s.heap.update I (Obj.mapFields fun x => x.setIfInBounds 1 (rawInt 1))) T vs := (Heap.get?_update_other _ _ (Ne.symm hne)).trans hT
  refine wpAny_bind ?_
  show wpAny _ _ (Builtin.Itertools.itPoolItems (.ref T) >>= _) _ _ _
  refine wpAny_bind ?_
  show wpAny _ _ (seqItems? (.ref T) >>= _) _ _ _
  refine wpAny_bind (wpAny_seqItems hT1 rfl ?_)
  refine wpAny_pure ?_
  refine wpAny_newTuple ?_ (by rw [List.length_map]; unfold sizeLine; omega)
  have hI2 := Heap.get?_push_of_some { cls := .type "tuple", data := .seq (List.map (fun i => vs.toArray.getD i Value.none) ix).toArray } hI1
  have f2 := flds_get T 1 last ix
  refine wpAny_bind (wpAny_field hI2 rfl (x := last) f2.2.2.1 ?_)
  refine wpAny_bind (wpAny_setField hI2 rfl (by rw [f2.2.2.2.2]; omega) ?_)
  refine wpAny_bind (wpAny_letGo ?_)
  have hsz : (s.heap.update I (Obj.mapFields fun x => x.setIfInBounds 1 (rawInt 1))).objs.size = s.heap.objs.size := Heap.size_update ..
  refine wpAny_pure ⟨_, rfl, ?_⟩
  rw [hsz]
  have hIs : I < s.heap.objs.size := Heap.lt_size hI
  refine hQ _ ?_ ?_ ?_
  · have := Heap.get?_update_self (Obj.mapFields fun x => x.setIfInBounds 2 (Value.ref s.heap.objs.size)) hI2 rfl
    rw [show Obj.mapFields (fun x => x.setIfInBounds 2 (Value.ref s.heap.objs.size)) { cls := .type "itertools.combinations", dict := none, data := .fields (flds T 1 last ix), slots := #[] } = { cls := .type "itertools.combinations", dict := none, data := .fields ((flds T 1 last ix).setIfInBounds 2 (Value.ref s.heap.objs.size)), slots := #[] } from rfl, flds_set2] at this
    exact this
  · refine (Heap.get?_update_other _ _ (Nat.ne_of_lt hIs)).trans ?_
    have := Heap.get?_push_size (s.heap.update I (Obj.mapFields fun x => x.setIfInBounds 1 (rawInt 1))) (o := { cls := .type "tuple", data := .seq (outT vs ix).toArray }) rfl
    rw [hsz] at this
    exact this
  · intro b o hb e
    exact (Heap.get?_update_other _ _ (Ne.symm hb)).trans (Heap.get?_push_of_some _ ((Heap.get?_update_other _ _ (Ne.symm hb)).trans e))
theorem cb_more {I T : Addr} {vs : List Value} {last : Value} {ix ix' : List Nat} {Q : Value → Shared → Prop} (hI : IsCb s.heap I T 1 last ix) (hT : IsPool s.heap T vs) (hne : T ≠ I) (hz : ix'.length ≤ 1000) (hn : nx vs.length ix = some ix')
    (hQ : ∀ h', IsCb h' I T 1 (.ref s.heap.objs.size) ix' → h'.get? s.heap.objs.size = some { cls := .type "tuple", data := .seq (outT vs ix').toArray } → KeepBut I s.heap h' → Q (.ref s.heap.objs.size) { s with heap := h' }) :
    wpAny (model prog w) A (Builtin.«itertools.combinations.__next__» ⟨[.ref I], []⟩) (fun fin s' => ∃ v, fin = .done (.ret v) ∧ Q v s') E s := by
  have f := flds_get T 1 last ix
  show wpAny _ _ (field (.ref I) 0 >>= _) _ _ _
  refine wpAny_bind (wpAny_field hI rfl (x := .ref T) f.1 ?_)
  show wpAny _ _ (Builtin.Itertools.itNumbersFrom (.ref I) 3 >>= _) _ _ _
  refine wpAny_bind ?_
  show wpAny _ _ (load I >>= _) _ _ _
  refine wpAny_bind (wpAny_load hI ?_)
  refine wpAny_pure ?_
  simp only [show (flds T 1 last ix).toList.drop 3 = ix.map (fun (i : Nat) => rawInt i) from rfl, List.map_map, Function.comp_def, rawInt, Int.toNat_natCast, List.map_id_fun', id]
  show wpAny _ _ (Builtin.Itertools.itIntField (.ref I) 1 >>= _) _ _ _
  refine wpAny_bind ?_
  show wpAny _ _ (field (.ref I) 1 >>= _) _ _ _
  refine wpAny_bind (wpAny_field hI rfl (x := rawInt 1) f.2.1 (wpAny_pure ?_))
  show wpAny _ _ (Builtin.Itertools.itPoolItems (.ref T) >>= _) _ _ _
  refine wpAny_bind ?_
  show wpAny _ _ (seqItems? (.ref T) >>= _) _ _ _
  refine wpAny_bind (wpAny_seqItems hT rfl ?_)
  refine wpAny_pure ?_
  have hn' : nx vs.toArray.size ix = some ix' := by rw [List.size_toArray]; exact hn
  split
  · rename_i next heq
    have e : some next = some ix' := heq.symm.trans hn'
    cases e
    have upd1 := Heap.get?_update_self (Obj.mapFields fun fs => fs.extract 0 3 ++ (ix'.map fun (n : Nat) => rawInt n).toArray) hI rfl
    rw [show Obj.mapFields (fun fs => fs.extract 0 3 ++ (ix'.map fun (n : Nat) => rawInt n).toArray) { cls := .type "itertools.combinations", dict := none, data := .fields (flds T 1 last ix), slots := #[] } = { cls := .type "itertools.combinations", dict := none, data := .fields ((flds T 1 last ix).extract 0 3 ++ (ix'.map fun (n : Nat) => rawInt n).toArray), slots := #[] } from rfl, flds_ix] at upd1
    have hI1 : IsCb (s.heap.update I (Obj.mapFields fun fs => fs.extract 0 3 ++ (ix'.map fun (n : Nat) => rawInt n).toArray)) I T 1 last ix' := upd1
    have hT1 : IsPool (s.heap.update I (Obj.mapFields fun fs => fs.extract 0 3 ++ (ix'.map fun (n : Nat) => rawInt n).toArray)) T vs := (Heap.get?_update_other _ _ (Ne.symm hne)).trans hT
    refine wpAny_bind ?_
    show wpAny _ _ (updateFields I fun fs => fs.extract 0 3 ++ (ix'.map fun (n : Nat) => rawInt n).toArray) _ _ _
    refine wpAny_updateFields hI rfl ?_ (by rw [flds_ix, (flds_get T 1 last ix').2.2.2.2]; unfold sizeLine; omega)
    refine wpAny_bind ?_
    show wpAny _ _ (Builtin.Itertools.itPoolItems (.ref T) >>= _) _ _ _
    refine wpAny_bind ?_
    show wpAny _ _ (seqItems? (.ref T) >>= _) _ _ _
    refine wpAny_bind (wpAny_seqItems hT1 rfl ?_)
    refine wpAny_pure ?_
    refine wpAny_newTuple ?_ (by rw [List.length_map]; unfold sizeLine; omega)
    have hI2 := Heap.get?_push_of_some { cls := .type "tuple", data := .seq (List.map (fun i => vs.toArray.getD i Value.none) ix').toArray } hI1
    have f2 := flds_get T 1 last ix'
    refine wpAny_bind (wpAny_field hI2 rfl (x := last) f2.2.2.1 ?_)
    refine wpAny_bind (wpAny_setField hI2 rfl (by rw [f2.2.2.2.2]; omega) ?_)
    refine wpAny_bind (wpAny_letGo ?_)
    have hsz : (s.heap.update I (Obj.mapFields fun fs => fs.extract 0 3 ++ (ix'.map fun (n : Nat) => rawInt n).toArray)).objs.size = s.heap.objs.size := Heap.size_update ..
    refine wpAny_pure ⟨_, rfl, ?_⟩
    rw [hsz]
    have hIs : I < s.heap.objs.size := Heap.lt_size hI
    refine hQ _ ?_ ?_ ?_
    · have := Heap.get?_update_self (Obj.mapFields fun x => x.setIfInBounds 2 (Value.ref s.heap.objs.size)) hI2 rfl
      rw [show Obj.mapFields (fun x => x.setIfInBounds 2 (Value.ref s.heap.objs.size)) { cls := .type "itertools.combinations", dict := none, data := .fields (flds T 1 last ix'), slots := #[] } = { cls := .type "itertools.combinations", dict := none, data := .fields ((flds T 1 last ix').setIfInBounds 2 (Value.ref s.heap.objs.size)), slots := #[] } from rfl, flds_set2] at this
      exact this
    · refine (Heap.get?_update_other _ _ (Nat.ne_of_lt hIs)).trans ?_
      have := Heap.get?_push_size (s.heap.update I (Obj.mapFields fun fs => fs.extract 0 3 ++ (ix'.map fun (n : Nat) => rawInt n).toArray)) (o := { cls := .type "tuple", data := .seq (outT vs ix').toArray }) rfl
      rw [hsz] at this
      exact this
    · intro b o hb e
      exact (Heap.get?_update_other _ _ (Ne.symm hb)).trans (Heap.get?_push_of_some _ ((Heap.get?_update_other _ _ (Ne.symm hb)).trans e))
  · rename_i heq
    have e : none = some ix' := heq.symm.trans hn'
    cases e
/-- no more: the end's exception -/
theorem cb_end {I T : Addr} {vs : List Value} {last : Value} {ix : List Nat} {st : Int} {F : Fin → Shared → Prop} (hh : A.handled = none) (hI : IsCb s.heap I T st last ix) (hT : IsPool s.heap T vs) (hn : (st = 1 ∧ nx vs.length ix = none) ∨ st = 2)
    (hQ : ∀ e h', CpRep.StopE e h' → KeepBut I s.heap h' → E e { s with heap := h' }) :
    wpAny (model prog w) A (Builtin.«itertools.combinations.__next__» ⟨[.ref I], []⟩) F E s := by
  have f := flds_get T st last ix
  show wpAny _ _ (field (.ref I) 0 >>= _) _ _ _
  refine wpAny_bind (wpAny_field hI rfl (x := .ref T) f.1 ?_)
  show wpAny _ _ (Builtin.Itertools.itNumbersFrom (.ref I) 3 >>= _) _ _ _
  refine wpAny_bind ?_
  show wpAny _ _ (load I >>= _) _ _ _
  refine wpAny_bind (wpAny_load hI ?_)
  refine wpAny_pure ?_
  simp only [show (flds T st last ix).toList.drop 3 = ix.map (fun (i : Nat) => rawInt i) from rfl, List.map_map, Function.comp_def, rawInt, Int.toNat_natCast, List.map_id_fun', id]
  show wpAny _ _ (Builtin.Itertools.itIntField (.ref I) 1 >>= _) _ _ _
  refine wpAny_bind ?_
  show wpAny _ _ (field (.ref I) 1 >>= _) _ _ _
  refine wpAny_bind (wpAny_field hI rfl (x := rawInt st) f.2.1 (wpAny_pure ?_))
  have stop : ∀ (s1 : Shared), KeepBut I s.heap s1.heap → (∃ h1, s1 = { s with heap := h1 }) → wpAny (model prog w) A (Builtin.Itertools.itStop : Sem Fin) F E s1 := by
    rintro _ hk ⟨h1, rfl⟩
    show wpAny _ _ (newExc (.type "StopIteration") [] >>= _) _ _ _
    refine wpAny_bind ?_
    simp only [newExc, newTuple]
    refine wpAny_bind (wpAny_newObj_type ?_ (by size_fits))
    refine wpAny_bind (m := firstArgMember _ _) (wpAny_of_eq (a := Value.none) (by first | rfl | (simp only [firstArgMember]; rfl)) ?_)
    refine wpAny_newObj_type ?_ (by size_fits)
    simp only [raiseNew]
    refine wpAny_bind (wpAny_handled ?_)
    rw [hh]
    refine wpAny_bind (wpAny_pure (wpAny_throw ?_))
    exact hQ _ _ ⟨_, _, _, rfl, Heap.get?_push_size _ rfl, rfl, rfl, rfl⟩ fun b o hb e => Heap.get?_push_of_some _ (Heap.get?_push_of_some _ (hk b o hb e))
  rcases hn with ⟨rfl, hn⟩ | rfl
  · show wpAny _ _ (Builtin.Itertools.itPoolItems (.ref T) >>= _) _ _ _
    refine wpAny_bind ?_
    show wpAny _ _ (seqItems? (.ref T) >>= _) _ _ _
    refine wpAny_bind (wpAny_seqItems hT rfl ?_)
    refine wpAny_pure ?_
    have hn' : nx vs.toArray.size ix = none := by rw [List.size_toArray]; exact hn
    split
    · rename_i next heq
      have e : some next = none := heq.symm.trans hn'
      cases e
    · refine wpAny_bind (wpAny_setField hI rfl (by rw [f.2.2.2.2]; omega) ?_)
      exact stop _ (fun b o hb e => (Heap.get?_update_other _ _ (Ne.symm hb)).trans e) ⟨_, rfl⟩
  · show wpAny _ _ (rule _ >>= _) _ _ _
    refine wpAny_bind (wpAny_rule ?_)
    exact stop _ (fun b o hb e => e) ⟨_, rfl⟩
end
end CB
set_option Elab.async false
set_option linter.all false
set_option maxRecDepth 100000
set_option maxHeartbeats 4000000
/-! FN26: combinations collected, walked. -/
namespace CB
open PySem PySem.W PyProof.Rows
/-- L: all rows of indices, one after the other -/
def Chain (n r : Nat) (L : List (List Nat)) : Prop := (∀ i a, L[i]? = some a → nx n a = L[i + 1]? ∧ a.length ≤ 1000) ∧ (if r > n then L = [] else L[0]? = some (List.range r))
def CbSt (h : Heap) (I T : Addr) (vs : List Value) (L : List (List Nat)) (i : Nat) : Prop := IsPool h T vs ∧ ∃ st last ix, IsCb h I T st last ix ∧ ((i = 0 ∧ st = 0 ∧ L[0]? = some ix) ∨ (∃ j, i = j + 1 ∧ st = 1 ∧ L[j]? = some ix) ∨ (i = 0 ∧ st = 2 ∧ L = []))
theorem CbSt.keep {h h' : Heap} {I T : Addr} {vs : List Value} {L : List (List Nat)} {i : Nat} (c : CbSt h I T vs L i) (k1 : ∀ o, h.get? I = some o → h'.get? I = some o) (k2 : ∀ o, h.get? T = some o → h'.get? T = some o) : CbSt h' I T vs L i := by
  obtain ⟨hp, st, last, ix, hI, r⟩ := c
  exact ⟨k2 _ hp, st, last, ix, k1 _ hI, r⟩
theorem CbSt.typeIs {s : Shared} {I T : Addr} {vs : List Value} {L : List (List Nat)} {i : Nat} (c : CbSt s.heap I T vs L i) : s.TypeIs (.ref I) "itertools.combinations" := by
  obtain ⟨hp, st, last, ix, hI, r⟩ := c
  exact ⟨_, hI, rfl⟩
abbrev tupO (vs : List Value) (ix : List Nat) : Obj := { cls := .type "tuple", data := .seq (outT vs ix).toArray }
section
variable {prog : Program} {w : World} {A : Around} {E : Value → Shared → Prop} {s : Shared}
theorem cb_item {I T : Addr} {vs : List Value} {L : List (List Nat)} {r i : Nat} {ix : List Nat} {Q : Option Value → Shared → Prop} (ch : Chain vs.length r L) (c : CbSt s.heap I T vs L i) (hne : T ≠ I) (hi : L[i]? = some ix)
    (hQ : ∀ h', CbSt h' I T vs L (i + 1) → h'.get? s.heap.objs.size = some (tupO vs ix) → KeepBut I s.heap h' → Q (some (.ref s.heap.objs.size)) { s with heap := h' }) : wpAny (model prog w) A (pyNext (.ref I)) Q E s := by
  have hT0 := c.typeIs
  obtain ⟨hp, st, last, ix0, hI, r⟩ := c
  have hz := (ch.1 _ _ hi).2
  have fin : ∀ h', IsCb h' I T 1 (.ref s.heap.objs.size) ix → h'.get? s.heap.objs.size = some (tupO vs ix) → KeepBut I s.heap h' → Q (some (.ref s.heap.objs.size)) { s with heap := h' } := fun h' a b k => hQ h' ⟨k _ _ hne hp, 1, _, ix, a, .inr (.inl ⟨i, rfl, rfl, hi⟩)⟩ b k
  unfold pyNext
  refine wpAny_bind (wpAny_attempt (wpAny_callSpecial?_slot (name := Str.ofString "__next__") hT0 cb_snext (wpAny_call_entry cb_snext hT0 cb_enext ?_ (cb_anext _))))
  rcases r with ⟨rfl, rfl, e⟩ | ⟨j, rfl, rfl, e⟩ | ⟨rfl, rfl, rfl⟩
  · rw [e] at hi
    cases hi
    exact cb_first hI hp hne hz fun h' a b k => wpAny_pure (fin h' a b k)
  · have := (ch.1 _ _ e).1
    rw [hi] at this
    exact cb_more hI hp hne hz this fun h' a b k => wpAny_pure (fin h' a b k)
  · cases hi
theorem cb_done {I T : Addr} {vs : List Value} {L : List (List Nat)} {r : Nat} {Q : Option Value → Shared → Prop} (hh : A.handled = none) (ch : Chain vs.length r L) (c : CbSt s.heap I T vs L L.length)
    (hQ : ∀ h', KeepBut I s.heap h' → Q none { s with heap := h' }) : wpAny (model prog w) A (pyNext (.ref I)) Q E s := by
  have hT0 := c.typeIs
  obtain ⟨hp, st, last, ix0, hI, r⟩ := c
  unfold pyNext
  refine wpAny_bind (wpAny_attempt (wpAny_callSpecial?_slot (name := Str.ofString "__next__") hT0 cb_snext (wpAny_call_entry cb_snext hT0 cb_enext ?_ (cb_anext _))))
  refine cb_end (ix := ix0) hh hI hp ?_ fun e h' he hk => ?_
  · rcases r with ⟨e, _, e2⟩ | ⟨j, e, e1, e2⟩ | ⟨_, e, _⟩
    · rw [show L = [] from List.length_eq_zero_iff.mp e] at e2
      cases e2
    · refine .inl ⟨e1, ?_⟩
      rw [(ch.1 _ _ e2).1, List.getElem?_eq_none (by omega)]
    · exact .inr e
  · obtain ⟨a, o, vs', rfl, ho, hc, _⟩ := he
    refine wpAny_bind (wpAny_isInstance (T := "StopIteration") (b := true) ⟨o, ho, hc⟩ isSubtype_stop ?_)
    exact wpAny_pure (hQ _ hk)
theorem cb_self {I T : Addr} {vs : List Value} {L : List (List Nat)} {i : Nat} {Q : Value → Shared → Prop} (c : CbSt s.heap I T vs L i) (h : Q (.ref I) s) : wpAny (model prog w) A (pyIter (.ref I)) Q E s := by
  have hT := c.typeIs
  refine wpAny_pyIter_slot hT cb_siter (wpAny_call_entry cb_siter hT cb_eiter ?_ (cb_aiter _))
  show wpAny _ _ (ret (.ref I)) _ _ s
  exact wpAny_pure ⟨_, rfl, "itertools.combinations", _, hT, cb_snext.lookup, h⟩
/-- as: the new tuples' addresses -/
def Made (h : Heap) (vs : List Value) (L : List (List Nat)) (as : List Addr) : Prop := as.Nodup ∧ ∀ (j : Nat) (a : Addr), as[j]? = some a → ∃ ix : List Nat, L[j]? = some ix ∧ h.get? a = some (tupO vs ix)
theorem cb_loop {S I T : Addr} {vs : List Value} {L : List (List Nat)} {r : Nat} {R : Result → Shared → Prop} (hh : A.handled = none) (ch : Chain vs.length r L) (hTI : T ≠ I) (hTS : T ≠ S) (hIS : I ≠ S) (hn : L.length ≤ sizeLine) (res : Value) {h0 : Heap}
    (hR : ∀ h' acc c as, (∀ b o, b ≠ S → b ≠ I → h0.get? b = some o → h'.get? b = some o) → h'.get? S = some { cls := .type "list", dict := none, data := .seq acc c, slots := #[] } → as.length = L.length → Made h' vs L as → (∀ a ∈ as, h0.objs.size ≤ a) →
      acc.toList = as.map Value.ref → R (.ok (.ret res)) { s with heap := h' }) :
    ∀ (k i : Nat) (h : Heap) (c : Nat) (acc : Array Value) (as : List Addr), L.length - i = k → i ≤ L.length → CbSt h I T vs L i → (∀ b o, b ≠ S → b ≠ I → h0.get? b = some o → h.get? b = some o) → h0.objs.size ≤ h.objs.size → (∀ a ∈ as, h0.objs.size ≤ a) →
      I < h0.objs.size → S < h0.objs.size → h.get? S = some { cls := .type "list", dict := none, data := .seq acc c, slots := #[] } → acc.toList = as.map Value.ref → as.length = i → Made h vs L as →
      codeAny (model prog w) A (.builtin "list.extend.loop" ⟨[.ref S, .ref I, res], []⟩) R { s with heap := h } := by
  intro k
  induction k with
  | zero =>
    intro i h c acc as hk hi hst hkeep hsz has hI0 hS0 hS hacc hal hm
    have hin : i = L.length := by omega
    subst hin
    refine codeAny_builtin PySem.F.entry_extend_loop ?_
    rw [Around.under_plainId PySem.F.plain_extend_loop _]
    show wpAny _ A.in1 (pyNext (.ref I) >>= _) _ _ _
    refine wpAny_bind (cb_done (s := { s with heap := h }) (A := A.in1) (r := r) hh ch hst fun h' hk' => ?_)
    refine wpAny_pure (hR h' acc c as (fun b o h1 h2 e => hk' b o h2 (hkeep b o h1 h2 e)) (hk' S _ (Ne.symm hIS) hS) hal ⟨hm.1, fun j a hj => ?_⟩ has hacc)
    obtain ⟨ix, e1, e2⟩ := hm.2 j a hj
    exact ⟨ix, e1, hk' a _ (Nat.ne_of_gt (Nat.lt_of_lt_of_le hI0 (has a (List.mem_of_getElem? hj)))) e2⟩
  | succ k ih =>
    intro i h c acc as hk hi hst hkeep hsz has hI0 hS0 hS hacc hal hm
    have hlt : i < L.length := by omega
    have hsz2 : acc.size = i := by rw [← Array.length_toList, hacc, List.length_map, hal]
    refine codeAny_builtin PySem.F.entry_extend_loop ?_
    rw [Around.under_plainId PySem.F.plain_extend_loop _]
    show wpAny _ A.in1 (pyNext (.ref I) >>= _) _ _ _
    refine wpAny_bind (cb_item (s := { s with heap := h }) (r := r) ch hst hTI (List.getElem?_eq_getElem hlt) fun h' hst' ht hkp => ?_)
    dsimp only at ht hkp ⊢
    have hS' := hkp S _ (Ne.symm hIS) hS
    have up : ∀ b o, b ≠ S → h'.get? b = some o → (h'.update S (Obj.mapSeq (·.push (Value.ref h.objs.size)))).get? b = some o := fun b o hb e => (Heap.get?_update_other _ _ (Ne.symm hb)).trans e
    have hlt2 : h.objs.size < h'.objs.size := Heap.lt_size ht
    have hIh : I < h.objs.size := Nat.lt_of_lt_of_le hI0 hsz
    have hSh : S < h.objs.size := Nat.lt_of_lt_of_le hS0 hsz
    show wpAny _ A.in1 (updateSeq S (·.push (Value.ref h.objs.size)) >>= _) _ _ _
    refine wpAny_bind ?_
    refine wpAny_updateSeq hS' rfl (wpAny_pure ⟨plainId_quiet PySem.F.plain_extend_loop _, ih (i + 1) _ _ (acc.push (Value.ref h.objs.size)) (as ++ [h.objs.size]) (by omega) hlt (hst'.keep (fun o e => up I o hIS e) (fun o e => up T o hTS e))
      (fun b o h1 h2 e => up b o h1 (hkp b o h2 (hkeep b o h1 h2 e))) (by show h0.objs.size ≤ (h'.update S (Obj.mapSeq (·.push (Value.ref h.objs.size)))).objs.size; rw [Heap.size_update]; omega) ?_ hI0 hS0 (Heap.get?_update_self _ hS' rfl) (by rw [Array.toList_push, hacc, List.map_append]; rfl) (by rw [List.length_append, hal]; rfl) ?_⟩) (by rw [hsz2]; omega) (by show (acc.push (Value.ref h.objs.size)).size ≤ sizeLine + 1; rw [Array.size_push, hsz2]; omega)
    · intro a ha
      rcases List.mem_append.mp ha with ha | ha
      · exact has a ha
      · rw [List.mem_singleton.mp ha]; exact hsz
    · refine ⟨List.nodup_append.mpr ⟨hm.1, List.nodup_cons.mpr ⟨by simp, List.nodup_nil⟩, fun a ha b hb => ?_⟩, fun j b hj => ?_⟩
      · rw [List.mem_singleton.mp hb]
        obtain ⟨j, hj⟩ := List.mem_iff_getElem?.mp ha
        obtain ⟨ix, _, e2⟩ := hm.2 j a hj
        exact Nat.ne_of_lt (Heap.lt_size e2)
      rcases Nat.lt_trichotomy j as.length with h1 | h1 | h1
      · rw [List.getElem?_append_left h1] at hj
        obtain ⟨ix, e1, e2⟩ := hm.2 j b hj
        have hb := has b (List.mem_of_getElem? hj)
        exact ⟨ix, e1, up b _ (Nat.ne_of_gt (Nat.lt_of_lt_of_le hS0 hb)) (hkp b _ (Nat.ne_of_gt (Nat.lt_of_lt_of_le hI0 hb)) e2)⟩
      · subst h1
        have hb : h.objs.size = b := by simpa using hj
        subst hb
        exact ⟨_, by rw [hal]; exact List.getElem?_eq_getElem hlt, up _ _ (Nat.ne_of_gt hSh) ht⟩
      · have hnone : (as ++ [h.objs.size])[j]? = none := List.getElem?_eq_none (by rw [List.length_append, List.length_singleton]; omega)
        rw [hnone] at hj; cases hj
theorem cb_collect {I T : Addr} {vs : List Value} {L : List (List Nat)} {r : Nat} {Q : List Value → Shared → Prop} (hh : A.handled = none) (ch : Chain vs.length r L) (hTI : T ≠ I) (hn : L.length ≤ sizeLine) (hst : CbSt s.heap I T vs L 0)
    (hQ : ∀ h' as, KeepBut I s.heap h' → as.length = L.length → Made h' vs L as → (∀ a ∈ as, s.heap.objs.size ≤ a) → s.heap.objs.size ≤ h'.objs.size → Q (as.map Value.ref) { s with heap := h' }) : wpAny (model prog w) A (collect (.ref I)) Q E s := by
  have hT := hst.typeIs
  obtain ⟨hp, st, last, ix0, hI, _⟩ := id hst
  have hIs : I < s.heap.objs.size := Heap.lt_size hI
  have hTs : T < s.heap.objs.size := Heap.lt_size hp
  have nI : s.heap.objs.size ≠ I := Nat.ne_of_gt hIs
  have nT : s.heap.objs.size ≠ T := Nat.ne_of_gt hTs
  unfold collect
  refine wpAny_bind (wpAny_runValue (codeAny_builtin F.entry_proto_collect ?_))
  rw [Around.under_plainId F.plain_proto_collect _]
  show wpAny _ A.in1 (newList [] >>= fun z => again (.builtin "list.__iadd__" ⟨[z, .ref I], []⟩)) _ _ s
  refine wpAny_bind (wpAny_newObj_type ?_)
  refine wpAny_pure ⟨plainId_quiet F.plain_list_iadd _, codeAny_builtin F.entry_list_iadd ?_⟩
  rw [Around.under_plainId F.plain_list_iadd _]
  have st1 : CbSt (s.heap.push { cls := .type "list", data := .seq ([] : List Value).toArray }) I T vs L 0 := hst.keep (fun o e => Heap.get?_push_of_some _ e) fun o e => Heap.get?_push_of_some _ e
  show wpAny _ A.in1 (Builtin.List.listExtendWith (.ref s.heap.objs.size) (.ref I) (.ref s.heap.objs.size)) _ _ _
  unfold Builtin.List.listExtendWith
  have hT1 : ({ s with heap := s.heap.push { cls := .type "list", data := .seq ([] : List Value).toArray } } : Shared).TypeIs (.ref I) "itertools.combinations" := CbSt.typeIs (s := { s with heap := s.heap.push { cls := .type "list", data := .seq ([] : List Value).toArray } }) st1
  refine wpAny_bind (wpAny_typeOf hT1 ?_)
  have no1 : Builtin.List.listSameRef (.ref s.heap.objs.size) (.ref I) = false := by simp [Builtin.List.listSameRef, nI]
  rw [if_neg (by rw [no1]; decide)]
  refine wpAny_bind (cb_self (s := { s with heap := s.heap.push { cls := .type "list", data := .seq ([] : List Value).toArray } }) st1 ?_)
  refine wpAny_bind (wpAny_holding ?_)
  unfold Builtin.List.listLengthHint
  refine wpAny_bind (wpAny_specialOf hT1 cb_nolen ?_)
  show wpAny _ A.in1 (specialOf (Value.ref I) (Str.ofString "__length_hint__") >>= _) _ _ _
  refine wpAny_bind (wpAny_specialOf hT1 cb_nohint ?_)
  refine wpAny_pure ?_
  show wpAny _ A.in1 (rule "list.extend.makes-room" >>= fun _ => Builtin.List.listTouch (.ref s.heap.objs.size) >>= fun _ =>
    again (.builtin "list.extend.loop" ⟨[.ref s.heap.objs.size, .ref I, .ref s.heap.objs.size], []⟩)) _ _ _
  refine wpAny_bind (wpAny_rule ?_)
  have g1 : (s.heap.push { cls := .type "list", data := .seq ([] : List Value).toArray }).get? s.heap.objs.size = some { cls := .type "list", data := .seq ([] : List Value).toArray } := Heap.get?_push_size _ rfl
  refine wpAny_bind ?_
  show wpAny _ A.in1 (updateSeq s.heap.objs.size (·.push .none) >>= fun _ => updateSeq s.heap.objs.size (·.pop)) _ _ _
  refine wpAny_bind (wpAny_updateSeq g1 rfl ?_)
  have g2 := Heap.get?_update_self (Obj.mapSeq (·.push Value.none)) g1 rfl
  refine wpAny_updateSeq g2 rfl ?_
  have g3 := Heap.get?_update_self (Obj.mapSeq (·.pop)) g2 rfl
  have oth : ∀ b o, b ≠ s.heap.objs.size → (s.heap.push { cls := .type "list", data := .seq ([] : List Value).toArray }).get? b = some o →
      (((s.heap.push { cls := .type "list", data := .seq ([] : List Value).toArray }).update s.heap.objs.size (Obj.mapSeq (·.push Value.none))).update s.heap.objs.size (Obj.mapSeq (·.pop))).get? b = some o :=
    fun b o hb e => (Heap.get?_update_other _ _ (Ne.symm hb)).trans ((Heap.get?_update_other _ _ (Ne.symm hb)).trans e)
  have sz : (((s.heap.push { cls := .type "list", data := .seq ([] : List Value).toArray }).update s.heap.objs.size (Obj.mapSeq (·.push Value.none))).update s.heap.objs.size (Obj.mapSeq (·.pop))).objs.size = s.heap.objs.size + 1 := by
    rw [Heap.size_update, Heap.size_update, size_push']
  refine wpAny_pure ⟨plainId_quiet F.plain_extend_loop _, cb_loop (A := A) (s := s) (r := r) (h0 := ((s.heap.push { cls := .type "list", data := .seq ([] : List Value).toArray }).update s.heap.objs.size (Obj.mapSeq (·.push Value.none))).update s.heap.objs.size (Obj.mapSeq (·.pop))) hh ch hTI (Ne.symm nT) (Ne.symm nI) hn _ (fun h' acc c as k1 k2 k3 k4 k5 k6 => ?_)
    L.length 0 _ _ _ [] (by omega) (Nat.zero_le _) (st1.keep (fun o e => oth I o (Ne.symm nI) e) fun o e => oth T o (Ne.symm nT) e) (fun b o _ _ e => e) (Nat.le_refl _) (fun a ha => by cases ha) (by rw [sz]; exact Nat.lt_succ_of_lt hIs) (by rw [sz]; exact Nat.lt_succ_self _) g3 rfl rfl ⟨List.nodup_nil, fun j a hj => by simp at hj⟩⟩
  show wpAny _ A (load s.heap.objs.size >>= _) _ _ _
  refine wpAny_bind (wpAny_load k2 ?_)
  refine wpAny_pure ?_
  show Q acc.toList _
  rw [k6]
  refine hQ h' as (fun b o hb e => ?_) k3 k4 (fun a ha => by have := k5 a ha; rw [sz] at this; omega) (Nat.le_of_lt (Heap.lt_size k2))
  have hbs : b ≠ s.heap.objs.size := Nat.ne_of_lt (Heap.lt_size e)
  exact k1 b o hbs hb (oth b o hbs (Heap.get?_push_of_some _ e))
end
end CB
set_option Elab.async false
set_option linter.all false
set_option maxRecDepth 100000
set_option maxHeartbeats 4000000
/-! FN27: tuple(combinations(range(..), k)). -/
namespace CB
open PySem PySem.W PyProof.Rows
section
variable {prog : Program} {w : World} {A : Around} {E : Value → Shared → Prop} {s : Shared}
theorem new_tup {I T : Addr} {vs : List Value} {L : List (List Nat)} {r : Nat} {R : Value → Shared → Prop} (hh : A.handled = none) (ch : Chain vs.length r L) (hTI : T ≠ I) (hn : L.length ≤ sizeLine) (hst : CbSt s.heap I T vs L 0)
    (hQ : ∀ h' as, KeepBut I s.heap h' → as.length = L.length → Made h' vs L as → (∀ a ∈ as, s.heap.objs.size ≤ a) → s.heap.objs.size ≤ h'.objs.size → R (.ref h'.objs.size) { s with heap := h'.push { cls := .type "tuple", data := .seq (as.map Value.ref).toArray } }) :
    codeAny (model prog w) A (.call (.builtin "tuple.__new__") ⟨[.type "tuple", .ref I], []⟩) (wants R E) s := by
  refine codeAny_of_tree ?_
  show wpAny _ A.in1 (do checkBuiltinCall "tuple.__new__" ⟨[.type "tuple", .ref I], []⟩; again (.builtin "tuple.__new__" ⟨[.type "tuple", .ref I], []⟩)) _ _ s
  refine wpAny_bind (wpAny_of_eq (F.newCall_tuple_1 _) (wpAny_pure ⟨plainId_quiet F.plain_tuple_new _, codeAny_builtin F.entry_tuple_new ?_⟩))
  rw [Around.under_plainId F.plain_tuple_new _]
  have hsub := sub_tuple_self
  have hinit := init_tuple_lookup
  have hmh := madeHere_tuple
  have hTI2 := hst.typeIs
  have hh1 : A.in1.handled = none := hh
  wp_walk using wpAny_typeOf hTI2, cb_collect (A := A.in1) hh1 ch hTI hn hst
  intro h' as k1 k2 k3 k4 k5
  show wpAny _ _ (Builtin.Tuple.tupleExact (as.map Value.ref).toArray >>= fun v => ret v) _ _ _
  unfold Builtin.Tuple.tupleExact
  refine wpAny_bind (wpAny_newObj_type ?_ (by show (as.map Value.ref).toArray.size ≤ sizeLine; rw [List.size_toArray, List.length_map, k2]; exact hn))
  exact wpAny_pure (hQ h' as k1 k2 k3 k4 k5)
theorem call_tup {I T : Addr} {vs : List Value} {L : List (List Nat)} {r : Nat} {Q : Value → Shared → Prop} (hh : A.handled = none) (ch : Chain vs.length r L) (hTI : T ≠ I) (hn : L.length ≤ sizeLine) (hst : CbSt s.heap I T vs L 0)
    (hQ : ∀ h' as, KeepBut I s.heap h' → as.length = L.length → Made h' vs L as → (∀ a ∈ as, s.heap.objs.size ≤ a) → s.heap.objs.size ≤ h'.objs.size → Q (.ref h'.objs.size) { s with heap := h'.push { cls := .type "tuple", data := .seq (as.map Value.ref).toArray } }) :
    wpAny (model prog w) A (call (.type "tuple") [.ref I]) Q E s := by
  refine callType_codes (Q₁ := fun obj s1 => s1.TypeIs obj "tuple" ∧ Q obj s1) F.called_tuple (F.typeCall_tuple_1 _) F.entry_object_init
    (new_tup (A := A.in1) hh ch hTI hn hst fun h' as k1 k2 k3 k4 k5 => ⟨⟨_, Heap.get?_push_size _ rfl, rfl⟩, hQ h' as k1 k2 k3 k4 k5⟩) fun obj s1 h1 => ?_
  exact ⟨h1.1, F.args_object_init_2 obj _, object_init_meets F.called_tuple.init.lookup F.called_tuple.made (by decide) prog w A.in1 _ s1 ⟨h1.1, rfl, h1.2⟩⟩
/-- combinations(x, k): the pool, the object -/
theorem call_cb {x : Value} {k : Nat} {t : Tok} {Q : Value → Shared → Prop} (hk : k ≤ 1000)
    (h : wpAny (model prog w) A.in1.in1 (collect x) (fun vs s1 => vs.length ≤ sizeLine ∧ ∀ h', IsPool h' s1.heap.objs.size vs → IsCb h' (s1.heap.objs.size + 1) s1.heap.objs.size (if k > vs.length then 2 else 0) .none (List.range k) → (∀ b o, s1.heap.get? b = some o → h'.get? b = some o) → Q (.ref (s1.heap.objs.size + 1)) { s1 with heap := h' }) E s) :
    wpAny (model prog w) A (call (.type "itertools.combinations") [x, .int k t]) Q E s := by
  refine callType_newIn cb_called (by decide) (cb_tcall _ _) (cb_ncall _ _) (fun obj => F.args_object_init_3 obj _ _) cb_enew (new_cb prog w x k t hk) ?_
  show wpAny (model prog w) A.in1.in1 (collect x) _ _ _
  refine wpAny_mono h (fun vs s1 h => ?_) fun _ _ z => z
  have z : (poolH s1.heap vs).objs.size = s1.heap.objs.size + 1 := Heap.size_push ..
  have gI : (cbH s1.heap vs k).get? (poolH s1.heap vs).objs.size = some { cls := .type "itertools.combinations", dict := none, data := .fields (flds s1.heap.objs.size (if k > vs.length then 2 else 0) .none (List.range k)), slots := #[] } := Heap.get?_push_size _ rfl
  have gT : (cbH s1.heap vs k).get? s1.heap.objs.size = some { cls := .type "tuple", data := .seq vs.toArray } := Heap.get?_push_of_some _ (Heap.get?_push_size _ rfl)
  refine ⟨h.1, ?_⟩
  rw [z] at gI ⊢
  have hq := h.2 _ gT gI fun b o e => Heap.get?_push_of_some _ (Heap.get?_push_of_some _ e)
  show _ ∧ _
  exact ⟨⟨_, gI, rfl⟩, hq⟩
end
end CB
set_option Elab.async false
set_option linter.all false
set_option maxRecDepth 100000
set_option maxHeartbeats 4000000
/-! FN28: tuple(combinations(range(..), k)), over the layers. -/
namespace L2
open PySem PySem.W PySem.Spec PyProof.Rows
section
variable {X : Cx} {pins : List (Addr × Obj)} {σ : St} {H H2 : Hp} {s : Shared} {h' : Heap}
/-- records of ours have turned, many new objects are laid -/
theorem Inv.turnedAll {t' : Nat} {ch : List Addr} (I : Inv X pins σ H s) (k : ∀ b o, b ∉ ch → s.heap.get? b = some o → h'.get? b = some o) (hf : ∀ b ∈ ch, FpOk X pins H b) (sm : Same H H2)
    (nw : ∀ c u, H2 c = some u → H c = some u ∨ (s.heap.objs.size ≤ c ∧ ObjOk X.prog X.w H2 h' c u)) : Inv X pins σ H2 { s with heap := h', toks := t' } := by
  have nit : ∀ b u, H b = some u → b ∉ ch := fun b u e z => by
    have q := (hf b z).1
    rw [q] at e; cases e
  refine I.step (g' := s.gens) (d' := s.drawn) (ch := ch) (fun b hb => ⟨(hf b hb).2.2.2.1, (hf b hb).2.1, (hf b hb).2.2.2.2.1, (hf b hb).2.2.2.2.2⟩) (fun b o _ _ hc e _ => k b o hc e) (fun b o _ _ hc e _ => ⟨o.slots, k b o hc e⟩)
    (fun b o _ e n => ?_) (fun b o hc e => ⟨o, k b o hc e⟩) (fun b xs e => sm _ _ e) (fun b o u e => sm _ _ e) (fun b ps e => ⟨#[], ?_⟩) (fun m hm => ?_) (fun b u e => ?_) I.bare
  · cases q : H2 b with
    | none => rfl
    | some u =>
      rcases nw b u q with z | ⟨z, _⟩
      · rw [n] at z; cases z
      · exact absurd (Nat.lt_of_lt_of_le (Heap.lt_size e) z) (Nat.lt_irrefl _)
  · rw [sm _ _ e]; simp
  · obtain ⟨o, es, ep, ho, r⟩ := hm
    exact ⟨o, es, ep, k _ o (fun z => (hf _ z).2.1 rfl) ho, r⟩
  · rcases nw b u e with e | ⟨_, new⟩
    · refine (I.hok b u e).stay (fun c v hc q => k c v ?_ q) (fun c q => sm _ _ q) fun c xs q => sm _ _ q
      rcases hc with z | z
      · rw [z]; exact nit b u e
      · exact nit c _ z
    · exact new
/-- all rows of k of n indices, in order -/
structure Rows (n k : Nat) (L : List (List Nat)) : Prop where
  ch : CB.Chain n k L
  len : L.length ≤ sizeLine
  low : ∀ ix ∈ L, ∀ i ∈ ix, i < n
/-- range(..): the new object is the last one -/
def PRs (X : Cx) (e : Expr) (t : L2.St → Hp → (Int → Int → Hp → Prop) → Prop) : Prop := ∀ (pins : List (Addr × Obj)) (s : Shared) (σ : L2.St) (H : Hp) (Q : Int → Int → Hp → Prop), Inv X pins σ H s → t σ H Q →
  wpAny (model X.prog X.w) X.A (eval e X.env) (fun x s' => ∃ r a b t u v H', x = .ref r ∧ IsRange s'.heap r a b 1 t u v ∧ s'.heap.objs.size = r + 1 ∧ Inv X pins σ H' s' ∧ Q a b H') X.xe s
theorem prs_1 {a : Expr} {ta : TE} {p pos : Pos} (hg : Gl X "range") (hm : X.mg "range" = none) (ha : PE X a ta) (na : starEach [a] X.env = (false, eval a X.env) :: starEach [] X.env := by rfl) : PRs X (.Call (.Name "range" p) [a] [] pos) (tRg1 ta) := by
  intro pins s σ H Q I h
  refine Call_ (ld_blt I hg hm boot_range (PyProof.Rows.callWith_type1 (one_arg ha I h (fun v s2 x H2 I2 r q => ?_) na) na))
  obtain ⟨n, rfl, q⟩ := q
  obtain ⟨t, rfl⟩ := r
  exact call_range_1 ⟨_, 0, n, _, _, _, H2, rfl, IsRange.new _ _ _ _ _ _ _, size_push' _ _, I2.kept fun b u e => Heap.get?_push_of_some _ e, q⟩
def tTupCb (k : Nat) (te : L2.St → Hp → (Int → Int → Hp → Prop) → Prop) : TE := fun σ H Q => te σ H fun a b H1 => RgOk a b ∧ ∃ L, Rows (b - a).toNat k L ∧
  ∀ (H2 : Hp) (as : List Addr) (p : Addr), Same H1 H2 → as.length = L.length → (∀ (j : Nat) (c : Addr), as[j]? = some c → ∃ ix, L[j]? = some ix ∧ H1 c = none ∧ H2 c = some (.tup (ix.map fun (i : Nat) => V.int (a + (i : Int))))) → H2 p = none → Q (.ref p) (upd H2 p (.tup (as.map V.ref)))
theorem pe_tupCb {e : Expr} {te : L2.St → Hp → (Int → Int → Hp → Prop) → Prop} {x : Str} {k j : Nat} {p p2 pk pos pos2 : Pos} (hc : X.calm = true) (hk : k ≤ 1000) (hg : Gl X "tuple") (hm : X.mg "tuple" = none) (hgx : Gl X x) (hmx : X.mg x = some (.type "itertools.combinations")) (he : PRs X e te) (hdb : (x == ("__debug__" : Str)) = false := by decide)
    (na : starEach [e, .Constant (.int k) j pk] X.env = (false, eval e X.env) :: starEach [.Constant (.int k) j pk] X.env := by rfl) (nb : starEach [.Constant (.int k) j pk] X.env = (false, eval (.Constant (.int k) j pk) X.env) :: starEach [] X.env := by rfl) (hp : (backTo pos2 (starEach [.Constant (.int k) j pk] X.env)).any (·.1) = false := by rfl)
    (nc : starEach [.Call (.Name x p2) [e, .Constant (.int k) j pk] [] pos2] X.env = (false, eval (.Call (.Name x p2) [e, .Constant (.int k) j pk] [] pos2) X.env) :: starEach [] X.env := by rfl) :
    PE X (.Call (.Name "tuple" p) [.Call (.Name x p2) [e, .Constant (.int k) j pk] [] pos2] [] pos) (tTupCb k te) := by
  refine ⟨fun pins s σ H Q I h => ?_⟩
  refine Call_ (ld_blt I hg hm boot_tuple (PyProof.Rows.callWith_type1 (args_cons ?_ nc) nc))
  refine Call_ (ld_glob I hgx hmx (PyProof.Rows.callWith_type1 (args_cons (thn (he pins s σ H _ I h) fun xr s1 ⟨r, a, b, t, u, v, H1, ex, hr, sz, I1, ok, L, rows, q⟩ => args_cons (wpAny_Constant_int (args_nil ?_)) nb) na) na hp) hdb)
  subst ex
  obtain ⟨b1, b2, b3, b4, b5⟩ := ok
  have hh : X.A.in1.in1.handled = none := I1.ok.hd hc
  have hr2 : IsRange ({ s1 with toks := s1.toks + 1 } : Shared).heap r a b 1 t u v := hr
  refine CB.call_cb hk (collect_range (A := X.A.in1.in1) hh hr2 (small_one b1 b2 b3 b4) (rangeSize_nat a b) b5 fun h2 tk acc k2 hi => ⟨?_, fun h3 hP hC k3 => args_nil ?_⟩)
  · rw [Array.length_toList, hi.1, sizeLine_eq]
    omega
  dsimp only at hP hC k3 ⊢
  have k12 : ∀ b o, s1.heap.get? b = some o → h3.get? b = some o := fun b o e => k3 b o (k2 b o e)
  have hrs : r < h2.objs.size := Heap.lt_size (k2 r _ hr)
  have le12 : s1.heap.objs.size ≤ h2.objs.size := by rw [sz]; exact hrs
  have n1 : acc.toList.length = (b - a).toNat := by rw [Array.length_toList]; exact hi.1
  have ch : CB.Chain acc.toList.length k L := by rw [n1]; exact rows.ch
  have hTI : h2.objs.size ≠ h2.objs.size + 1 := Nat.ne_of_lt (Nat.lt_succ_self _)
  have st0 : CB.CbSt h3 (h2.objs.size + 1) h2.objs.size acc.toList L 0 := by
    refine ⟨hP, _, _, _, hC, ?_⟩
    have := ch.2
    by_cases z : k > acc.toList.length
    · rw [if_pos z] at this ⊢
      exact .inr (.inr ⟨rfl, rfl, this⟩)
    · rw [if_neg z] at this ⊢
      exact .inl ⟨rfl, rfl, this⟩
  refine CB.call_tup (I1.ok.hd hc) ch hTI rows.len st0 fun h4 as k4 l4 mk lo sz4 => ?_
  dsimp only at k4 lo sz4 ⊢
  have hIs1 : s1.heap.objs.size ≤ h2.objs.size + 1 := Nat.le_succ_of_le le12
  have fI : FpOk X pins H1 (h2.objs.size + 1) := I1.fpOk hIs1 (I1.hok.fresh hIs1)
  have h3s : h2.objs.size + 1 < h3.objs.size := Heap.lt_size hC
  have lo1 : ∀ c ∈ as, s1.heap.objs.size ≤ c := fun c hcm => Nat.le_trans hIs1 (Nat.le_trans (Nat.le_of_lt h3s) (lo c hcm))
  classical
  let H2 : Hp := fun c => if hcm : c ∈ as then (match L[as.idxOf c]? with | some ix => some (.tup (ix.map fun (i : Nat) => V.int (a + (i : Int)))) | none => none) else H1 c
  have at2 : ∀ (jj : Nat) (c : Addr), as[jj]? = some c → ∃ ix, L[jj]? = some ix ∧ H2 c = some (.tup (ix.map fun (i : Nat) => V.int (a + (i : Int)))) ∧ h4.get? c = some (CB.tupO acc.toList ix) := fun jj c hj => by
    obtain ⟨ix, e1, e2⟩ := mk.2 jj c hj
    have hjl : jj < as.length := (List.getElem?_eq_some_iff.mp hj).1
    have hcj : as[jj] = c := (List.getElem?_eq_some_iff.mp hj).2
    have hid : as.idxOf c = jj := by rw [← hcj]; exact mk.1.idxOf_getElem jj hjl
    refine ⟨ix, e1, ?_, e2⟩
    show (if hcm : c ∈ as then _ else _) = _
    rw [dif_pos (List.mem_of_getElem? hj), hid, e1]
  have vals : ∀ ix ∈ L, Vals (ix.map fun (i : Nat) => V.int (a + (i : Int))) (CB.outT acc.toList ix) := fun ix hix => by
    have low := rows.low ix hix
    have one : ∀ i < (b - a).toNat, RelV (V.int (a + (i : Int))) (acc.toList.toArray.getD i .none) := fun i hi' => by
      have hs : i < acc.size := by rw [hi.1]; exact hi'
      obtain ⟨tt, ett⟩ := hi.2 i _ (Array.getElem?_eq_getElem hs)
      have e1 : acc.toList.toArray.getD i .none = acc[i] := by
        rw [Array.toArray_toList, Array.getD, dif_pos hs]
        rfl
      rw [e1, ett, Int.mul_one]
      exact ⟨tt, rfl⟩
    unfold CB.outT
    clear hix
    induction ix with
    | nil => exact .nil
    | cons i ix ih => exact .cons (one i (low i List.mem_cons_self)) (ih fun i' h' => low i' (List.mem_cons_of_mem _ h'))
  have same : Same H1 H2 := fun c o e => by
    show (if hcm : c ∈ as then _ else _) = _
    rw [dif_neg (fun hcm => by
      have := I1.hok.fresh (lo1 c hcm)
      rw [e] at this
      cases this)]
    exact e
  have I4 : Inv X pins σ H2 { s1 with heap := h4, toks := tk } := I1.turnedAll (ch := [h2.objs.size + 1]) (fun c o hcm e => k4 c o (fun z => hcm (by rw [z]; exact List.mem_singleton_self _)) (k12 c o e)) (fun c hcm => by rw [List.mem_singleton.mp hcm]; exact fI) same (fun c u e => by
    by_cases hcm : c ∈ as
    · obtain ⟨jj, hj⟩ := List.mem_iff_getElem?.mp hcm
      obtain ⟨ix, e1, e2, e3⟩ := at2 jj c hj
      rw [e2] at e
      cases e
      have hix : ix ∈ L := List.mem_of_getElem? e1
      exact .inr ⟨lo1 c hcm, by rw [List.length_map]; have := (rows.ch.1 _ _ e1).2; unfold sizeLine; omega, _, vals ix hix, ⟨_, e3, rfl, 0, rfl⟩⟩
    · have e' : (if hcm : c ∈ as then (match L[as.idxOf c]? with | some ix => some (HO.tup (ix.map fun (i : Nat) => V.int (a + (i : Int)))) | none => none) else H1 c) = some u := e
      rw [dif_neg hcm] at e'
      exact .inl e')
  have fresh4 := I4.hok.fresh (Nat.le_refl h4.objs.size)
  refine ⟨.ref h4.objs.size, upd H2 h4.objs.size (.tup (as.map V.ref)), I4.laid (t' := tk) (fun c o e => Heap.get?_push_of_some _ e) (Nat.le_refl _) ⟨by rw [List.length_map, l4]; exact rows.len, _, vals_refs as, IsTup.new _ _⟩, rfl, ?_⟩
  refine q H2 as h4.objs.size same l4 (fun jj c hj => ?_) fresh4
  obtain ⟨ix, e1, e2, _⟩ := at2 jj c hj
  exact ⟨ix, e1, I1.hok.fresh (lo1 c (List.mem_of_getElem? hj)), e2⟩
end
end L2
set_option Elab.async false
set_option linter.all false
set_option maxRecDepth 100000
set_option maxHeartbeats 4000000
/-! FN29: tuple(combinations(range(n), 2)) as data; a datum taken as one of a wider kind. -/
namespace FN
open PySem PySem.Spec PyProof.Rows L2
/-- the pairs i < j < n, in order -/
def pairsL (n : Nat) : List (List Nat) := (List.range n).flatMap fun i => (List.range (n - 1 - i)).map fun d => [i, i + 1 + d]
def rowsB (n k : Nat) (L : List (List Nat)) : Bool := (List.range L.length).all (fun i => CB.nx n (L.getD i []) == L[i + 1]? && decide ((L.getD i []).length ≤ 1000)) && (if k > n then L == [] else L[0]? == some (List.range k)) && decide (L.length ≤ 1000) && L.all fun ix => ix.all fun i => decide (i < n)
theorem rows_of {n k : Nat} {L : List (List Nat)} (h : rowsB n k L = true) : Rows n k L := by
  unfold rowsB at h
  rw [Bool.and_eq_true, Bool.and_eq_true, Bool.and_eq_true] at h
  obtain ⟨⟨⟨h1, h2⟩, h3⟩, h4⟩ := h
  refine ⟨⟨fun i a e => ?_, ?_⟩, ?_, fun ix hx i hi => ?_⟩
  · have hl := (List.getElem?_eq_some_iff.mp e).1
    have q := List.all_eq_true.mp h1 i (List.mem_range.mpr hl)
    rw [Bool.and_eq_true] at q
    have ea : L.getD i [] = a := by rw [List.getD_eq_getElem?_getD, e]; rfl
    rw [ea] at q
    exact ⟨eq_of_beq q.1, of_decide_eq_true q.2⟩
  · split at h2
    · rename_i z
      rw [if_pos z]
      exact eq_of_beq h2
    · rename_i z
      rw [if_neg z]
      exact eq_of_beq h2
  · have := of_decide_eq_true h3
    rw [sizeLine_eq]
    omega
  · exact of_decide_eq_true (List.all_eq_true.mp (List.all_eq_true.mp h4 ix hx) i hi)
theorem pairs_rows : ∀ n ≤ 10, Rows n 2 (pairsL n) := by
  have h : ((List.range 11).all fun n => rowsB n 2 (pairsL n)) = true := by decide +kernel
  intro n hn
  exact rows_of (List.all_eq_true.mp h n (List.mem_range.mpr (by omega)))
/-- rows of indices as data -/
def rowsD (L : List (List Nat)) : List D := L.map fun ix => .tuple (ix.map fun (i : Nat) => .int (i : Int))
def fTupCb2 (m : Md) (fa : M D) : M D := fun ρ => bdo (fa ρ) fun x ρ1 => match rd m x ρ1 with
  | some (.int n) => if 0 ≤ n ∧ n ≤ 10 then some (.ok (.tuple (rowsD (pairsL n.toNat))) ρ1) else none
  | _ => none
section
variable {X : Cx} {W : WX} {b : Bool} {κ : List Kind} {pos p : Pos} {a : Expr} {fa : M D} {m : Md}
theorem fe_tupCb2 {x : Str} {j : Nat} {p p2 pk p3 pos pos2 pos3 : Pos} (hc : X.calm = true) (hg : Gl X "tuple") (hm : X.mg "tuple" = none) (hgr : Gl X "range") (hmr : X.mg "range" = none) (hmx : X.mg x = some (.type "itertools.combinations")) (ha : FV X W κ m a fa) (hgx : Gl X x := by rfl) (hdb : (x == ("__debug__" : Str)) = false := by decide)
    (n0 : starEach [a] X.env = (false, eval a X.env) :: starEach [] X.env := by rfl)
    (na : starEach [.Call (.Name "range" p3) [a] [] pos3, .Constant (.int 2) j pk] X.env = (false, eval (.Call (.Name "range" p3) [a] [] pos3) X.env) :: starEach [.Constant (.int 2) j pk] X.env := by rfl) (nb : starEach [.Constant (.int 2) j pk] X.env = (false, eval (.Constant (.int 2) j pk) X.env) :: starEach [] X.env := by rfl) (hp : (backTo pos2 (starEach [.Constant (.int 2) j pk] X.env)).any (·.1) = false := by rfl)
    (nc : starEach [.Call (.Name x p2) [.Call (.Name "range" p3) [a] [] pos3, .Constant (.int 2) j pk] [] pos2] X.env = (false, eval (.Call (.Name x p2) [.Call (.Name "range" p3) [a] [] pos3, .Constant (.int 2) j pk] [] pos2) X.env) :: starEach [] X.env := by rfl) :
    FV X W κ (.t (.v b)) (.Call (.Name "tuple" p) [.Call (.Name x p2) [.Call (.Name "range" p3) [a] [] pos3, .Constant (.int 2) j pk] [] pos2] [] pos) (fTupCb2 m fa) :=
  (pe_tupCb (k := 2) hc (by decide) hg hm hgx hmx (prs_1 hgr hmr ha n0) hdb na nb hp nc).imp fun σ H Q h => by
  obtain ⟨ρ, w, rfl, rel, post⟩ := h
  refine seqV (P := PostV (ctx X W) κ σ (.t (.v b)) w Q) rel post (fun z => z) (fun n d ρ' z => z) fun d ρ1 v w1 rel1 e1 t1 post1 => ?_
  cases q : rd m d ρ1 with
  | none =>
    rw [q] at post1
    exact post1.elim
  | some y =>
    rw [q] at post1
    cases y with
    | int n =>
      dsimp only at post1
      by_cases hn : 0 ≤ n ∧ n ≤ 10
      · rw [if_pos hn] at post1
        refine ⟨n, dp_int (rd_dp rel1 t1 q), ⟨by decide, by decide, by omega, by omega, by omega⟩, pairsL n.toNat, ?_, fun H2 as p' same len at2 np => ?_⟩
        · rw [Int.sub_zero]
          exact pairs_rows _ (by omega)
        · classical
          let F' : Hp := fun c => match w1.F c with
            | some o => some o
            | none => if w1.H c = none then H2 c else none
          have F1 : ∀ c o, w1.F c = some o → F' c = some o := fun c o e => by
            show (match w1.F c with | some o => some o | none => if w1.H c = none then H2 c else none) = _
            rw [e]
          have F2 : ∀ c, w1.F c = none → F' c = if w1.H c = none then H2 c else none := fun c e => by
            show (match w1.F c with | some o => some o | none => if w1.H c = none then H2 c else none) = _
            rw [e]
          have nF : ∀ c, w1.H c = none → w1.F c = none := fun c e => by
            cases z : w1.F c with
            | none => rfl
            | some o =>
              rw [rel1.same c o z] at e
              cases e
          have rel2 : Rel X.K κ ρ1 σ ⟨F', H2, w1.fp⟩ := by
            refine ⟨fun c o e => ?_, fun c hcf => ?_, fun c hcf z => ?_, rel1.fixed, rel1.slots.frame (fun c o e => F1 c o e) fun c o _ e => same c o e⟩
            · show H2 c = some o
              have e' : F' c = some o := e
              cases z : w1.F c with
              | some o2 =>
                rw [F1 c o2 z] at e'
                cases e'
                exact same _ _ (rel1.same c _ z)
              | none =>
                rw [F2 c z] at e'
                split at e'
                · exact e'
                · cases e'
            · show F' c = none
              rw [F2 c (rel1.frz c hcf), if_neg (rel1.live c hcf)]
            · have z' : H2 c = none := z
              cases y : w1.H c with
              | none => exact rel1.live c hcf y
              | some o =>
                rw [same c o y] at z'
                cases z'
          have ext2 : Ext w1 ⟨F', H2, w1.fp⟩ := by
            refine ⟨fun c o e => F1 c o e, fun c o e => ?_, fun c o e _ => same c o e, fun c h => .inl h⟩
            cases z : w1.F c with
            | some o2 =>
              have e' : F' c = some o := e
              rw [F1 c o2 z] at e'
              exact .inl e'
            | none =>
              have e' : F' c = some o := e
              rw [F2 c z] at e'
              split at e'
              · rename_i y
                exact .inr (.inr y)
              · cases e'
          have rs : RDs b X.K F' (as.map V.ref) (rowsD (pairsL n.toNat)) := by
            refine RDs.of_get (by unfold rowsD; rw [List.length_map, List.length_map, len]) fun i v d hv hd => ?_
            rw [List.getElem?_map] at hv
            unfold rowsD at hd
            rw [List.getElem?_map] at hd
            cases hj : as[i]? with
            | none =>
              rw [hj] at hv
              cases hv
            | some c =>
              rw [hj] at hv
              cases hv
              obtain ⟨ix, e1, e2, e3⟩ := at2 i c hj
              rw [e1] at hd
              cases hd
              refine .tup (xs := ix.map fun (i : Nat) => V.int (0 + (i : Int))) ?_ ?_
              · rw [F2 c (nF c e2), if_pos e2]
                exact e3
              · clear e1 e3
                induction ix with
                | nil => exact .nil
                | cons i ix ih =>
                  refine .cons ?_ ih
                  show RD b X.K F' (V.int (0 + (i : Int))) (.int (i : Int))
                  rw [Int.zero_add]
                  exact .int _
          exact fin_tup post1 rel2 (e1.trans ext2) rs np
      · rw [if_neg hn] at post1
        exact post1.elim
    | _ => exact post1.elim
/-- a datum without written tuples, as any datum -/
theorem fe_wide (ha : FV X W κ (.t (.v false)) a fa) : FV X W κ (.t (.v true)) a fa := ha.imp fun σ H Q h => by
  obtain ⟨ρ, w, rfl, rel, post⟩ := h
  refine ⟨ρ, w, rfl, rel, ?_⟩
  cases q : fa ρ with
  | none =>
    rw [q] at post
    exact post
  | some o =>
    rw [q] at post
    cases o with
    | err n d ρ' => exact post
    | ok d ρ' => exact fun v w' r e ⟨g, od, rest⟩ => post v w' r e ⟨g, RD.any od, rest⟩
end
/-! ### an owned list frozen between two statements -/
section
variable {K : PySem.W.Frag} {κ : List Kind} {ρ : Env} {σ : L2.St} {w : Wd} {i : Nat} {b : Bool}
theorem rel_frz (rel : Rel K κ ρ σ w) (hk : κ[i]? = some (.lst (.v b))) : ∃ w', w'.H = w.H ∧ Rel K (κ.set i (.v b)) ρ σ w' ∧ Ext w w' := by
  have hl := rel.slots.lengths
  have hi : i < κ.length := (List.getElem?_eq_some_iff.mp hk).1
  have fixed : ∀ (j : Nat) (u : V) (k : Kind), (κ.set i (.v b))[j]? = some (Kind.fix u k) → σ[j]? = some (some u) := fun j u k e => by
    by_cases h : i = j
    · subst h
      rw [List.getElem?_set_self hi] at e
      cases e
    · rw [List.getElem?_set_ne h] at e
      exact rel.fixed j u k e
  have hρ : i < ρ.length := by omega
  cases q : ρ[i]'hρ with
  | none =>
    have q' : ρ[i]? = some none := by rw [List.getElem?_eq_getElem hρ, q]
    exact ⟨w, rfl, ⟨rel.same, rel.frz, rel.live, fixed, rel.slots.rekind _ q'⟩, Ext.refl _⟩
  | some d =>
    have q' : ρ[i]? = some (some d) := by rw [List.getElem?_eq_getElem hρ, q]
    obtain ⟨v, f, g, ev, o, s, y1, y2, y3⟩ := rel.slots.out q' hk
    obtain ⟨a, xs, ds0, g', rfl, e2, eH, ga, _, _, od⟩ := o
    subst e2
    have rs := odl_rds od
    have nF : w.F a = none := rel.frz a (y2 a ga)
    have sF : Same w.F (upd w.F a (.lst xs)) := fun c u h => by rw [upd_ne (ne_of_none h nF)]; exact h
    have s2 := (s.frame (F' := upd w.F a (.lst xs)) (H' := w.H) sF fun _ _ _ z => z).put (i := i) (d := .list ds0) (k := .v b) (v := .ref a) (f := fun _ => False) (by omega) (RD.lst (b := b) (K := K) upd_same (rs.mono sF)) (fun _ z => z.elim)
    have e1 : (ρ.set i none).set i (some (.list ds0)) = ρ := by
      rw [List.set_set]
      refine List.ext_getElem? fun j => ?_
      by_cases h : i = j
      · subst h
        rw [List.getElem?_set_self hρ, q']
      · rw [List.getElem?_set_ne h]
    have e2 : σ.set i (some (.ref a)) = σ := by
      refine List.ext_getElem? fun j => ?_
      by_cases h : i = j
      · subst h
        rw [List.getElem?_set_self (by omega), ev]
      · rw [List.getElem?_set_ne h]
    rw [e1, e2] at s2
    refine ⟨⟨upd w.F a (.lst xs), w.H, g⟩, rfl, ⟨fun c u h => ?_, fun c h => ?_, fun c h => rel.live c (y3 c h), fixed, s2.mono fun c z => z.elim (fun z => z.elim) id⟩, ⟨sF, fun c u h => ?_, fun c u h _ => h, fun c h => .inl (y3 c h)⟩⟩
    · by_cases hc : c = a
      · subst hc
        have h' : upd w.F c (.lst xs) c = some u := h
        rw [upd_same] at h'
        rw [← h']
        exact eH
      · have h' : upd w.F a (.lst xs) c = some u := h
        rw [upd_ne hc] at h'
        exact rel.same c u h'
    · show upd w.F a (.lst xs) c = none
      rw [upd_ne (fun z => y1 a ga (by rw [← z]; exact h))]
      exact rel.frz c (y3 c h)
    · by_cases hc : c = a
      · exact .inr (.inl (by rw [hc]; exact y2 a ga))
      · have h' : upd w.F a (.lst xs) c = some u := h
        rw [upd_ne hc] at h'
        exact .inl h'
theorem fss_frz {X : Cx} {W : WX} {C : FC} {κ' κn : List Kind} {ss : List Stmt} {f : Env → Option Fl} (i : Nat) (hk : κ[i]? = some (.lst (.v b))) (he : κ.set i (.v b) = κ') (h : FSs X W C κ' κn ss f) : FSs X W C κ κn ss f := h.imp fun D' σ H z => by
  obtain ⟨ρ, w, rfl, rel, post⟩ := z
  obtain ⟨w', eH, rel', e⟩ := rel_frz rel hk
  subst he
  exact ⟨ρ, w', eH, rel', post.since e⟩
end
end FN
set_option Elab.async false
set_option linter.all false
set_option maxRecDepth 100000
set_option maxHeartbeats 4000000
/-! FN30: reading the mirrors of dicts, slices, loops (no program). -/
namespace FN
open PySem PySem.Spec PyProof.Rows L2
section
variable {α β : Type} {ρ : Env} {d : D} {fa fo fk fb : M D} {m : Md} {t neg b : Bool} {i j : Nat} {fr : M (List D)} {tt : M Bool} {f : Env → Option Fl}
@[simp] theorem u_fDGet : fDGet t m fo fk ρ = bnd (fo ρ) Out.err fun d ρ1 => bnd (fk ρ1) Out.err fun k ρ2 => match rdD m d ρ2, keyOf t k with
  | some ps, some ks => (dlook t ps ks).map fun v => .ok v ρ2
  | _, _ => none := (rfl)
@[simp] theorem u_fDIn : fDIn t neg m fk fo ρ = bnd (fk ρ) Out.err fun k ρ1 => bnd (fo ρ1) Out.err fun d ρ2 => match rdD m d ρ2, keyOf t k with
  | some ps, some ks => some (.ok (.bool (if neg then !(dlook t ps ks).isSome else (dlook t ps ks).isSome)) ρ2)
  | _, _ => none := (rfl)
@[simp] theorem u_fDGet1 : fDGet1 t m fo fk ρ = bnd (fo ρ) Out.err fun d ρ1 => match rdD m d ρ1 with
  | some _ => bnd (fk ρ1) Out.err fun k ρ2 => match rdD m d ρ2, keyOf t k with
    | some ps, some ks => some (.ok ((dlook t ps ks).getD .none) ρ2)
    | _, _ => none
  | none => none := (rfl)
@[simp] theorem u_sDPut : sDPut t i fk fa ρ = bnd (fa ρ) Fl.err fun d ρ1 => match ρ1[i]? with
  | some (some (.dict _)) => bnd (fk ρ1) Fl.err fun k ρ2 => match ρ2[i]?, keyOf t k with
    | some (some (.dict ps)), some ks => if ps.length < sizeLine then some (.nx (ρ2.set i (some (.dict (dput t ps k ks d))))) else none
    | _, _ => none
  | _ => none := (rfl)
@[simp] theorem u_fDisp : fDisp t fk fa ρ = bnd (fk ρ) Out.err fun k ρ1 => bnd (fa ρ1) Out.err fun v ρ2 => match keyOf t k with
  | some _ => some (.ok (.dict [(k, v)]) ρ2)
  | none => none := (rfl)
@[simp] theorem u_rdDr : rdD (.r i) d ρ = match ρ[i]? with
    | some (some (.dict ps)) => some ps
    | _ => none := (rfl)
@[simp] theorem u_fMove : fMove i ρ = match ρ[i]? with
  | some (some (.list ds)) => some (.ok (.list ds) (ρ.set i none))
  | _ => none := (rfl)
@[simp] theorem u_fTupCb2 : fTupCb2 m fa ρ = bnd (fa ρ) Out.err fun x ρ1 => match rd m x ρ1 with
  | some (.int n) => if 0 ≤ n ∧ n ≤ 10 then some (.ok (.tuple (rowsD (pairsL n.toNat))) ρ1) else none
  | _ => none := (rfl)
@[simp] theorem u_rRg1 : rRg1 m fa ρ = bnd (fa ρ) Out.err fun x ρ1 => match rd m x ρ1 with
  | some (.int j) => if okRg 0 j = true then some (.ok (rgD 0 j) ρ1) else none
  | _ => none := (rfl)
@[simp] theorem u_fLrg : fLrg fr ρ = bnd (fr ρ) Out.err fun ds ρ1 => some (.ok (.list ds) ρ1) := (rfl)
@[simp] theorem u_fTrg : fTrg fr ρ = bnd (fr ρ) Out.err fun ds ρ1 => some (.ok (.tuple ds) ρ1) := (rfl)
@[simp] theorem u_oNone : oNone ρ = some (.ok none ρ) := (rfl)
@[simp] theorem u_fCh {ma mb mc : Md} {o o' : D → D → Option D} {fc : M D} : fCh ma mb mc o o' fa fb fc ρ = bnd (fa ρ) Out.err fun x ρ1 => bnd (fb ρ1) Out.err fun y ρ2 => match rd ma x ρ2, rd mb y ρ2 with
  | some x', some y' => match o x' y' with
    | some (.bool true) => bnd (fc ρ2) Out.err fun z ρ3 => match rd mb y ρ3, rd mc z ρ3 with
      | some y', some z' => (o' y' z').map fun u => .ok u ρ3
      | _, _ => none
    | some (.bool false) => some (.ok (.bool false) ρ2)
    | _ => none
  | _, _ => none := (rfl)
@[simp] theorem dRev_l (ds : List D) : dRev (.list ds) = some (.list ds.reverse) := (rfl)
@[simp] theorem dRev_t (ds : List D) : dRev (.tuple ds) = some (.tuple ds.reverse) := (rfl)
@[simp] theorem dCut_t (ds : List D) (lo hi : Option Int) : dCut (.tuple ds) lo hi = some (.tuple (cutD ds lo hi)) := (rfl)
@[simp] theorem dCut_l (ds : List D) (lo hi : Option Int) : dCut (.list ds) lo hi = some (.list (cutD ds lo hi)) := (rfl)
@[simp] theorem dList_l (ds : List D) : dList (.list ds) = some (.list ds) := (rfl)
@[simp] theorem dList_t (ds : List D) : dList (.tuple ds) = some (.list ds) := (rfl)
@[simp] theorem dTuple_l (ds : List D) : dTuple (.list ds) = some (.tuple ds) := (rfl)
@[simp] theorem dTuple_t (ds : List D) : dTuple (.tuple ds) = some (.tuple ds) := (rfl)
@[simp] theorem u_oSome : oSome fa ρ = bnd (fa ρ) Out.err fun x ρ1 => match x with | .int i => some (.ok (some i) ρ1) | _ => none := (rfl)
end
theorem cut_to (ds : List D) (n : Nat) : cutD ds none (some (n : Int)) = ds.take n := by
  unfold cutD
  rw [HT.sIx_none, HT.sIx_nat]
  by_cases h : n ≤ ds.length
  · simp [Nat.min_eq_left h]
  · rw [Nat.min_eq_right (by omega), List.take_of_length_le (by simp : (ds.drop 0).length ≤ ds.length - 0), List.take_of_length_le (by omega), List.drop_zero]
theorem cut_from (ds : List D) (n : Nat) : cutD ds (some (n : Int)) none = ds.drop n := by
  unfold cutD
  rw [HT.sIx_none, HT.sIx_nat]
  by_cases h : n ≤ ds.length
  · rw [Nat.min_eq_left h]
    exact List.take_of_length_le (by simp)
  · rw [Nat.min_eq_right (by omega), List.drop_eq_nil_of_le (Nat.le_refl _), List.drop_eq_nil_of_le (by omega), List.take_nil]
theorem cut_mid (ds : List D) (i j : Nat) : cutD ds (some (i : Int)) (some (j : Int)) = (ds.drop i).take (j - i) := by
  unfold cutD
  rw [HT.sIx_nat, HT.sIx_nat]
  by_cases h : i ≤ ds.length
  · rw [Nat.min_eq_left h]
    by_cases h2 : j ≤ ds.length
    · rw [Nat.min_eq_left h2]
    · rw [Nat.min_eq_right (by omega), List.take_of_length_le (by simp), List.take_of_length_le (by simp; omega)]
  · rw [Nat.min_eq_right (by omega : ds.length ≤ i), List.drop_eq_nil_of_le (Nat.le_refl _), List.drop_eq_nil_of_le (by omega), List.take_nil, List.take_nil]
/-! ### sorted ints -/
theorem sort_ints (is : List Int) : (is.map PyData.int).mergeSort (PySem.W.dataLe false id) = (is.mergeSort fun a b => decide (a ≤ b)).map PyData.int := by
  refine (List.map_mergeSort (fun a _ b _ => ?_)).symm
  have := congrFun (congrFun (PySem.W.dataLe_int (fun b : Int => b)) a) b
  exact this.symm
theorem sortOk_ints (is : List Int) : SortOk (is.map PyData.int) := by
  refine ⟨fun d hd d' hd' => ?_, .inr fun d hd => ?_, fun d hd => ?_⟩
  · obtain ⟨i, _, rfl⟩ := List.mem_map.mp hd
    obtain ⟨j, _, rfl⟩ := List.mem_map.mp hd'
    rfl
  · obtain ⟨i, _, rfl⟩ := List.mem_map.mp hd
    exact ⟨nofun, fun xs => nofun⟩
  · obtain ⟨i, _, rfl⟩ := List.mem_map.mp hd
    show PyData.depth (.int i) ≤ 60
    unfold PyData.depth
    omega
open Classical in
theorem dSorted_t (is : List Int) : dSorted (.tuple (is.map .int)) = some (.list ((is.mergeSort fun a b => decide (a ≤ b)).map .int)) := by
  show (if SortOk (is.map PyData.int) then some (PyData.list ((is.map PyData.int).mergeSort (PySem.W.dataLe false id))) else none) = _
  rw [if_pos (sortOk_ints is), sort_ints]
open Classical in
theorem dSorted_l (is : List Int) : dSorted (.list (is.map .int)) = some (.list ((is.mergeSort fun a b => decide (a ≤ b)).map .int)) := by
  show (if SortOk (is.map PyData.int) then some (PyData.list ((is.map PyData.int).mergeSort (PySem.W.dataLe false id))) else none) = _
  rw [if_pos (sortOk_ints is), sort_ints]
/-! ### one statement after another -/
theorem seq_nx {f g : Env → Option Fl} {ρ ρ1 : Env} (h : f ρ = some (.nx ρ1)) : sSeq f g ρ = g ρ1 := by rw [u_sSeq, h]
theorem seq_ret {f g : Env → Option Fl} {ρ ρ1 : Env} {d : D} (h : f ρ = some (.ret d ρ1)) : sSeq f g ρ = some (.ret d ρ1) := by rw [u_sSeq, h]
theorem seq_err {f g : Env → Option Fl} {ρ ρ1 : Env} {d : D} {n : Str} (h : f ρ = some (.err n d ρ1)) : sSeq f g ρ = some (.err n d ρ1) := by rw [u_sSeq, h]
theorem run_ret {ks : List Kind} {kr : Kind} {n : Nat} {fb : Env → Option Fl} {ρ ρ1 os : Env} {d : D} (h : fb (ρ ++ List.replicate n none) = some (.ret d ρ1)) (ho : outs ks ρ1 = os) : runF ks kr n fb ρ = some (.ok d os) := by rw [u_runF, h, ← ho]
theorem run_err {ks : List Kind} {kr : Kind} {n : Nat} {fb : Env → Option Fl} {ρ ρ1 os : Env} {d : D} {c : Str} (h : fb (ρ ++ List.replicate n none) = some (.err c d ρ1)) (ho : outs ks ρ1 = os) : runF ks kr n fb ρ = some (.err c d os) := by rw [u_runF, h, ← ho]
/-! ### calls whose arguments change nothing -/
section
variable {g fa fb fc : M D} {ρ os : Env} {x y z v : D} {k1 k2 k3 : Kind} {n : Str}
theorem call_t1 (ha : fa ρ = some (.ok x ρ)) (hg : g [some x] = some (.ok v os)) : fCall [.t k1] (noErr g) (aCons fa aNil) ρ = some (.ok v ρ) := by
  rw [u_fCall]
  simp only [u_aCons, u_aNil, ha, u_ok, u_fillT, u_fill0, Option.map_some, u_noErr, hg, u_backT, u_back0]
  cases os <;> rfl
theorem call_t2 (ha : fa ρ = some (.ok x ρ)) (hb : fb ρ = some (.ok y ρ)) (hg : g [some x, some y] = some (.ok v os)) : fCall [.t k1, .t k2] (noErr g) (aCons fa (aCons fb aNil)) ρ = some (.ok v ρ) := by
  rw [u_fCall]
  simp only [u_aCons, u_aNil, ha, hb, u_ok, u_fillT, u_fill0, Option.map_some, u_noErr, hg]
  rcases os with _ | ⟨_, _ | ⟨_, _⟩⟩ <;> rfl
theorem call_t3 (ha : fa ρ = some (.ok x ρ)) (hb : fb ρ = some (.ok y ρ)) (hc : fc ρ = some (.ok z ρ)) (hg : g [some x, some y, some z] = some (.ok v os)) : fCall [.t k1, .t k2, .t k3] (noErr g) (aCons fa (aCons fb (aCons fc aNil))) ρ = some (.ok v ρ) := by
  rw [u_fCall]
  simp only [u_aCons, u_aNil, ha, hb, hc, u_ok, u_fillT, u_fill0, Option.map_some, u_noErr, hg]
  rcases os with _ | ⟨_, _ | ⟨_, _ | ⟨_, _⟩⟩⟩ <;> rfl
theorem call_t2x (ha : fa ρ = some (.ok x ρ)) (hb : fb ρ = some (.ok y ρ)) (hg : g [some x, some y] = some (.ok v os)) : fCall [.t k1, .t k2] g (aCons fa (aCons fb aNil)) ρ = some (.ok v ρ) := by
  rw [u_fCall]
  simp only [u_aCons, u_aNil, ha, hb, u_ok, u_fillT, u_fill0, Option.map_some, hg]
  rcases os with _ | ⟨_, _ | ⟨_, _⟩⟩ <;> rfl
theorem call_t2e (ha : fa ρ = some (.ok x ρ)) (hb : fb ρ = some (.ok y ρ)) (hg : g [some x, some y] = some (.err n v os)) : fCall [.t k1, .t k2] g (aCons fa (aCons fb aNil)) ρ = some (.err n v ρ) := by
  rw [u_fCall]
  simp only [u_aCons, u_aNil, ha, hb, u_ok, u_fillT, u_fill0, Option.map_some, hg]
end
/-! ### while loops by a falling measure -/
theorem wh_inv {t : M Bool} {b : Env → Option Fl} (I : Nat → Env → Prop) (E : Env → Prop) (h : ∀ n ρ, I n ρ → (∃ ρ1, t ρ = some (.ok false ρ1) ∧ E ρ1) ∨ ∃ ρ1 ρ2, t ρ = some (.ok true ρ1) ∧ b ρ1 = some (.nx ρ2) ∧ ∃ m < n, I m ρ2) : ∀ n ρ, I n ρ → ∃ ρ', sWh t b ρ = some (.nx ρ') ∧ E ρ' := by
  have key : ∀ n ρ, I n ρ → ∃ k ρ', whN t b k ρ = some (.nx ρ') ∧ E ρ' := by
    intro n
    induction n using Nat.strongRecOn with
    | ind n ih =>
      intro ρ hI
      rcases h n ρ hI with ⟨ρ1, e1, e⟩ | ⟨ρ1, ρ2, e1, e2, m, hm, hI2⟩
      · refine ⟨1, ρ1, ?_, e⟩
        unfold whN
        rw [e1]
        rfl
      · obtain ⟨k, ρ', e3, e⟩ := ih m hm ρ2 hI2
        refine ⟨k + 1, ρ', ?_, e⟩
        unfold whN
        rw [e1]
        simp only [u_ok, if_true, e2]
        exact e3
  intro n ρ hI
  obtain ⟨k, ρ', e1, e2⟩ := key n ρ hI
  exact ⟨ρ', sWh_of e1, e2⟩
end FN
set_option Elab.async false
set_option linter.all false
set_option maxRecDepth 100000
set_option maxHeartbeats 4000000
/-! FN31: dead statements, x[i] among several targets, tuple < tuple, t.index(k). -/
namespace FN
open PySem PySem.Spec PyProof.Rows L2
section
variable {X : Cx} {W : WX} {C : FC} {b : Bool} {κ κn : List Kind} {pos p : Pos} {e : Expr} {es : List Expr} {fa fb fo : M D} {m ma mb : Md}
/-- a statement that is never come to -/
theorem fs_dead {st : Stmt} : FS X W C κ κn st (fun _ => none) := ps_never.imp fun D' σ H h => by
  obtain ⟨ρ, w, _, _, post⟩ := h
  exact post
/-! ### x[i], x[j] = .. -/
/-- a target that leaves the slots where they are -/
def tGP (c : Ct) (b : Bool) (κ : List Kind) (ft : D → Env → Option Env) : TG := fun v σ H Q => ∃ ρ w d, w.H = H ∧ Rel c.K κ ρ σ w ∧ RD b c.K w.F v d ∧ match ft d ρ with
  | some ρ' => ∀ w', Rel c.K κ ρ' σ w' → Ext w w' → Q σ w'.H
  | none => False
def tGPs (c : Ct) (b : Bool) (κ : List Kind) (ft : List D → Env → Option Env) : TGs := fun vs σ H Q => ∃ ρ w ds, w.H = H ∧ Rel c.K κ ρ σ w ∧ RDs b c.K w.F vs ds ∧ match ft ds ρ with
  | some ρ' => ∀ w', Rel c.K κ ρ' σ w' → Ext w w' → Q σ w'.H
  | none => False
def FGP (X : Cx) (W : WX) (b : Bool) (κ : List Kind) (e : Expr) (ft : D → Env → Option Env) : Prop := PG X e (tGP (ctx X W) b κ ft)
def FGPs (X : Cx) (W : WX) (b : Bool) (κ : List Kind) (es : List Expr) (ft : List D → Env → Option Env) : Prop := PGs X es (tGPs (ctx X W) b κ ft)
/-- x[k] = .. of the owned list in slot i -/
def gPut (i : Nat) (fi : M D) : D → Env → Option Env := fun d ρ => match ρ[i]? with
  | some (some (.list _)) => match fi ρ with
    | some (.ok (.int k) ρ2) => match ρ2[i]? with
      | some (some (.list ds)) => (ixN ds.length k).map fun j => ρ2.set i (some (.list (ds.set j d)))
      | _ => none
    | _ => none
  | _ => none
theorem fgp_put {i : Nat} {bi : Bool} {x : Str} {xp : Pos} {fi : M D} {ix : Expr} (hk : ownK b κ[i]?) (ho : FV X W κ (.r i) (.Name x xp) (fRef i)) (hi : FV X W κ (.t (.v bi)) ix fi)
    (h2 : ∀ v, assign (.Subscript (.Name x xp) ix p) X.env v = (do
      let ov ← holding [v] (eval (.Name x xp) X.env)
      let iv ← holding [v, ov] (eval ix X.env)
      standAt p
      holding [v, ov, iv] (setItem ov iv v)
      release [v, ov, iv] []) := by intro _; rfl) : FGP X W b κ (.Subscript (.Name x xp) ix p) (gPut i fi) := (pg_sub ho hi set_list h2).imp fun v σ H Q h => by
  obtain ⟨ρ, w, d, rfl, rel, rd0, post⟩ := h
  unfold gPut at post
  split at post
  · rename_i ρ' hput
    split at hput
    · rename_i ds0 ed0
      split at hput
      · rename_i k ρ2 ek
        split at hput
        · rename_i ds ed
          refine ⟨ρ, w, rfl, rel, ?_⟩
          unfold fRef
          rw [ed0]
          intro v0 w2 rel2 e2 t2
          obtain ⟨a, xs0, ev0, _, _, _⟩ := own_list rel2 hk ed0
          rw [show σ[i]? = some (some v0) from t2] at ev0
          cases ev0
          refine ⟨ρ, w2, rfl, rel2, ?_⟩
          rw [ek]
          intro kv w3 rel3 e3 t3
          obtain ⟨a', xs, ev, eH, rs, wr⟩ := own_list rel3 hk ed
          rw [show σ[i]? = some (some (V.ref a)) from t2] at ev
          cases ev
          cases q : ixN ds.length k with
          | none =>
            rw [q] at hput
            cases hput
          | some j =>
            rw [q] at hput
            cases hput
            have rv : RD b X.K w3.F v d := (rd0.mono e2.same).mono e3.same
            obtain ⟨w4, eH4, _, rel4, e4⟩ := wr (xs.set j v) (ds.set j d) (rs.set rv j)
            refine ⟨a, xs, k, j, rfl, dp_int (Temp.rd t3).dp, eH, by rw [rs.length]; exact q, ?_⟩
            rw [← eH4]
            exact post w4 rel4 ((e2.trans e3).trans e4)
        · cases hput
      · cases hput
    · cases hput
  · exact post.elim
theorem fgps_nil : FGPs X W b κ [] gsNil := pgs_nil.imp fun vs σ H Q h => by
  obtain ⟨ρ, w, ds, rfl, rel, r, post⟩ := h
  cases r with
  | nil => exact ⟨rfl, post w rel (Ext.refl _)⟩
  | cons _ _ => exact post.elim
theorem fgps_cons {f : D → Env → Option Env} {g : List D → Env → Option Env} (h1 : FGP X W b κ e f) (h2 : FGPs X W b κ es g) (hs : (assignEach (e :: es) X.env).map (·.2) = assign e X.env :: (assignEach es X.env).map (·.2) := by rfl) : FGPs X W b κ (e :: es) (gsCons f g) := (pgs_cons h1 h2 hs).imp fun vs σ H Q h => by
  obtain ⟨ρ, w, ds, rfl, rel, r, post⟩ := h
  cases r with
  | nil => exact post.elim
  | @cons v vs d ds r rs =>
    refine ⟨v, vs, rfl, ρ, w, d, rfl, rel, r, ?_⟩
    have post' : (match (f d ρ).bind (g ds) with
      | some ρ' => ∀ w', Rel X.K κ ρ' σ w' → Ext w w' → Q σ w'.H
      | none => False) := post
    cases q : f d ρ with
    | none =>
      rw [q] at post'
      exact post'.elim
    | some ρ1 =>
      rw [q] at post'
      intro w1 rel1 e1
      refine ⟨ρ1, w1, ds, rfl, rel1, rs.mono e1.same, ?_⟩
      have post2 : (match g ds ρ1 with
        | some ρ' => ∀ w', Rel X.K κ ρ' σ w' → Ext w w' → Q σ w'.H
        | none => False) := post'
      cases q2 : g ds ρ1 with
      | none =>
        rw [q2] at post2
        exact post2.elim
      | some ρ2 =>
        rw [q2] at post2
        exact fun w2 rel2 e2 => post2 w2 rel2 (e1.trans e2)
theorem fgp_tup {g : List D → Env → Option Env} {k : Nat} {n : Nat} (hc : X.calm = true) (hl : ∀ ds ρ ρ', g ds ρ = some ρ' → ds.length = n) (h : FGPs X W b κ es g) (hn : (assignEach es X.env).length = n := by rfl) (hst : (assignEach es X.env).findIdx? (·.1) = none := by rfl) : FGP X W b κ (.Tuple es k pos) (gTp g) := (pg_tup hc h hn hst).imp fun v σ H Q h => by
  obtain ⟨ρ, w, d, rfl, rel, r, post⟩ := h
  cases d with
  | tuple ds =>
    have post' : (match g ds ρ with
      | some ρ' => ∀ w', Rel X.K κ ρ' σ w' → Ext w w' → Q σ w'.H
      | none => False) := post
    have q : ∃ ρ', g ds ρ = some ρ' := by
      cases y : g ds ρ with
      | none =>
        rw [y] at post'
        exact post'.elim
      | some ρ' => exact ⟨ρ', rfl⟩
    obtain ⟨ρ', q⟩ := q
    cases r with
    | tup h1 t1 => exact ⟨_, _, rfl, SqT.of (rel.same _ _ h1), by rw [t1.length]; exact hl _ _ _ q, ρ, w, ds, rfl, rel, t1, post⟩
    | con z h1 t1 => exact ⟨_, _, rfl, sameT rel.same h1, by rw [t1.length]; exact hl _ _ _ q, ρ, w, ds, rfl, rel, t1, post⟩
  | _ => exact post.elim
theorem fs_asgP {tg : Expr} {ft : D → Env → Option Env} (ha : FV X W κ (.t (.v b)) e fa) (hg : FGP X W b κ tg ft) (he : EK C κ := by first | exact .inl rfl | exact .inr rfl) (hs : swapsWithSole [tg] e pos.line X.env = pure false := by rfl) (hw : swappedStores [tg] e X.env = pure none := by rfl)
    (h1 : (assignEach [tg] X.env).map (·.2) = [assign tg X.env] := by rfl) : FS X W C κ κ (.Assign [tg] e pos) (sAsg ft fa) := (ps_asg ha hg hs hw h1).imp fun D' σ H h => by
  obtain ⟨ρ, w, rfl, rel, post⟩ := h
  refine seqV (P := PostS (ctx X W) C κ D' w) rel post (fun z => z) (fun n d ρ' z => errS he z) fun d ρ1 v w1 rel1 e1 t1 post1 => ?_
  refine ⟨ρ1, w1, d, rfl, rel1, Temp.rd t1, ?_⟩
  cases q : ft d ρ1 with
  | none =>
    rw [q] at post1
    exact post1.elim
  | some ρ2 =>
    rw [q] at post1
    exact fun w2 rel2 e2 => post1 σ w2 rel2 (e1.trans e2)
/-! ### tuples of ints compared -/
def dLtT : D → D → Option D
  | .int i, .int j => some (.bool (decide (i < j)))
  | .tuple xs, .tuple ys => match ints? xs, ints? ys with
    | some ns, some ms => some (.bool (HT.lexLt ns ms))
    | _, _ => none
  | _, _ => none
theorem s_ltT {K : PySem.W.Frag} : Sc K (fun x y H Q => rI0 (fun i j => .bl (decide (i < j))) x y H Q ∨ rLtT K x y H Q) dLtT := by
  intro x y dx dy z H Q hx hy ho q
  unfold dLtT at ho
  split at ho
  · cases ho
    exact .inl ⟨_, _, dp_int hx, dp_int hy, q _ fun b F => .bl _⟩
  · split at ho
    · rename_i xs ys ns ms e1 e2
      cases ho
      cases hx with
      | tup h1 t1 =>
        cases hy with
        | tup h2 t2 =>
          obtain ⟨rfl, _⟩ := ints_vals t1 e1
          obtain ⟨rfl, _⟩ := ints_vals t2 e2
          exact .inr ⟨_, _, ns, ms, rfl, rfl, h1, h2, q _ fun b F => .bl _⟩
    · cases ho
  · cases ho
end
end FN
set_option Elab.async false
set_option linter.all false
set_option maxRecDepth 100000
set_option maxHeartbeats 4000000
/-! FN32: gcd, lcm, text.partition, written tuples by name. -/
namespace L2
open PySem PySem.Spec PyProof.Rows
section
variable {X : Cx}
def rLcm : List V → Hp → VK → Prop := fun vs H Q => ∃ a b : Int, vs = [.int a, .int b] ∧ a.natAbs < 2 ^ 6000 ∧ b.natAbs < 2 ^ 6000 ∧ Q (.int ((Nat.lcm a.natAbs b.natAbs : Nat) : Int)) H
theorem log_lt6 {n : Nat} (h : n < 2 ^ 6000) : n.log2 < 6000 := by
  by_cases z : n = 0
  · rw [z]; simp
  · exact (Nat.log2_lt z).mpr h
theorem lcm_le6 {m n : Nat} (hm : m < 2 ^ 6000) (hn : n < 2 ^ 6000) : (m.lcm n).log2 < 12000 := by
  by_cases z : m.lcm n = 0
  · rw [z]; simp
  · refine (Nat.log2_lt z).mpr (Nat.lt_of_le_of_lt (PySem.W.mc_lcm_le m n) ?_)
    rw [show (12000 : Nat) = 6000 + 6000 from rfl, Nat.pow_add]
    exact Nat.mul_lt_mul'' hm hn
theorem cr_lcm : CallR X (.builtin "math.lcm") rLcm := by
  intro pins s σ H vs us Q I r h
  obtain ⟨a, b, rfl, ha, hb, q⟩ := h
  obtain ⟨t, u, rfl⟩ := Vals.int2 r
  have h1 : (max 1 a.natAbs).log2 < 6000 := log_lt6 (by rcases Nat.le_total 1 a.natAbs with z | z <;> simp [Nat.max_def] <;> split <;> omega)
  have h2 : (max a.natAbs b.natAbs).log2 < 6000 := log_lt6 (by rw [Nat.max_def]; split <;> omega)
  have e : (Nat.lcm 1 a.natAbs).lcm b.natAbs = a.natAbs.lcm b.natAbs := by rw [PySem.W.mc_lcm_one]
  have h3 := lcm_le6 ha hb
  refine call_function_meets PySem.W.MGF.kind_lcm PySem.W.MGF.plain_lcm PySem.W.MGF.entry_lcm (PySem.W.MGF.args_lcm _ _) (PySem.W.mg_run_lcm a t b u (by omega) (by omega) ?_).meets ?_
  · rw [e, Int.natAbs_natCast]
    show _ < bitsLine
    unfold bitsLine
    omega
  · rw [e]
    exact ⟨.int _, H, I.tok _, ⟨_, rfl⟩, q⟩
end
end L2
namespace FN
open PySem PySem.Spec PyProof.Rows L2
section
variable {X : Cx} {W : WX} {b k : Bool} {κ : List Kind} {pos p apos : Pos} {a e o : Expr} {fa fb fo : M D} {m ma mb : Md}
def dGcd : D → D → Option D
  | .int i, .int j => some (.int ((Nat.gcd i.natAbs j.natAbs : Nat) : Int))
  | _, _ => none
def dLcm : D → D → Option D
  | .int i, .int j => if i.natAbs < 2 ^ 6000 ∧ j.natAbs < 2 ^ 6000 then some (.int ((Nat.lcm i.natAbs j.natAbs : Nat) : Int)) else none
  | _, _ => none
theorem fe_gcd {x : Str} (hm : X.mg x = some (.builtin "math.gcd")) (ha : FV X W κ ma a fa) (hb : FV X W κ mb e fb) (hg : Gl X x := by rfl) (hdb : (x == ("__debug__" : Str)) = false := by decide) (hs : starEach (a :: [e]) X.env = (false, eval a X.env) :: starEach [e] X.env := by rfl) (hs2 : starEach (e :: []) X.env = (false, eval e X.env) :: starEach [] X.env := by rfl) (hpl : (backTo pos (starEach [e] X.env)).any (·.1) = false := by rfl) :
    FV X W κ (.t (.v b)) (.Call (.Name x p) [a, e] [] pos) (f2 ma mb dGcd fa fb) :=
  (pe_callBfun cr_gcd hg hm (pa_cons ha (pa_cons hb pa_nil hs2) hs) hdb hs hpl).imp fun σ H Q h => ev_c2 (fun ρ w w2 x y dx dy vx vy z rel ext t1 t2 ex ey ez post => by
    unfold dGcd at ez
    split at ez
    · cases ez
      exact ⟨_, _, by rw [dp_int (rd_dp rel t1 ex), dp_int (rd_dp rel t2 ey)], fin_imm post rel ext (.int _)⟩
    · cases ez) h
theorem fe_lcm {x : Str} (hm : X.mg x = some (.builtin "math.lcm")) (ha : FV X W κ ma a fa) (hb : FV X W κ mb e fb) (hg : Gl X x := by rfl) (hdb : (x == ("__debug__" : Str)) = false := by decide) (hs : starEach (a :: [e]) X.env = (false, eval a X.env) :: starEach [e] X.env := by rfl) (hs2 : starEach (e :: []) X.env = (false, eval e X.env) :: starEach [] X.env := by rfl) (hpl : (backTo pos (starEach [e] X.env)).any (·.1) = false := by rfl) :
    FV X W κ (.t (.v b)) (.Call (.Name x p) [a, e] [] pos) (f2 ma mb dLcm fa fb) :=
  (pe_callBfun cr_lcm hg hm (pa_cons ha (pa_cons hb pa_nil hs2) hs) hdb hs hpl).imp fun σ H Q h => ev_c2 (fun ρ w w2 x y dx dy vx vy z rel ext t1 t2 ex ey ez post => by
    unfold dLcm at ez
    split at ez
    · split at ez
      · rename_i hh
        cases ez
        exact ⟨_, _, by rw [dp_int (rd_dp rel t1 ex), dp_int (rd_dp rel t2 ey)], hh.1, hh.2, fin_imm post rel ext (.int _)⟩
      · cases ez
    · cases ez) h
/-- text.partition(mark) -/
def dPart (s : Str) : D → Option D
  | .str t => if (t.length == 0) = false ∧ s.length ≤ sizeLine then some (.tuple [.str (Txt.partition s t).1, .str (Txt.partition s t).2.1, .str (Txt.partition s t).2.2]) else none
  | _ => none
theorem fe_partition (ho : FV X W κ (.t (.v k)) o fo) (ha : FV X W κ m a fa) (hs : starEach [a] X.env = [(false, eval a X.env)] := by rfl) (hbase : attributeBase o "partition" X.env (eval o X.env) = eval o X.env := by rfl) (hline : (apos.endLine == pos.line) = true := by rfl) :
    FV X W κ (.t (.v b)) (.Call (.Attribute o "partition" apos) [a] [] pos) (fM1 m dPart fo fa) := (pe_partition ho ha hs hbase hline).imp fun σ H Q h => ev_m1 (fun ρ w w2 s y dy vy z rel e t ey ez post => by
  unfold dPart at ez
  split at ez
  · split at ez
    · rename_i t0 hh
      cases ez
      exact ⟨s, t0, rfl, by rw [dp_str (rd_dp rel t ey)], hh.1, hh.2, fun p np => fin_tup post rel e (.cons (.str _) (.cons (.str _) (.cons (.str _) .nil))) np⟩
    · cases ez
  · cases ez) h
/-! ### tuples that the text wrote, by name -/
structure CT (K : PySem.W.Frag) (mg : Str → Option Value) (x : Str) (d : D) : Prop where
  ex : ∃ v, (∃ u, mg x = some u ∧ RelV v u) ∧ ∀ F, RD true K F v d
theorem fe_cstT {x : Str} {d : D} (h : CT X.K X.mg x d) (hg : Gl X x := by rfl) (hd : (x == ("__debug__" : Str)) = false := by decide) : FV X W κ (.t (.v true)) (.Name x pos) (fC d) := by
  obtain ⟨v, hu, q⟩ := h.ex
  exact fe_cst hu q hg hd
end
theorem ints_con {K : PySem.W.Frag} {F : Hp} : ∀ ns : List Int, RDs true K F (ns.map V.int) (ns.map .int)
  | [] => .nil
  | n :: ns => .cons (.int n) (ints_con ns)
theorem ct_mk {K : PySem.W.Frag} {mg : Str → Option Value} {h : Heap} {x : Str} {a : Addr} {o : Obj} {its : Array Value} {n : Nat} (ns : List Int) (X : K.In h) (G : h.Ns mainGlobals mg) (e1 : PySem.W.nsIn K mainGlobals x = some (some (.ref a))) (e2 : K.lookup a = some o) (e3 : o.cls = .type "tuple") (e4 : o.data = .seq its n) (e5 : its.size ≤ sizeLine) (e6 : Vals (ns.map V.int) its.toList) : CT K mg x (.tuple (ns.map .int)) :=
  ⟨.ref a, ⟨_, PySem.W.mg_of X G e1, rfl⟩, fun F => .con rfl (.inr ⟨o, its, n, e2, e3, e4, e5, e6⟩) (ints_con ns)⟩
end FN
set_option Elab.async false
set_option linter.all false
set_option maxRecDepth 100000
set_option maxHeartbeats 4000000
/-! FN33: combinations(tuple, k) walked. -/
namespace L2
open PySem PySem.Spec PyProof.Rows
/-- the rows of L, of xs, each in a new tuple -/
def Itcb (xs : List V) (L : List (List Nat)) : It :=
  ⟨fun i _ => i < L.length, fun i H v H' => ∃ T ix, v = .ref T ∧ H T = none ∧ L[i]? = some ix ∧ H' = upd H T (.tup (ix.map fun j => xs.getD j .non)), fun i _ => L.length ≤ i⟩
theorem vals_row {xs : List V} {vs : List Value} (rv : Vals xs vs) : ∀ ix : List Nat, (∀ j ∈ ix, j < vs.length) → Vals (ix.map fun j => xs.getD j .non) (CB.outT vs ix)
  | [], _ => .nil
  | j :: ix, h => by
    have hj : j < vs.length := h j List.mem_cons_self
    have hx : j < xs.length := by rw [rv.length]; exact hj
    obtain ⟨u, hu, ru⟩ := rv.get (List.getElem?_eq_getElem hx)
    have e1 : xs.getD j .non = xs[j] := by rw [List.getD_eq_getElem?_getD, List.getElem?_eq_getElem hx]; rfl
    have e2 : vs.toArray.getD j .none = u := by
      rw [Array.getD, dif_pos (by rw [List.size_toArray]; exact hj)]
      rw [List.getElem?_eq_getElem hj] at hu
      exact Option.some.inj hu
    refine .cons ?_ (vals_row rv ix fun j' h' => h j' (List.mem_cons_of_mem _ h'))
    show RelV (xs.getD j .non) (vs.toArray.getD j .none)
    rw [e1, e2]
    exact ru
theorem turn_cb {P : Program} {w : World} {K : PySem.W.Frag} {tg : Expr} {I T : Addr} {vs : List Value} {xs : List V} {L : List (List Nat)} {r : Nat} (rv : Vals xs vs) (ch : CB.Chain vs.length r L) (low : ∀ ix ∈ L, ∀ j ∈ ix, j < vs.length) (hne : T ≠ I) :
    Turn P w K tg (Itcb xs L) [I, T] I (fun i h => CB.CbSt h I T vs L i) where
  mem := by simp
  obj := fun i h st c hc => by
    obtain ⟨hp, s0, last, ix, hI, _⟩ := st
    have e' : c = I ∨ c = T := by simpa using hc
    rcases e' with q | q
    · rw [q]; exact ⟨_, hI, fun v q => nomatch q⟩
    · rw [q]; exact ⟨_, hp, fun v q => nomatch q⟩
  keep := fun i h h' st k => st.keep (fun o q => k I (by simp) o q) (fun o q => k T (by simp) o q)
  item := by
    intro X hP hw hK hc i pins s σ H E Iv hf st hg
    subst hP hw hK
    have hi : L[i]? = some L[i] := List.getElem?_eq_getElem hg
    have hz := (ch.1 _ _ hi).2
    have hIs : I < s.heap.objs.size := by obtain ⟨_, _, _, _, hI, _⟩ := st; exact Heap.lt_size hI
    have hTs : T < s.heap.objs.size := by obtain ⟨hp, _⟩ := st; exact Heap.lt_size hp
    refine CB.cb_item ch st hne hi fun h' c' ht kb => ⟨_, rfl, ?_⟩
    obtain ⟨hp', st', last', ix', hI', _⟩ := id c'
    refine go_of (s := { s with heap := h' }) hI' rfl rfl (by decide) ?_
    have new : ObjOk X.prog X.w (upd H s.heap.objs.size (.tup (L[i].map fun j => xs.getD j .non))) h' s.heap.objs.size (.tup (L[i].map fun j => xs.getD j .non)) :=
      ⟨by rw [List.length_map, sizeLine_eq]; omega, _, vals_row rv L[i] (low _ (List.getElem_mem hg)), ⟨_, ht, rfl, 0, rfl⟩⟩
    have I1 : Inv X pins σ (upd H s.heap.objs.size (.tup (L[i].map fun j => xs.getD j .non))) { s with heap := h' } :=
      Iv.turnedNew (t' := s.toks) (ch := [I, T]) (fun c o hb q => kb c o (fun z => hb (by simp [z])) q) hf (Nat.le_refl _) new
    refine ⟨.ref s.heap.objs.size, _, I1, rfl, ⟨_, L[i], rfl, Iv.hok.fresh (Nat.le_refl _), hi, rfl⟩, c', fun c hcm => ?_⟩
    have hlt : c < s.heap.objs.size := by
      have e' : c = I ∨ c = T := by simpa using hcm
      rcases e' with q | q
      · rw [q]; exact hIs
      · rw [q]; exact hTs
    rw [upd_ne (Nat.ne_of_lt hlt)]
    exact (hf c hcm).1
  done := by
    intro X hP hw hK hc i pins s σ H E Iv hf st hg
    subst hP hw hK
    have ei : i = L.length := by
      obtain ⟨_, _, _, _, _, q⟩ := st
      have hg' : L.length ≤ i := hg
      rcases q with ⟨e, _, e2⟩ | ⟨j, e, _, e2⟩ | ⟨e, _, e2⟩
      · have := (List.getElem?_eq_some_iff.mp e2).1
        omega
      · have := (List.getElem?_eq_some_iff.mp e2).1
        omega
      · rw [e2] at hg' ⊢
        rw [e]
        rfl
    subst ei
    exact CB.cb_done (Iv.ok.hd hc) ch st fun h' hk => ⟨rfl, Iv.turnedL (t' := s.toks) (ch := [I, T]) (fun c o hb q => hk c o (fun z => hb (by simp [z])) q) hf⟩
  self := fun A i s Q E st h => CB.cb_self st h
def iCb (K : PySem.W.Frag) (k : Nat) (te : TE) : TI := fun σ H R => te σ H fun x H1 => ∃ a xs L, x = .ref a ∧ SqT K H1 a xs ∧ Rows xs.length k L ∧ R (Itcb xs L) H1
theorem pi_cb {X : Cx} {tg e : Expr} {te : TE} {x : Str} {k j : Nat} {p2 pk pos2 : Pos} (hk : k ≤ 1000) (hgx : Gl X x) (hmx : X.mg x = some (.type "itertools.combinations")) (he : PE X e te) (hdb : (x == ("__debug__" : Str)) = false := by decide)
    (na : starEach [e, .Constant (.int k) j pk] X.env = (false, eval e X.env) :: starEach [.Constant (.int k) j pk] X.env := by rfl) (nb : starEach [.Constant (.int k) j pk] X.env = (false, eval (.Constant (.int k) j pk) X.env) :: starEach [] X.env := by rfl) (hp : (backTo pos2 (starEach [.Constant (.int k) j pk] X.env)).any (·.1) = false := by rfl) :
    PI X tg (.Call (.Name x p2) [e, .Constant (.int k) j pk] [] pos2) (iCb X.K k te) := by
  refine ⟨fun pins s σ H R I h => ?_⟩
  refine Call_ (ld_glob I hgx hmx (PyProof.Rows.callWith_type1 (args_cons (thn (he.run pins s σ H _ I h) fun xr s1 ⟨x1, H1, I1, r1, a, xs, L, ex, hq, rows, q⟩ => args_cons (wpAny_Constant_int (args_nil ?_)) nb) na) na hp) hdb)
  subst ex
  cases r1
  obtain ⟨its, rv, ⟨ob, ho, hc, n, hd⟩, hz⟩ := I1.tuple hq
  have hl : its.length = xs.length := rv.length.symm
  refine CB.call_cb hk (HSD.collect_grown a (T := "tuple") (.inr rfl) ho hc hd (fun h1 k1 g1 => ⟨?_, fun h3 hP hC k3 => ?_⟩) (by rw [List.size_toArray]; omega))
  · rw [List.toList_toArray]
    omega
  · simp only [List.toList_toArray] at hP hC
    dsimp only at hP hC k3 ⊢
    have hTI : h1.objs.size ≠ h1.objs.size + 1 := Nat.ne_of_lt (Nat.lt_succ_self _)
    have ch : CB.Chain its.length k L := by rw [hl]; exact rows.ch
    have st0 : CB.CbSt h3 (h1.objs.size + 1) h1.objs.size its L 0 := by
      refine ⟨hP, _, _, _, hC, ?_⟩
      have := ch.2
      by_cases z : k > its.length
      · rw [if_pos z] at this ⊢
        exact .inr (.inr ⟨rfl, rfl, this⟩)
      · rw [if_neg z] at this ⊢
        exact .inl ⟨rfl, rfl, this⟩
    refine CB.cb_self st0 ?_
    have I3 : Inv X pins σ H1 { s1 with heap := h3, toks := s1.toks + 1 } := I1.kept (t' := s1.toks + 1) fun b o e => k3 b o (k1 b o e)
    refine ⟨h1.objs.size + 1, [h1.objs.size + 1, h1.objs.size], _, _, H1, rfl, I3, turn_cb rv ch (fun ix hix j hj => by rw [hl]; exact rows.low ix hix j hj) hTI, st0, fun c hcm => ?_, q⟩
    have e' : c = h1.objs.size + 1 ∨ c = h1.objs.size := by simpa using hcm
    have hle : s1.heap.objs.size ≤ c := by
      rcases e' with z | z
      · rw [z]; exact Nat.le_succ_of_le g1
      · rw [z]; exact g1
    exact I1.fpOk hle (I1.hok.fresh hle)
end L2
namespace FN
open PySem PySem.Spec PyProof.Rows L2
/-- the pairs of a tuple's items, in order -/
def combD (ds : List D) : List D := (pairsL ds.length).map fun ix => .tuple (ix.map fun j => ds.getD j .none)
theorem rds_row {b : Bool} {K : PySem.W.Frag} {F : Hp} {xs : List V} {ds : List D} (r : RDs b K F xs ds) : ∀ ix : List Nat, (∀ j ∈ ix, j < ds.length) → RDs b K F (ix.map fun j => xs.getD j .non) (ix.map fun j => ds.getD j .none)
  | [], _ => .nil
  | j :: ix, h => by
    have hj : j < ds.length := h j List.mem_cons_self
    obtain ⟨v, ev, rv⟩ := r.get (List.getElem?_eq_getElem hj)
    refine .cons ?_ (rds_row r ix fun j' h' => h j' (List.mem_cons_of_mem _ h'))
    show RD b K F (xs.getD j .non) (ds.getD j .none)
    rw [List.getD_eq_getElem?_getD, List.getD_eq_getElem?_getD, ev, List.getElem?_eq_getElem hj]
    exact rv
theorem walk_cb {b : Bool} {K : PySem.W.Frag} {F : Hp} {xs : List V} {ds : List D} (r : RDs b K F xs ds) (hl : ds.length ≤ 10) : WalkD b K (Itcb xs (pairsL ds.length)) (combD ds) F := fun i H e => by
  refine ⟨fun l => ?_, fun d ed => ?_⟩
  · show (pairsL ds.length).length ≤ i
    unfold combD at l
    rw [List.length_map] at l
    exact l
  · unfold combD at ed
    rw [List.getElem?_map] at ed
    cases q : (pairsL ds.length)[i]? with
    | none =>
      rw [q] at ed
      cases ed
    | some ix =>
      rw [q] at ed
      cases ed
      refine ⟨(List.getElem?_eq_some_iff.mp q).1, fun z H' h => ?_⟩
      obtain ⟨T, ix', rfl, nT, e2, rfl⟩ := h
      rw [q] at e2
      cases e2
      exact .inr ⟨T, _, _, nT, rfl, rfl, rfl, rds_row r ix fun j hj => (pairs_rows _ hl).low ix (List.mem_of_getElem? q) j hj⟩
def iCb2 (fa : M D) : M (List D) := fun ρ => bdo (fa ρ) fun d ρ1 => match d with
  | .tuple ds => if ds.length ≤ 10 then some (.ok (combD ds) ρ1) else none
  | _ => none
@[simp] theorem u_iCb2 {fa : M D} {ρ : Env} : iCb2 fa ρ = bnd (fa ρ) Out.err fun d ρ1 => match d with
  | .tuple ds => if ds.length ≤ 10 then some (.ok (combD ds) ρ1) else none
  | _ => none := (rfl)
section
variable {X : Cx} {W : WX} {b : Bool} {κ : List Kind} {tg e : Expr} {fa : M D}
theorem fi_cb2 {x : Str} {j : Nat} {p2 pk pos2 : Pos} (hmx : X.mg x = some (.type "itertools.combinations")) (he : FV X W κ (.t (.v b)) e fa) (hgx : Gl X x := by rfl) (hdb : (x == ("__debug__" : Str)) = false := by decide)
    (na : starEach [e, .Constant (.int 2) j pk] X.env = (false, eval e X.env) :: starEach [.Constant (.int 2) j pk] X.env := by rfl) (nb : starEach [.Constant (.int 2) j pk] X.env = (false, eval (.Constant (.int 2) j pk) X.env) :: starEach [] X.env := by rfl) (hp : (backTo pos2 (starEach [.Constant (.int 2) j pk] X.env)).any (·.1) = false := by rfl) :
    FI X W b κ tg (.Call (.Name x p2) [e, .Constant (.int 2) j pk] [] pos2) (iCb2 fa) := (pi_cb (k := 2) (by decide) hgx hmx he hdb na nb hp).imp fun σ H R h => by
  obtain ⟨ρ, w, rfl, rel, post⟩ := h
  refine seqV (P := PostI (ctx X W) b κ σ w R) rel post (fun z => z) (fun n d ρ' z => z) fun d ρ1 v w1 rel1 e1 t1 post1 => ?_
  have r := Temp.rd t1
  split at post1
  · rename_i ds
    by_cases hl : ds.length ≤ 10
    · rw [if_pos hl] at post1
      cases r with
      | tup h1 rs => exact ⟨_, _, pairsL ds.length, rfl, SqT.of (rel1.same _ _ h1), by rw [rs.length]; exact pairs_rows _ hl, post1 w1 _ rel1 e1 (walk_cb rs hl)⟩
      | con z h1 rs => exact ⟨_, _, pairsL ds.length, rfl, sameT rel1.same h1, by rw [rs.length]; exact pairs_rows _ hl, post1 w1 _ rel1 e1 (walk_cb rs hl)⟩
    · rw [if_neg hl] at post1
      exact post1.elim
  · exact post1.elim
end
end FN
set_option Elab.async false
set_option linter.all false
set_option maxRecDepth 100000
set_option maxHeartbeats 4000000
/-! FB1: a search in breadth, nodes in the order in which they are found (plain Lean). -/
namespace FB
section
variable {α δ : Type} [DecidableEq α]
abbrev Fo (α δ : Type) := List (α × List δ)
def look : Fo α δ → α → Option (List δ)
  | [], _ => none
  | q :: r, a => if q.1 = a then some q.2 else look r a
theorem look_mem : ∀ {K : Fo α δ} {a : α} {p : List δ}, look K a = some p → (a, p) ∈ K
  | [], _, _, h => by cases h
  | q :: r, a, p, h => by
    unfold look at h
    split at h
    · rename_i e
      cases h
      subst e
      exact List.mem_cons_self
    · exact List.mem_cons_of_mem _ (look_mem h)
theorem look_app : ∀ {K L : Fo α δ} {a : α}, look (K ++ L) a = match look K a with | some p => some p | none => look L a
  | [], L, a => rfl
  | q :: r, L, a => by
    show (if q.1 = a then some q.2 else look (r ++ L) a) = match (if q.1 = a then some q.2 else look r a) with | some p => some p | none => look L a
    by_cases h : q.1 = a
    · rw [if_pos h, if_pos h]
    · rw [if_neg h, if_neg h, look_app]
theorem look_isSome {K : Fo α δ} {a : α} : (look K a).isSome = true ↔ a ∈ K.map Prod.fst := by
  induction K with
  | nil => simp [look]
  | cons q r ih =>
    unfold look
    by_cases h : q.1 = a
    · rw [if_pos h]
      simp [h]
    · rw [if_neg h, ih, List.map_cons, List.mem_cons]
      exact ⟨.inr, fun z => z.elim (fun z => absurd z.symm h) id⟩
theorem look_nodup {K : Fo α δ} {a : α} {p : List δ} (n : (K.map Prod.fst).Nodup) (h : (a, p) ∈ K) : look K a = some p := by
  induction K with
  | nil => cases h
  | cons q r ih =>
    rw [List.map_cons, List.nodup_cons] at n
    unfold look
    rcases List.mem_cons.mp h with rfl | h
    · rw [if_pos rfl]
    · rw [if_neg (fun z => n.1 (by rw [z]; exact List.mem_map_of_mem (f := Prod.fst) h)), ih n.2 h]
theorem look_mono {K K' : Fo α δ} {a : α} {p : List δ} (h : K <+: K') (e : look K a = some p) : look K' a = some p := by
  obtain ⟨L, rfl⟩ := h
  rw [look_app, e]
/-- one neighbour -/
def add1 (p : List δ) (K : Fo α δ) (e : δ × α) : Fo α δ := if (look K e.2).isSome = true then K else K ++ [(e.2, p ++ [e.1])]
theorem add1_pre {p : List δ} {K : Fo α δ} {e : δ × α} : K <+: add1 p K e := by
  unfold add1
  split
  · exact List.prefix_rfl
  · exact List.prefix_append _ _
theorem add1_nodup {p : List δ} {K : Fo α δ} {e : δ × α} (n : (K.map Prod.fst).Nodup) : ((add1 p K e).map Prod.fst).Nodup := by
  unfold add1
  split
  · exact n
  · rename_i h
    rw [List.map_append, List.nodup_append]
    refine ⟨n, by simp, fun a ha b hb => ?_⟩
    rw [List.map_cons, List.map_nil, List.mem_singleton] at hb
    subst hb
    intro z
    subst z
    exact h (look_isSome.mpr ha)
theorem add1_has {p : List δ} {K : Fo α δ} {e : δ × α} : (look (add1 p K e) e.2).isSome = true := by
  unfold add1
  split
  · assumption
  · rw [look_isSome]
    simp
theorem fold_pre {p : List δ} : ∀ {es : List (δ × α)} {K : Fo α δ}, K <+: es.foldl (add1 p) K
  | [], K => List.prefix_rfl
  | e :: es, K => by
    rw [List.foldl_cons]
    exact add1_pre.trans fold_pre
theorem fold_nodup {p : List δ} : ∀ {es : List (δ × α)} {K : Fo α δ}, (K.map Prod.fst).Nodup → ((es.foldl (add1 p) K).map Prod.fst).Nodup
  | [], K, n => n
  | e :: es, K, n => by
    rw [List.foldl_cons]
    exact fold_nodup (add1_nodup n)
theorem pre_isSome {K K' : Fo α δ} {a : α} (h : K <+: K') (e : (look K a).isSome = true) : (look K' a).isSome = true := by
  obtain ⟨p, e⟩ := Option.isSome_iff_exists.mp e
  rw [look_mono h e]
  rfl
theorem fold_has {p : List δ} : ∀ {es : List (δ × α)} {K : Fo α δ} {e : δ × α}, e ∈ es → (look (es.foldl (add1 p) K) e.2).isSome = true
  | e :: es, K, e', h => by
    rw [List.foldl_cons]
    rcases List.mem_cons.mp h with rfl | h
    · exact pre_isSome fold_pre add1_has
    · exact fold_has h
theorem add1_all {P : α → Prop} {p : List δ} {K : Fo α δ} {e : δ × α} (hK : ∀ q ∈ K, P q.1) (he : P e.2) : ∀ q ∈ add1 p K e, P q.1 := by
  unfold add1
  split
  · exact hK
  · intro q hq
    rcases List.mem_append.mp hq with hq | hq
    · exact hK q hq
    · rw [List.mem_singleton.mp hq]
      exact he
theorem fold_all {P : α → Prop} {p : List δ} : ∀ {es : List (δ × α)} {K : Fo α δ}, (∀ q ∈ K, P q.1) → (∀ e ∈ es, P e.2) → ∀ q ∈ es.foldl (add1 p) K, P q.1
  | [], K, hK, _ => hK
  | e :: es, K, hK, he => by
    rw [List.foldl_cons]
    exact fold_all (add1_all hK (he e List.mem_cons_self)) fun e' h => he e' (List.mem_cons_of_mem _ h)
variable (nb : α → List (δ × α)) (one : α)
/-- all neighbours of a node with its path -/
def expand (K : Fo α δ) (q : α × List δ) : Fo α δ := (nb q.1).foldl (add1 q.2) K
/-- after t nodes are looked at -/
def found : Nat → Fo α δ
  | 0 => [(one, [])]
  | t + 1 => match (found t)[t]? with
    | some q => expand nb (found t) q
    | none => found t
variable {nb one}
theorem found_step {t : Nat} {q : α × List δ} (h : (found nb one t)[t]? = some q) : found nb one (t + 1) = expand nb (found nb one t) q := by
  show (match (found nb one t)[t]? with | some q => expand nb (found nb one t) q | none => found nb one t) = _
  rw [h]
theorem found_pre1 {t : Nat} : found nb one t <+: found nb one (t + 1) := by
  show _ <+: (match (found nb one t)[t]? with | some q => expand nb (found nb one t) q | none => found nb one t)
  split
  · exact fold_pre
  · exact List.prefix_rfl
theorem found_pre {s t : Nat} (h : s ≤ t) : found nb one s <+: found nb one t := by
  induction h with
  | refl => exact List.prefix_rfl
  | step _ ih => exact ih.trans found_pre1
theorem found_nodup : ∀ t, ((found nb one t).map Prod.fst).Nodup
  | 0 => by simp [found]
  | t + 1 => by
    show (List.map Prod.fst (match (found nb one t)[t]? with | some q => expand nb (found nb one t) q | none => found nb one t)).Nodup
    split
    · exact fold_nodup (found_nodup t)
    · exact found_nodup t
theorem found_all {P : α → Prop} (h1 : P one) (hn : ∀ a, P a → ∀ e ∈ nb a, P e.2) : ∀ t, ∀ q ∈ found nb one t, P q.1
  | 0, q, hq => by
    rw [List.mem_singleton.mp hq]
    exact h1
  | t + 1, q, hq => by
    have ih := found_all h1 hn t
    have hq' : q ∈ (match (found nb one t)[t]? with | some q => expand nb (found nb one t) q | none => found nb one t) := hq
    split at hq'
    · rename_i q0 e
      exact fold_all ih (hn _ (ih q0 (List.mem_of_getElem? e))) q hq'
    · exact ih q hq'
theorem found_get {s t : Nat} {q : α × List δ} (h : s ≤ t) {i : Nat} (e : (found nb one s)[i]? = some q) : (found nb one t)[i]? = some q := by
  obtain ⟨L, e2⟩ := found_pre (nb := nb) (one := one) h
  rw [← e2, List.getElem?_append_left (List.getElem?_eq_some_iff.mp e).1]
  exact e
theorem found_pos {t : Nat} : 0 < (found nb one t).length := by
  have := (found_pre (nb := nb) (one := one) (Nat.zero_le t)).length_le
  have z : (found nb one 0).length = 1 := rfl
  omega
/-- if node i was looked at, its neighbours are found -/
theorem found_has {i t : Nat} {q : α × List δ} (h : i < t) (e : (found nb one i)[i]? = some q) {x : δ × α} (hx : x ∈ nb q.1) : (look (found nb one t) x.2).isSome = true := by
  have := fold_has (p := q.2) (K := found nb one i) hx
  refine pre_isSome (found_pre h) ?_
  rw [found_step e]
  exact this
/-- distinct members of a list are no more than it has -/
theorem nodup_le : ∀ {l m : List α}, l.Nodup → (∀ a ∈ l, a ∈ m) → l.length ≤ m.length
  | [], m, _, _ => Nat.zero_le _
  | a :: l, m, n, h => by
    rw [List.nodup_cons] at n
    have ha := h a List.mem_cons_self
    have := nodup_le (l := l) (m := m.erase a) n.2 fun b hb => (List.mem_erase_of_ne (fun z => n.1 (by rw [← z]; exact hb))).mpr (h b (List.mem_cons_of_mem _ hb))
    rw [List.length_erase_of_mem ha] at this
    have := List.length_pos_of_mem ha
    rw [List.length_cons]
    omega
/-- the first time at which the goal is found -/
theorem first_time {other : α} {B : Nat} (hB : ∀ t, (found nb one t).length ≤ B) (reach : ∀ P : α → Prop, P one → (∀ a, P a → ∀ e ∈ nb a, P e.2) → P other) : ∃ T, T < B ∧ (∀ s < T, s < (found nb one s).length ∧ look (found nb one s) other = none) ∧ (look (found nb one T) other).isSome = true := by
  have big : ∀ t, (found nb one t).length ≤ t → (look (found nb one t) other).isSome = true := fun t ht => by
    refine reach (fun a => (look (found nb one t) a).isSome = true) ?_ fun a ha e he => ?_
    · refine pre_isSome (found_pre (Nat.zero_le t)) ?_
      simp [found, look]
    · obtain ⟨p, ep⟩ := Option.isSome_iff_exists.mp ha
      obtain ⟨i, hi⟩ := List.mem_iff_getElem?.mp (look_mem ep)
      have il := (List.getElem?_eq_some_iff.mp hi).1
      -- the node stood at its place when it was looked at
      have hq : (found nb one i)[i]? = some (a, p) := by
        by_cases z : i < (found nb one i).length
        · have := found_get (nb := nb) (one := one) (by omega : i ≤ t) (List.getElem?_eq_getElem z)
          rw [hi] at this
          rw [List.getElem?_eq_getElem z, this]
        · exfalso
          -- nothing was found from i on
          have st : ∀ k, found nb one (i + k) = found nb one i := by
            intro k
            induction k with
            | zero => rfl
            | succ k ih =>
              show (match (found nb one (i + k))[i + k]? with | some q => expand nb (found nb one (i + k)) q | none => found nb one (i + k)) = _
              rw [ih, List.getElem?_eq_none (by omega)]
          have := st (t - i)
          rw [show i + (t - i) = t by omega] at this
          rw [this] at il
          omega
      exact found_has (by omega) hq he
  have ex : ∃ t, (look (found nb one t) other).isSome = true := ⟨B, big B (hB B)⟩
  have : ∃ T, (look (found nb one T) other).isSome = true ∧ ∀ s < T, ¬ (look (found nb one s) other).isSome = true := by
    obtain ⟨t, ht⟩ := ex
    induction t using Nat.strongRecOn with
    | ind t ih =>
      by_cases z : ∃ s < t, (look (found nb one s) other).isSome = true
      · obtain ⟨s, hs, e⟩ := z
        exact ih s hs e
      · exact ⟨t, ht, fun s hs e => z ⟨s, hs, e⟩⟩
  obtain ⟨T, hT, least⟩ := this
  have low : ∀ s < T, s < (found nb one s).length ∧ look (found nb one s) other = none := fun s hs => by
    refine ⟨?_, ?_⟩
    · have := mt (big s) (least s hs)
      omega
    · have := least s hs
      cases q : look (found nb one s) other with
      | none => rfl
      | some p => rw [q] at this; exact absurd rfl this
  refine ⟨T, ?_, low, hT⟩
  cases T with
  | zero => exact Nat.lt_of_lt_of_le found_pos (hB 0)
  | succ T =>
    have h1 := (low T (by omega)).1
    -- one node more at least: the goal
    have h2 := (low T (by omega)).2
    have h3 : (found nb one T).length < (found nb one (T + 1)).length := by
      have h4 := (found_pre1 (nb := nb) (one := one) (t := T))
      rcases Nat.lt_or_ge (found nb one T).length (found nb one (T + 1)).length with z | z
      · exact z
      · rw [← h4.eq_of_length (Nat.le_antisymm h4.length_le z), h2] at hT
        cases hT
    have := hB (T + 1)
    omega
end
end FB
set_option Elab.async false
set_option linter.all false
set_option maxRecDepth 100000
set_option maxHeartbeats 4000000
/-! FN34: len(set(l)) of a list of tuples of ints. -/
namespace L2
open PySem PySem.Spec PyProof.Rows
section
variable {X : Cx}
/-- the set of l's items has as many as L -/
def tLenSetT (K : PySem.W.Frag) (ta : TE) : TE := fun σ H Q => ta σ H fun x H1 => ∃ (l : Addr) (ks : List (Addr × List Int)), x = V.ref l ∧ SqL K H1 l (ks.map fun p => V.ref p.1) ∧ (∀ p ∈ ks, SqT K H1 p.1 (p.2.map V.int)) ∧ ks.length < 64 ∧
  ∀ L : List (List Int), L.Nodup → (∀ k ∈ L, ∃ p ∈ ks, p.2 = k) → (∀ p ∈ ks, p.2 ∈ L) → Q (.int L.length) H1
theorem pe_lenSetT {a : Expr} {ta : TE} {p p2 q pos : Pos} (hc : X.calm = true) (hu : X.A.units + 64 < cLine) (hg : Gl X "len") (hm : X.mg "len" = none) (hg2 : Gl X "set") (hm2 : X.mg "set" = none) (ha : PE X a ta)
    (na : starEach [a] X.env = (false, eval a X.env) :: starEach [] X.env := by rfl) : PE X (.Call (.Name "len" p) [.Call (.Name "set" p2) [a] [] q] [] pos) (tLenSetT X.K ta) := by
  refine ⟨fun pins s σ H Q I h => ?_⟩
  refine Call_ (ld_blt I hg hm PySem.boot_len (PyProof.Rows.callWith_builtin1 (PyProof.Rows.args_cons (Call_ (ld_blt I hg2 hm2 PyProof.Rows.boot_set (PyProof.Rows.callWith_type1 (PyProof.Rows.args_cons (thn (ha.run pins s σ H _ I h) fun v s1 hh => PyProof.Rows.args_nil ?_) na) na rfl))) rfl) rfl rfl))
  obtain ⟨x, H1, I1, r1, l, ks, rfl, hq, hk, few, q1⟩ := hh
  cases r1
  obtain ⟨its, rv, pl, _⟩ := I1.list hq
  refine call_set_tups (P := X.prog) (w := X.w) ks (I1.ok.hd hc) pl.isList (by simpa using refs_of_vals rv) (fun p hp => I1.isT (hk p hp)) few (by omega) fun h2 tk L es ep t R g k2 => ?_
  have fits := SetTR.fits (s := { s1 with heap := h2, toks := tk }) R
  have size := SetTR.size (s := { s1 with heap := h2, toks := tk }) R
  have small := R.few
  obtain ⟨o, ho, hex, hd⟩ := R.ob
  have I2 : Inv X pins σ H1 { s1 with heap := h2, toks := tk } := I1.kept k2
  refine PyProof.Rows.args_nil (call_len_set ho hex hd fits (by rw [size]; omega) ⟨.int L.length, H1, I2.tok _, ⟨_, by rw [size]⟩, ?_⟩)
  have := q1 (L.map (·.2)) R.nd (fun kk hkk => ?_) fun p hp => g.all p (by rw [List.take_length]; exact hp)
  · rw [List.length_map] at this
    exact this
  · obtain ⟨p, hp, rfl⟩ := List.mem_map.mp hkk
    exact ⟨p, List.mem_of_mem_take (g.sub p hp), rfl⟩
end
end L2
namespace FN
open PySem PySem.Spec PyProof.Rows L2
/-- rows of ints, if all are tuples of ints -/
def rowsI? : List D → Option (List (List Int))
  | [] => some []
  | .tuple ds :: r => match ints? ds, rowsI? r with
    | some ns, some k => some (ns :: k)
    | _, _ => none
  | _ => none
/-- each once -/
def once : List (List Int) → List (List Int)
  | [] => []
  | k :: l => if k ∈ l then once l else k :: once l
theorem once_mem {k : List Int} : ∀ {l : List (List Int)}, k ∈ once l ↔ k ∈ l
  | [] => Iff.rfl
  | a :: l => by
    unfold once
    split
    · rename_i h
      rw [once_mem, List.mem_cons]
      exact ⟨.inr, fun z => z.elim (fun e => by rw [e]; exact h) id⟩
    · rw [List.mem_cons, List.mem_cons, once_mem]
theorem once_nodup : ∀ l : List (List Int), (once l).Nodup
  | [] => List.nodup_nil
  | a :: l => by
    unfold once
    split
    · exact once_nodup l
    · rename_i h
      exact List.nodup_cons.mpr ⟨fun z => h (once_mem.mp z), once_nodup l⟩
theorem same_len {L l : List (List Int)} (n : L.Nodup) (h : ∀ k, k ∈ L ↔ k ∈ l) : L.length = (once l).length :=
  Nat.le_antisymm (FB.nodup_le n fun a ha => once_mem.mpr ((h a).mp ha)) (FB.nodup_le (once_nodup l) fun a ha => (h a).mpr (once_mem.mp ha))
theorem rowsI_rds {b : Bool} {K : PySem.W.Frag} {F H : Hp} (e : Same F H) : ∀ {ds : List D} {xs : List V} {ls : List (List Int)}, RDs b K F xs ds → rowsI? ds = some ls → ∃ ks : List (Addr × List Int), xs = (ks.map fun p => V.ref p.1) ∧ (∀ p ∈ ks, SqT K H p.1 (p.2.map V.int)) ∧ ks.map (·.2) = ls
  | [], xs, ls, r, h => by
    cases r
    cases h
    exact ⟨[], rfl, (fun _ z => by cases z), rfl⟩
  | d :: ds, xs, ls, r, h => by
    cases r with
    | @cons v vs _ _ r1 rr =>
      cases d with
      | tuple es =>
        unfold rowsI? at h
        split at h
        · rename_i ns k e1 e2
          cases h
          obtain ⟨ks, ex, hk, el⟩ := rowsI_rds e rr e2
          obtain ⟨a, us, ev, sq, da⟩ : ∃ a us, v = .ref a ∧ SqT K H a us ∧ DpAll K H us es := by
            cases Dp_same e r1 with
            | tup h1 t1 => exact ⟨_, _, rfl, h1, t1⟩
          obtain ⟨rfl, _⟩ := ints_vals da e1
          refine ⟨(a, ns) :: ks, by rw [List.map_cons, ev, ex], fun p hp => ?_, by rw [List.map_cons, el]⟩
          rcases List.mem_cons.mp hp with rfl | hp
          · exact sq
          · exact hk p hp
        · cases h
      | _ => cases h
def dLenSet : D → Option D
  | .list ds => match rowsI? ds with
    | some ls => if ls.length < 64 then some (.int ((once ls).length : Nat)) else none
    | none => none
  | _ => none
section
variable {X : Cx} {W : WX} {b : Bool} {κ : List Kind} {pos p p2 q : Pos} {a : Expr} {fa : M D} {m : Md}
theorem fe_lenSet (hc : X.calm = true) (hu : X.A.units + 64 < cLine) (hg : Gl X "len") (hm : X.mg "len" = none) (hg2 : Gl X "set") (hm2 : X.mg "set" = none) (ha : FV X W κ m a fa) (h1 : itB b κ m := by rfl) (na : starEach [a] X.env = (false, eval a X.env) :: starEach [] X.env := by rfl) :
    FV X W κ (.t (.v b)) (.Call (.Name "len" p) [.Call (.Name "set" p2) [a] [] q] [] pos) (f1 m dLenSet fa) :=
  (pe_lenSetT hc hu hg hm hg2 hm2 ha na).imp fun σ H Q h => ev_1 (r := fun x H Q => ∃ (l : Addr) (ks : List (Addr × List Int)), x = V.ref l ∧ SqL X.K H l (ks.map fun (p : Addr × List Int) => V.ref p.1) ∧ (∀ p ∈ ks, SqT X.K H p.1 (p.2.map V.int)) ∧ ks.length < 64 ∧
    ∀ L : List (List Int), L.Nodup → (∀ k ∈ L, ∃ p ∈ ks, p.2 = k) → (∀ p ∈ ks, p.2 ∈ L) → Q (.int L.length) H) (fun ρ w w1 x dx vx z rel e t ex ez post => by
    unfold dLenSet at ez
    split at ez
    · split at ez
      · rename_i ls el
        split at ez
        · rename_i few
          cases ez
          obtain ⟨p, us, ep, sp, rs1⟩ := opd_list h1 rel t ex
          obtain ⟨ks, eu, hk, ek⟩ := rowsI_rds rel.same rs1 el
          refine ⟨p, ks, ep, by rw [← eu]; exact SqL.of sp, hk, by rw [← ek, List.length_map] at few; exact few, fun L nd h2 h3 => ?_⟩
          rw [same_len (l := ls) nd fun k => ⟨fun hkL => ?_, fun hkl => ?_⟩]
          · exact fin_imm post rel e (.int _)
          · obtain ⟨p, hp, rfl⟩ := h2 k hkL
            rw [← ek]
            exact List.mem_map_of_mem (f := Prod.snd) hp
          · rw [← ek] at hkl
            obtain ⟨p, hp, rfl⟩ := List.mem_map.mp hkl
            exact h3 p hp
        · cases ez
      · cases ez
    · cases ez) h
end
end FN
set_option Elab.async false
set_option linter.all false
set_option maxRecDepth 100000
set_option maxHeartbeats 4000000
/-! FN35: set(t), sorted(set(t)) of a tuple of tuples of ints. -/
namespace L2
open PySem PySem.Spec PyProof.Rows
/-- the set as it is born -/
abbrev bornSet (w : World) : Obj := { cls := .type "set", dict := none, data := .set #[] 0 (.fresh 0 0 (!w.params.followText "set-order")) }
section
variable {P : Program} {w : World} {A : Around} {E : Value → Shared → Prop} {s : Shared}
set_option maxHeartbeats 6400000 in
theorem set_of_tup {l : Addr} {items : Array Value} (ks : List (Addr × List Int)) {Q : Value → Shared → Prop} (hh : A.handled = none) (hl : s.heap.IsTuple l items) (hit : items.toList = ks.map fun p => Value.ref p.1)
    (hk : ∀ p ∈ ks, IsT P w s.heap p.2 p.1) (hfew : ks.length < 64) (hu : A.units + 3 < cLine)
    (h : ∀ (h' : Heap) (tk : Nat) L es ep t, SetTR P w h' s.heap.objs.size L es ep t → Got ks ks.length L → (∀ b o, s.heap.get? b = some o → h'.get? b = some o) → Q (.ref s.heap.objs.size) { s with heap := h', toks := tk }) :
    wpAny (model P w) A (call (.type "set") [.ref l]) Q E s := by
  have many : items.size = ks.length := by rw [← Array.length_toList, hit, List.length_map]
  obtain ⟨_, _, hmro⟩ := F.called_set.mro
  have hmade := F.called_set.made
  have hsub := F.called_set.sub
  refine wpAny_call (codeAny_of_tree ?_)
  show wpAny _ _ (callAny (.type "set") _) _ _ s
  refine wpAny_pure ⟨Code.quiet_builtin _ (by decide +kernel), codeAny_builtin F.entry_type_call ?_⟩
  rw [Around.under_plain (weight_type_call_type "set" [.ref l] []) rfl]
  have hnt := F.called_set.notType
  have hcc := F.called_set.canCreate
  have htc := F.typeCall_set_1 (.ref l)
  repeat (any_goals (first | assumption | wp_step))
  refine codeAny_mono (code_set_led1 (.ref l) (E := E) (Q₁ := fun ob t => ob = .ref s.heap.objs.size ∧ t = { s with heap := s.heap.push (bornSet w) }) ⟨rfl, rfl⟩) fun r t hr => ?_
  rcases r with e | fl
  · exact hr
  rcases fl with ob | _ | _ | _
  case ok.ret =>
    obtain ⟨rfl, rfl⟩ := hr
    have born : (s.heap.push (bornSet w)).get? s.heap.objs.size = some (bornSet w) := Heap.get?_push_size _ rfl
    have tS : Shared.TypeIs { s with heap := s.heap.push (bornSet w) } (.ref s.heap.objs.size) "set" := ⟨_, born, rfl⟩
    have hlk := F.called_set.init.lookup
    have hbd := F.called_set.init.bind (.ref s.heap.objs.size)
    repeat (any_goals (first | assumption | wp_step))
    refine codeAny_mono (codeAny_call_builtin (R := wants (fun r t => r = .none ∧ ∃ h' tk L es ep tb, t = { s with heap := h', toks := tk } ∧ SetTR P w h' s.heap.objs.size L es ep tb ∧ Got ks ks.length L ∧ (∀ b o, s.heap.get? b = some o → h'.get? b = some o)) E)
      F.called_set.init.plain F.entry_set_init (check_set_init_1 tS ?_)) fun r2 t2 hr2 => ?_
    · obtain ⟨⟨ocls, odict, odata, oslots⟩, ho, hcl, n, hd⟩ := id hl
      simp only at hcl hd
      subst hcl hd
      have lS : l < s.heap.objs.size := Heap.lt_size ho
      have ho1 : (s.heap.push (bornSet w)).get? l = some { cls := .type "tuple", dict := odict, data := .seq items n, slots := oslots } := Heap.get?_push_of_some _ ho
      have st1 := F.sub_tuple_set
      have st2 := F.sub_tuple_frozenset
      have nd : (Value.type "tuple" == Value.type "dict") = false := by decide
      have hl1 : (s.heap.push (bornSet w)).IsTuple l items := ⟨_, ho1, rfl, n, rfl⟩
      unfold Builtin.«set.__init__» noKeywords Builtin.Frozenset.updateFrom
      generalize hPI : pyIter = PI
      wp_walk
      subst hPI
      refine wpAny_pyIter_tuple hl1 ?_
      refine wpAny_bind (wpAny_runValue ?_)
      have hh3 : A.in1.in1.in1.handled = none := by simp [hh]
      have sz : (s.heap.push (bornSet w)).objs.size = s.heap.objs.size + 1 := Heap.size_push ..
      have lI : l ≠ (s.heap.push (bornSet w)).objs.size := by rw [sz]; exact Nat.ne_of_lt (Nat.lt_succ_of_lt lS)
      have apart : s.heap.objs.size ∉ [(s.heap.push (bornSet w)).objs.size, l] := by
        rw [sz]
        intro z
        rcases List.mem_cons.mp z with z | z
        · exact absurd z (Nat.ne_of_lt (Nat.lt_succ_self _))
        · exact absurd (List.mem_singleton.mp z) (Nat.ne_of_gt lS)
      have item : ∀ (i : Nat) (v : Value), items[i]? = some v → ∃ p, ks[i]? = some p ∧ v = .ref p.1 := fun i v hv => by
        have q : (ks.map fun p => Value.ref p.1)[i]? = some v := by rw [← hit, Array.getElem?_toList]; exact hv
        rw [List.getElem?_map, Option.map_eq_some_iff] at q
        obtain ⟨p, e1, e2⟩ := q
        exact ⟨p, e1, e2.symm⟩
      have fresh : ∀ b, s.heap.objs.size ≤ b → s.heap.get? b = none := fun b hb => by
        rcases q : s.heap.get? b with _ | o
        · rfl
        · exact absurd (Nat.lt_of_lt_of_le (Heap.lt_size q) hb) (Nat.lt_irrefl _)
      refine set_update_tups ((Walks.tuple hh3 _ l lI items).toS) s.heap.objs.size apart ks many hfew item s.heap hk (fresh _ (Nat.le_refl _)) (fun b hb => fresh b (by rw [List.mem_singleton.mp hb, sz]; exact Nat.le_succ _)) hu (items.size - 0) 0 _ (by omega) (Nat.zero_le _)
        ⟨⟨_, Heap.get?_push_size _ rfl, rfl, rfl⟩, hl1.push _⟩ (fun b o e => Heap.get?_push_of_some _ (Heap.get?_push_of_some _ e)) ?first ?last
      case first => exact ⟨[], #[], 0, _, setTR_fresh (Heap.get?_push_of_some _ born), Got.zero ks⟩
      case last =>
        intro ⟨h', g2, d2, tk, o2⟩ L es ep tb hm hS got keep
        have e1 : g2 = s.gens := hm.gens
        have e2 : d2 = s.drawn := hm.drawn
        have e3 : o2 = s.os := hm.os
        subst e1 e2 e3
        rw [many] at got
        refine wpAny_pure ?_
        show wpAny _ _ (ret Value.none) _ _ _
        exact wpAny_pure ⟨rfl, h', tk, L, es, ep, tb, rfl, hS, got, keep⟩
    · rcases r2 with e | fl2
      · exact hr2
      rcases fl2 with r | _ | _ | _
      case ok.ret =>
        obtain ⟨rfl, h', tk, L, es, ep, tb, rfl, hS, got, keep⟩ := hr2
        repeat (any_goals (first | assumption | wp_step))
        exact h _ _ _ _ _ _ hS got keep
      all_goals exact hr2.elim
  all_goals exact hr.elim
end
end L2
set_option Elab.async false
set_option linter.all false
set_option maxRecDepth 100000
set_option maxHeartbeats 4000000
/-! FN36: sorted(set(t)) of a tuple of tuples of ints in [0, 64). -/
namespace L2
open PySem PySem.Spec PyProof.Rows
section
variable {X : Cx}
def tSortSetT (K : PySem.W.Frag) (ta : TE) : TE := fun σ H Q => ta σ H fun x H1 => ∃ (l : Addr) (ks : List (Addr × List Int)) (d : Nat), x = V.ref l ∧ SqT K H1 l (ks.map fun (p : Addr × List Int) => V.ref p.1) ∧ (∀ p ∈ ks, SqT K H1 p.1 (p.2.map V.int)) ∧ ks.length < 64 ∧ 1 ≤ d ∧ (∀ p ∈ ks, p.2.length = d ∧ TS.Bd 64 p.2) ∧
  ∀ (L : List (Addr × List Int)) (p : Addr), (∀ q ∈ L, q ∈ ks) → (∀ q ∈ ks, q.2 ∈ L.map (·.2)) → (L.map (·.2)).Nodup → L.Pairwise (fun q r => TS.code 64 q.2 ≤ TS.code 64 r.2) → H1 p = none → Q (.ref p) (upd H1 p (.lst (L.map fun q => V.ref q.1)))
theorem sort_fin {pins : List (Addr × Obj)} {s : Shared} {σ : L2.St} {H : Hp} {Q : VK} {a : Addr} {L : List (Addr × List Int)} {es : Array (Int × Value)} {ep : Nat} {t : SetTable} {d : Nat} (hc : X.calm = true) (I : Inv X pins σ H s) (R : SetTR X.prog X.w s.heap a L es ep t) (hd : 1 ≤ d) (hB : ∀ p ∈ L, p.2.length = d ∧ TS.Bd 64 p.2)
    (q : ∀ (L2 : List (Addr × List Int)) (b : Addr), L2.Perm L → (L2.map (·.2)).Nodup → L2.Pairwise (fun q r => TS.code 64 q.2 ≤ TS.code 64 r.2) → H b = none → Q (.ref b) (upd H b (.lst (L2.map fun q => V.ref q.1)))) :
    wpAny (model X.prog X.w) X.A (call (.builtin "sorted") [.ref a]) (EP X pins σ Q) X.xe s := by
  refine sorted_setT R (I.ok.hd hc) hd hB fun s3 b out c L2 k g3 o hp hb hout pm pw => ?_
  have hfew : L2.length < 64 := by rw [pm.length_eq]; exact R.few
  have hn : H b = none := I.hok.fresh hp
  have J : Inv X pins σ (upd H b (.lst (L2.map fun q => V.ref q.1))) { s with heap := s3.heap, gens := s3.gens, drawn := s3.drawn, toks := s3.toks } :=
    I.call (ch := []) (Un.laid k hp hn) (I.hok.laid k hp ⟨by rw [List.length_map, sizeLine_eq]; omega, out.toList, c, by rw [hout]; exact vals_of_refs L2, hb⟩) (by rw [g3]; exact I.bare) (fun _ z => nomatch z)
  have e : s3 = { s with heap := s3.heap, gens := s3.gens, drawn := s3.drawn, toks := s3.toks } := by
    cases s3
    cases s
    cases o
    rfl
  rw [e]
  exact ⟨.ref b, _, J, rfl, q L2 b pm ((pm.map (·.2)).nodup_iff.mpr R.nd) pw hn⟩
theorem pe_sortSetT {a : Expr} {ta : TE} {p p2 q pos : Pos} (hc : X.calm = true) (hu : X.A.units + 64 < cLine) (hg : Gl X "sorted") (hm : X.mg "sorted" = none) (hg2 : Gl X "set") (hm2 : X.mg "set" = none) (ha : PE X a ta)
    (na : starEach [a] X.env = (false, eval a X.env) :: starEach [] X.env := by rfl) : PE X (.Call (.Name "sorted" p) [.Call (.Name "set" p2) [a] [] q] [] pos) (tSortSetT X.K ta) := by
  refine ⟨fun pins s σ H Q I h => ?_⟩
  refine Call_ (ld_blt I hg hm boot_sorted (PyProof.Rows.callWith_builtin1 (PyProof.Rows.args_cons (Call_ (ld_blt I hg2 hm2 PyProof.Rows.boot_set (PyProof.Rows.callWith_type1 (PyProof.Rows.args_cons (thn (ha.run pins s σ H _ I h) fun v s1 hh => PyProof.Rows.args_nil ?_) na) na rfl))) rfl) rfl rfl))
  obtain ⟨x, H1, I1, r1, l, ks, d, rfl, hq, hk, few, hd, hB, q1⟩ := hh
  cases r1
  obtain ⟨its, rv, pl, _⟩ := I1.tuple hq
  refine set_of_tup (P := X.prog) (w := X.w) ks (I1.ok.hd hc) pl (by simpa using refs_of_vals rv) (fun p hp => I1.isT (hk p hp)) few (by omega) fun h2 tk L es ep t R g k2 => PyProof.Rows.args_nil ?_
  have I2 : Inv X pins σ H1 { s1 with heap := h2, toks := tk } := I1.kept k2
  have sub : ∀ p ∈ L, p ∈ ks := fun p hp => List.mem_of_mem_take (g.sub p hp)
  exact sort_fin hc I2 R hd (fun p hp => hB p (sub p hp)) fun L2 b pm nd pw hn => q1 L2 b (fun q hq => sub q (pm.mem_iff.mp hq)) (fun q hq => (pm.map (·.2)).mem_iff.mpr (g.all q (by rw [List.take_length]; exact hq))) nd pw hn
end
end L2
set_option Elab.async false
set_option linter.all false
set_option maxRecDepth 100000
set_option maxHeartbeats 4000000
/-! FN37: the rule for sorted(set(t)). -/
namespace FN
open PySem PySem.Spec PyProof.Rows L2
theorem code_in : ∀ {r : List Int}, TS.Bd 64 r → 0 ≤ TS.code 64 r ∧ TS.code 64 r < 64 ^ r.length
  | [], _ => ⟨Int.le_refl _, by decide⟩
  | d :: r, h => by
    obtain ⟨h1, h2⟩ := code_in h.tail
    obtain ⟨h3, h4⟩ := h.head
    show 0 ≤ d * 64 ^ r.length + TS.code 64 r ∧ d * 64 ^ r.length + TS.code 64 r < 64 ^ (r.length + 1)
    have p : (0 : Int) < 64 ^ r.length := Int.pow_pos (by decide)
    have e : (64 : Int) ^ (r.length + 1) = 64 ^ r.length * 64 := Int.pow_succ ..
    have m1 : 0 ≤ d * 64 ^ r.length := Int.mul_nonneg h3 (by omega)
    have m2 : (d + 1) * 64 ^ r.length ≤ 64 * 64 ^ r.length := Int.mul_le_mul_of_nonneg_right (by omega) (by omega)
    rw [Int.add_mul, Int.one_mul] at m2
    rw [e, Int.mul_comm (64 ^ r.length) 64]
    omega
theorem code_inj : ∀ {a b : List Int}, a.length = b.length → TS.Bd 64 a → TS.Bd 64 b → TS.code 64 a = TS.code 64 b → a = b
  | [], [], _, _, _, _ => rfl
  | x :: a, y :: b, hl, ha, hb, h => by
    have hl' : a.length = b.length := by simpa using hl
    obtain ⟨a1, a2⟩ := code_in ha.tail
    obtain ⟨b1, b2⟩ := code_in hb.tail
    have h' : x * 64 ^ a.length + TS.code 64 a = y * 64 ^ b.length + TS.code 64 b := h
    rw [hl'] at h' a2
    have p : (0 : Int) < 64 ^ b.length := Int.pow_pos (by decide)
    generalize (64 : Int) ^ b.length = P at h' a2 b2 p
    have exy : x = y := by
      rcases Int.lt_trichotomy x y with z | z | z
      · have := Int.mul_le_mul_of_nonneg_right (show x + 1 ≤ y by omega) (Int.le_of_lt p)
        rw [Int.add_mul, Int.one_mul] at this
        omega
      · exact z
      · have := Int.mul_le_mul_of_nonneg_right (show y + 1 ≤ x by omega) (Int.le_of_lt p)
        rw [Int.add_mul, Int.one_mul] at this
        omega
    subst exy
    rw [code_inj hl' ha.tail hb.tail (by omega)]
  | [], _ :: _, hl, _, _, _ => by simp at hl
  | _ :: _, [], hl, _, _, _ => by simp at hl
/-- each row once, in order -/
def sortSet (ls : List (List Int)) : List (List Int) := (once ls).mergeSort fun a b => decide (TS.code 64 a ≤ TS.code 64 b)
def setOk (ls : List (List Int)) : Prop := ls.length < 64 ∧ ∃ d, 1 ≤ d ∧ ∀ k ∈ ls, k.length = d ∧ TS.Bd 64 k
theorem sortSet_eq {ls L : List (List Int)} (ok : setOk ls) (nd : L.Nodup) (hm : ∀ k, k ∈ L ↔ k ∈ ls) (pw : L.Pairwise fun a b => TS.code 64 a ≤ TS.code 64 b) : L = sortSet ls := by
  obtain ⟨_, d, _, hk⟩ := ok
  have pm : L.Perm (sortSet ls) := ((List.perm_ext_iff_of_nodup nd (once_nodup ls)).mpr fun k => by rw [hm k, once_mem]).trans (List.mergeSort_perm _ _).symm
  refine List.Perm.eq_of_pairwise (le := fun a b => TS.code 64 a ≤ TS.code 64 b) (fun a b ha hb h1 h2 => ?_) pw ?_ pm
  · obtain ⟨la, ba⟩ := hk a ((hm a).mp ha)
    obtain ⟨lb, bb⟩ := hk b (once_mem.mp ((List.mergeSort_perm _ _).mem_iff.mp hb))
    exact code_inj (la.trans lb.symm) ba bb (by omega)
  · refine (List.pairwise_mergeSort (le := fun a b => decide (TS.code 64 a ≤ TS.code 64 b)) (fun a b c h1 h2 => ?_) (fun a b => ?_) _).imp fun h => of_decide_eq_true h
    · have := of_decide_eq_true h1
      have := of_decide_eq_true h2
      exact decide_eq_true (by omega)
    · rw [Bool.or_eq_true]
      by_cases z : TS.code 64 a ≤ TS.code 64 b
      · exact .inl (decide_eq_true z)
      · exact .inr (decide_eq_true (by omega))
theorem rowsI_mem {b : Bool} {K : PySem.W.Frag} {F H : Hp} (e : Same F H) : ∀ {ds : List D} {xs : List V} {ls : List (List Int)}, RDs b K F xs ds → rowsI? ds = some ls → ∃ ks : List (Addr × List Int), xs = (ks.map fun p => V.ref p.1) ∧ (∀ p ∈ ks, SqT K H p.1 (p.2.map V.int) ∧ RD b K F (.ref p.1) (.tuple (p.2.map .int))) ∧ ks.map (·.2) = ls
  | [], xs, ls, r, h => by
    cases r
    cases h
    exact ⟨[], rfl, (fun _ z => by cases z), rfl⟩
  | d :: ds, xs, ls, r, h => by
    cases r with
    | @cons v vs _ _ r1 rr =>
      cases d with
      | tuple es =>
        unfold rowsI? at h
        split at h
        · rename_i ns k e1 e2
          cases h
          obtain ⟨ks, ex, hk, el⟩ := rowsI_mem e rr e2
          obtain ⟨a, us, ev, sq, da⟩ : ∃ a us, v = .ref a ∧ SqT K H a us ∧ DpAll K H us es := by
            cases Dp_same e r1 with
            | tup h1 t1 => exact ⟨_, _, rfl, h1, t1⟩
          obtain ⟨rfl, rfl⟩ := ints_vals da e1
          subst ev
          refine ⟨(a, ns) :: ks, by rw [List.map_cons, ex], fun p hp => ?_, by rw [List.map_cons, el]⟩
          rcases List.mem_cons.mp hp with rfl | hp
          · exact ⟨sq, r1⟩
          · exact hk p hp
        · cases h
      | _ => cases h
open Classical in
noncomputable def dSortSet : D → Option D
  | .tuple ds => match rowsI? ds with
    | some ls => if setOk ls then some (.list ((sortSet ls).map fun k => .tuple (k.map .int))) else none
    | none => none
  | _ => none
theorem rds_refs {b : Bool} {K : PySem.W.Frag} {F : Hp} : ∀ {L : List (Addr × List Int)}, (∀ p ∈ L, RD b K F (.ref p.1) (.tuple (p.2.map .int))) → RDs b K F (L.map fun p => V.ref p.1) ((L.map (·.2)).map fun k => .tuple (k.map .int))
  | [], _ => .nil
  | p :: L, h => .cons (h p List.mem_cons_self) (rds_refs fun q hq => h q (List.mem_cons_of_mem _ hq))
section
variable {X : Cx} {W : WX} {b : Bool} {κ : List Kind} {pos p p2 q : Pos} {a : Expr} {fa : M D} {m : Md}
theorem fe_sortSet {kd : Kind} (hd : newL b kd) (hc : X.calm = true) (hu : X.A.units + 64 < cLine) (hg : Gl X "sorted") (hm : X.mg "sorted" = none) (hg2 : Gl X "set") (hm2 : X.mg "set" = none) (ha : FV X W κ m a fa) (h1 : itB b κ m := by rfl) (na : starEach [a] X.env = (false, eval a X.env) :: starEach [] X.env := by rfl) :
    FV X W κ (.t kd) (.Call (.Name "sorted" p) [.Call (.Name "set" p2) [a] [] q] [] pos) (f1 m dSortSet fa) :=
  (pe_sortSetT hc hu hg hm hg2 hm2 ha na).imp fun σ H Q h => ev_1 (r := fun x H Q => ∃ (l : Addr) (ks : List (Addr × List Int)) (d : Nat), x = V.ref l ∧ SqT X.K H l (ks.map fun (p : Addr × List Int) => V.ref p.1) ∧ (∀ p ∈ ks, SqT X.K H p.1 (p.2.map V.int)) ∧ ks.length < 64 ∧ 1 ≤ d ∧ (∀ p ∈ ks, p.2.length = d ∧ TS.Bd 64 p.2) ∧
    ∀ (L : List (Addr × List Int)) (p : Addr), (∀ q ∈ L, q ∈ ks) → (∀ q ∈ ks, q.2 ∈ L.map (fun (z : Addr × List Int) => z.2)) → (L.map (fun (z : Addr × List Int) => z.2)).Nodup → L.Pairwise (fun (q r : Addr × List Int) => TS.code 64 q.2 ≤ TS.code 64 r.2) → H p = none → Q (.ref p) (upd H p (.lst (L.map fun (q : Addr × List Int) => V.ref q.1)))) (fun ρ w w1 x dx vx z rel e t ex ez post => by
    unfold dSortSet at ez
    split at ez
    · split at ez
      · rename_i ls el
        split at ez
        · rename_i ok
          cases ez
          obtain ⟨p, us, ep, sp, r1, rs1⟩ := opd_tup h1 rel t ex
          obtain ⟨ks, eu, hk, ek⟩ := rowsI_mem rel.same rs1 el
          obtain ⟨few, d, hd1, hB⟩ := id ok
          refine ⟨p, ks, d, ep, by rw [← eu]; exact sp, fun q hq => (hk q hq).1, by rw [← ek, List.length_map] at few; exact few, hd1, fun q hq => hB q.2 (by rw [← ek]; exact List.mem_map_of_mem (f := Prod.snd) hq), fun L p' h2 h3 nd pw np => ?_⟩
          have es : L.map (·.2) = sortSet ls := sortSet_eq ok nd (fun k => ⟨fun hkL => by
            obtain ⟨q, hq, rfl⟩ := List.mem_map.mp hkL
            rw [← ek]
            exact List.mem_map_of_mem (f := Prod.snd) (h2 q hq), fun hkl => by
            rw [← ek] at hkl
            obtain ⟨q, hq, rfl⟩ := List.mem_map.mp hkl
            exact h3 q hq⟩) (List.pairwise_map.mpr pw)
          have rr := rds_refs (L := L) fun q hq => (hk q (h2 q hq)).2
          rw [es] at rr
          exact fin_lst (b := b) hd post rel e rr np
        · cases ez
      · cases ez
    · cases ez) h
end
end FN
set_option Elab.async false
set_option linter.all false
set_option maxRecDepth 100000
set_option maxHeartbeats 4000000
/-! FN38: sorted(set(t)) of a tuple of ints. -/
namespace FN
open PySem PySem.Spec PyProof.Rows L2
/-- each int once, in order -/
def onceI : List Int → List Int
  | [] => []
  | k :: l => if k ∈ l then onceI l else k :: onceI l
theorem onceI_mem {k : Int} : ∀ {l : List Int}, k ∈ onceI l ↔ k ∈ l
  | [] => Iff.rfl
  | a :: l => by
    unfold onceI
    split
    · rename_i h
      rw [onceI_mem, List.mem_cons]
      exact ⟨.inr, fun z => z.elim (fun e => by rw [e]; exact h) id⟩
    · rw [List.mem_cons, List.mem_cons, onceI_mem]
theorem onceI_nodup : ∀ l : List Int, (onceI l).Nodup
  | [] => List.nodup_nil
  | a :: l => by
    unfold onceI
    split
    · exact onceI_nodup l
    · rename_i h
      exact List.nodup_cons.mpr ⟨fun z => h (onceI_mem.mp z), onceI_nodup l⟩
theorem onceI_len {is L : List Int} (nd : L.Nodup) (h : ∀ k, k ∈ L ↔ k ∈ is) : L.length = (onceI is).length :=
  ((List.perm_ext_iff_of_nodup nd (onceI_nodup is)).mpr fun k => by rw [h k, onceI_mem]).length_eq
end FN
namespace L2
open PySem PySem.Spec PyProof.Rows
section
variable {X : Cx}
def tSortSetI (K : PySem.W.Frag) (ta : TE) : TE := fun σ H Q => ta σ H fun x H1 => ∃ (l : Addr) (is : List Int), x = V.ref l ∧ SqT K H1 l (is.map V.int) ∧ is.length < 4000 ∧ (FN.onceI is).length < 64 ∧
  ∀ (ns : List Int) (p : Addr), ns.Pairwise (· < ·) → (∀ k : Int, k ∈ ns ↔ k ∈ is) → H1 p = none → Q (.ref p) (upd H1 p (.lst (ns.map V.int)))
theorem sort_finI {pins : List (Addr × Obj)} {s : Shared} {σ : L2.St} {H : Hp} {Q : VK} {a : Addr} {S : Int → Bool} {n : Nat} (hc : X.calm = true) (I : Inv X pins σ H s) (R : SetR X.w s.heap a S n) (h64 : n < 64)
    (q : ∀ (ns : List Int) (p : Addr), ns.Pairwise (· < ·) → (∀ k : Int, k ∈ ns ↔ S k = true) → H p = none → Q (.ref p) (upd H p (.lst (ns.map V.int)))) :
    wpAny (model X.prog X.w) X.A (call (.builtin "sorted") [.ref a]) (EP X pins σ Q) X.xe s := by
  refine sorted_set R (I.ok.hd hc) h64 fun s3 b out c ns k g3 o hp hb hi hs hm hl => ?_
  have hn : H b = none := I.hok.fresh hp
  have J : Inv X pins σ (upd H b (.lst (ns.map V.int))) { s with heap := s3.heap, gens := s3.gens, drawn := s3.drawn, toks := s3.toks } :=
    I.call (ch := []) (Un.laid k hp hn) (I.hok.laid k hp ⟨by rw [List.length_map, hl, sizeLine_eq]; omega, out.toList, c, vals_of_ints hi, hb⟩) (by rw [g3]; exact I.bare) (fun _ z => nomatch z)
  have e : s3 = { s with heap := s3.heap, gens := s3.gens, drawn := s3.drawn, toks := s3.toks } := by
    cases s3
    cases s
    cases o
    rfl
  rw [e]
  exact ⟨.ref b, _, J, rfl, q ns b hs hm hn⟩
theorem pe_sortSetI {a : Expr} {ta : TE} {p p2 q pos : Pos} (hc : X.calm = true) (hg : Gl X "sorted") (hm : X.mg "sorted" = none) (hg2 : Gl X "set") (hm2 : X.mg "set" = none) (ha : PE X a ta)
    (na : starEach [a] X.env = (false, eval a X.env) :: starEach [] X.env := by rfl) : PE X (.Call (.Name "sorted" p) [.Call (.Name "set" p2) [a] [] q] [] pos) (tSortSetI X.K ta) := by
  refine ⟨fun pins s σ H Q I h => ?_⟩
  refine Call_ (ld_blt I hg hm boot_sorted (PyProof.Rows.callWith_builtin1 (PyProof.Rows.args_cons (Call_ (ld_blt I hg2 hm2 PyProof.Rows.boot_set (PyProof.Rows.callWith_type1 (PyProof.Rows.args_cons (thn (ha.run pins s σ H _ I h) fun v s1 hh => PyProof.Rows.args_nil ?_) na) na rfl))) rfl) rfl rfl))
  obtain ⟨x, H1, I1, r1, l, is, rfl, hq, few, few2, q1⟩ := hh
  cases r1
  obtain ⟨its, rv, pl, _⟩ := I1.tuple hq
  refine call_set_tupI is (I1.ok.hd hc) pl (by simpa using intsAre_of rv) (by unfold scanBound; omega) fun h2 tk c R hcn k2 => PyProof.Rows.args_nil ?_
  have I2 : Inv X pins σ H1 { s1 with heap := h2, toks := tk } := I1.kept k2
  have hc64 : c < 64 := by
    obtain ⟨o, es, ep, t, _, _, _, _, nd, hm, _, _, hn, _⟩ := R
    have := FN.onceI_len (is := is) nd fun k => by rw [← hm k, decide_eq_true_iff]
    rw [List.length_map, Array.length_toList] at this
    omega
  exact sort_finI hc I2 R hc64 fun ns b pw hm hn => q1 ns b pw (fun k => by rw [hm k, decide_eq_true_iff]) hn
end
end L2
namespace FN
open PySem PySem.Spec PyProof.Rows L2
def sortSetI (is : List Int) : List Int := (onceI is).mergeSort fun a b => decide (a ≤ b)
theorem sortSetI_eq {is ns : List Int} (pw : ns.Pairwise (· < ·)) (hm : ∀ k, k ∈ ns ↔ k ∈ is) : ns = sortSetI is := by
  have nd : ns.Nodup := pw.imp fun h => by omega
  have pm : ns.Perm (sortSetI is) := ((List.perm_ext_iff_of_nodup nd (onceI_nodup is)).mpr fun k => by rw [hm k, onceI_mem]).trans (List.mergeSort_perm _ _).symm
  refine List.Perm.eq_of_pairwise (le := fun a b => a ≤ b) (fun a b _ _ h1 h2 => by omega) (pw.imp fun h => by omega) ?_ pm
  refine (List.pairwise_mergeSort (le := fun a b : Int => decide (a ≤ b)) (fun a b c h1 h2 => ?_) (fun a b => ?_) _).imp fun h => of_decide_eq_true h
  · have := of_decide_eq_true h1
    have := of_decide_eq_true h2
    exact decide_eq_true (by omega)
  · rw [Bool.or_eq_true]
    by_cases z : a ≤ b
    · exact .inl (decide_eq_true z)
    · exact .inr (decide_eq_true (by omega))
def dSortSetI : D → Option D
  | .tuple ds => match ints? ds with
    | some is => if is.length < 4000 ∧ (onceI is).length < 64 then some (.list ((sortSetI is).map .int)) else none
    | none => none
  | _ => none
section
variable {X : Cx} {W : WX} {b : Bool} {κ : List Kind} {pos p p2 q : Pos} {a : Expr} {fa : M D} {m : Md}
theorem fe_sortSetI {kd : Kind} (hd : newL b kd) (hc : X.calm = true) (hg : Gl X "sorted") (hm : X.mg "sorted" = none) (hg2 : Gl X "set") (hm2 : X.mg "set" = none) (ha : FV X W κ m a fa) (h1 : itB b κ m := by rfl) (na : starEach [a] X.env = (false, eval a X.env) :: starEach [] X.env := by rfl) :
    FV X W κ (.t kd) (.Call (.Name "sorted" p) [.Call (.Name "set" p2) [a] [] q] [] pos) (f1 m dSortSetI fa) :=
  (pe_sortSetI hc hg hm hg2 hm2 ha na).imp fun σ H Q h => ev_1 (r := fun x H Q => ∃ (l : Addr) (is : List Int), x = V.ref l ∧ SqT X.K H l (is.map V.int) ∧ is.length < 4000 ∧ (onceI is).length < 64 ∧
    ∀ (ns : List Int) (p : Addr), ns.Pairwise (· < ·) → (∀ k : Int, k ∈ ns ↔ k ∈ is) → H p = none → Q (.ref p) (upd H p (.lst (ns.map V.int)))) (fun ρ w w1 x dx vx z rel e t ex ez post => by
    unfold dSortSetI at ez
    split at ez
    · split at ez
      · rename_i is el
        split at ez
        · rename_i few
          cases ez
          obtain ⟨p, us, ep, sp, r1, rs1⟩ := opd_tup h1 rel t ex
          obtain ⟨rfl, _⟩ := ints_vals ((rs1.mono rel.same).dp) el
          refine ⟨p, is, ep, sp, few.1, few.2, fun ns p' pw hm np => ?_⟩
          rw [sortSetI_eq pw hm] at *
          exact fin_lst (b := b) hd post rel e (RDs.ints _) np
        · cases ez
      · cases ez
    · cases ez) h
end
end FN
namespace L2
open PySem PySem.Spec PyProof.Rows
/-- < of ints, of tuples of ints -/
theorem op_ltB {X : Cx} (hu : X.A.units + 64 < cLine) : OpR X (compareOp .Lt) (fun x y H Q => rI0 (fun i j => .bl (decide (i < j))) x y H Q ∨ rLtT X.K x y H Q) := fun pins s σ H x y v u Q I rx ry h => h.elim (op_lt pins s σ H x y v u Q I rx ry) (op_ltT (by omega) pins s σ H x y v u Q I rx ry)
end L2
set_option Elab.async false
set_option linter.all false
set_option maxRecDepth 100000
set_option maxHeartbeats 4000000
/-! FN39: comprehensions whose names are in use already (no program). -/
namespace FN
open PySem PySem.Spec PyProof.Rows L2
theorem compL_wiped {vs : List Nat} {ft : D → Env → Option Env} {tt : M Bool} {fe : M D} {ρ : Env} (hw : wipeE (wipeE ρ vs) vs = wipeE ρ vs) : ∀ (ds acc : List D), compL vs ft tt fe ds acc ρ = compL vs ft tt fe ds acc (wipeE ρ vs)
  | [], acc => by unfold compL; rw [hw]
  | d :: ds, acc => by unfold compL; rw [hw]
theorem lc_fm' {vs : List Nat} {fi : M (List D)} {ft : D → Env → Option Env} {tt : M Bool} {fe : M D} {ρ ρ1 ρw : Env} {ds : List D} (F : D → Option D) (hl : ds.length ≤ sizeLine) (hi : fi ρ = some (.ok ds ρ1)) (hw1 : wipeE ρ1 vs = ρw) (hw : wipeE ρw vs = ρw) (h : ∀ d ∈ ds, ∃ ρ1 ρ2 ρ3, ft d ρw = some ρ1 ∧ ((F d = none ∧ tt ρ1 = some (.ok false ρ2) ∧ wipeE ρ2 vs = ρw) ∨ ∃ y, F d = some y ∧ tt ρ1 = some (.ok true ρ2) ∧ fe ρ2 = some (.ok y ρ3) ∧ wipeE ρ3 vs = ρw)) : fLc vs fi ft tt fe ρ = some (.ok (.list (ds.filterMap F)) ρw) := by
  rw [u_fLc, hi]
  simp only [u_ok]
  rw [compL_wiped (by rw [hw1, hw]), hw1, compL_fm F hw ds [] (by simpa using hl) h]
  simp
theorem lc_all' {vs : List Nat} {fi : M (List D)} {ft : D → Env → Option Env} {fe : M D} {ρ ρ1 ρw : Env} {ds : List D} (F : D → D) (hl : ds.length ≤ sizeLine) (hi : fi ρ = some (.ok ds ρ1)) (hw1 : wipeE ρ1 vs = ρw) (hw : wipeE ρw vs = ρw) (h : ∀ d ∈ ds, ∃ ρ1 ρ3, ft d ρw = some ρ1 ∧ fe ρ1 = some (.ok (F d) ρ3) ∧ wipeE ρ3 vs = ρw) : fLc vs fi ft tYesF fe ρ = some (.ok (.list (ds.map F)) ρw) := by
  have := lc_fm' (vs := vs) (ft := ft) (tt := tYesF) (fe := fe) (fun d => some (F d)) hl hi hw1 hw (fun d hd => by
    obtain ⟨ρ1, ρ3, e1, e3, w⟩ := h d hd
    exact ⟨ρ1, ρ1, ρ3, e1, .inr ⟨F d, rfl, rfl, e3, w⟩⟩)
  rw [this, show (fun d => some (F d)) = some ∘ F from rfl, List.filterMap_eq_map]
end FN
set_option Elab.async false
set_option linter.all false
set_option maxRecDepth 100000
set_option maxHeartbeats 4000000
/-! FX1: own errors made and kept, by position and by keyword; their field; their classes. -/
namespace FXK
open PySem PySem.Spec PyProof.Rows PySem.HandSPX
section
variable {M : Model} {A : Around} {E : Value → Shared → Prop} {h : Heap} {g : Array GenState} {d : Drawn} {t : Nat} {os : OsState}
variable {nm q : Str} {C N : Addr} {bs bm bmB : List Value} {hdct : Bool} {sn : List Str} {sub : List Value} {ab : Bool} {col : Option Bool} {dd : Option Addr} {k0 k1 k2 k3 k5 : Option Value} {B newId initId : String}
theorem new_kw_check (F : ExcBaseFacts B newId initId bmB) (hT : ∀ X : String, bm.contains (.type X) = bmB.contains (.type X)) {kw : List (Str × Value)} {Q : Unit → Shared → Prop}
    (hC : h.get? C = some (excClassObj nm q C N bs bm hdct sn sub ab col dd k0 k1 k2 k3 k5 newId)) (hq : Q () ⟨h, g, d, t, os⟩) : wpAny M A (checkBuiltinCall newId ⟨[.ref C], kw⟩) Q E ⟨h, g, d, t, os⟩ := by
  have inB : (Value.ref C :: bm).contains (.type B) = true := by rw [List.contains_cons, hT, F.hasB, Bool.or_true]
  have star := F.noStar
  simp only [checkBuiltinCall, F.newKind, F.newSplit, F.newRow]
  repeat (first | refine wpAny_loadPart_at hC ?_ | (refine wpAny_isSubtype_exc hC ?_; rw [inB]) | refine wpAny_staticBase_exc hC ?_ | refine wpAny_madeBy_exc hC ?_ | simp only [bne_self_eq_false, Bool.false_eq_true, if_false] | wp_step)
  exact hq
end
section
variable {prog : Program} {w : World} {A : Around} {E : Value → Shared → Prop} {R : Result → Shared → Prop} {h : Heap} {g : Array GenState} {d : Drawn} {t : Nat} {os : OsState}
variable {nm q : Str} {C N : Addr} {bs bm bmB : List Value} {hdct : Bool} {sn : List Str} {sub : List Value} {ab : Bool} {col : Option Bool} {dd : Option Addr} {k0 k1 k2 k3 k5 : Option Value} {B newId initId : String}
theorem new_kw (F : ExcBaseFacts B newId initId bmB) (hT : ∀ X : String, bm.contains (.type X) = bmB.contains (.type X)) {kw : List (Str × Value)}
    (hC : h.get? C = some (excClassObj nm q C N bs bm hdct sn sub ab col dd k0 k1 k2 k3 k5 newId))
    (hq : R (.ok (.ret (.ref (h.objs.size + 1)))) ⟨(h.push { cls := .type "tuple", data := .seq ([] : List Value).toArray }).push
      { cls := .ref C, data := .fields #[.ref h.objs.size, .none, .none, .none, .bool false, .none] }, g, d, t, os⟩) :
    codeAny (model prog w) A (.builtin newId ⟨[.ref C], kw⟩) R ⟨h, g, d, t, os⟩ := by
  have ends := F.ends
  have inB : (Value.ref C :: bm).contains (.type B) = true := by rw [List.contains_cons, hT, F.hasB, Bool.or_true]
  have inA : (Value.ref C :: bm).contains (.type "AttributeError") = false := by rw [List.contains_cons, hT, F.noAttr]; rfl
  have inN : (Value.ref C :: bm).contains (.type "NameError") = false := by rw [List.contains_cons, hT, F.noName]; rfl
  refine codeAny_builtinAt F.entry ?_
  unfold Builtin.«BaseException.__new__»
  refine PySem.wpAt_bind ?_
  show PySem.wpAt _ _ _ (stack >>= _) _ _ _
  refine PySem.wpAt_bind (PySem.wpAt_stack fun p below => PySem.wpAt_of_wpAny ?_)
  wp_walk
  refine PySem.wpAt_of_wpAny ?_
  rw [F.owner]
  repeat (first | with_reducible refine wpAny_madeHere_exc F.canon hC ?_ | with_reducible refine wpAny_loadPart_at hC ?_ | (with_reducible refine wpAny_isSubtype_exc hC ?_; first | rw [inB] | rw [inA] | rw [inN]) | wp_step)
  show R _ _
  rw [Heap.size_push]
  exact hq
theorem type_kw (F : ExcBaseFacts B newId initId bmB) (hT : ∀ X : String, bm.contains (.type X) = bmB.contains (.type X)) {kw : List (Str × Value)} {fI : Addr} {Q : Fin → Shared → Prop}
    (hC : h.get? C = some (excClassObj nm q C N bs bm hdct sn sub ab col dd k0 k1 k2 k3 k5 newId))
    (hi : W.Looks (model prog w) h (typeLookup (.ref C) "__init__") (some (.ref fI))) (hb : ∀ self, W.Looks (model prog w) h (bindSpecial (.ref fI) self) (.ref fI, [self]))
    (hq : codeAny (model prog w) A (.call (.ref fI) ⟨[.ref (h.objs.size + 1)], kw⟩)
      (fun r s' => match r with | .ok (.ret v) => v = .none ∧ Q (.done (.ret (.ref (h.objs.size + 1)))) s' | .ok _ => False | .error e => E e s')
      ⟨(h.push (W.kdv_tup [])).push (excO C h.objs.size), g, d, t, os⟩) :
    wpAny (model prog w) A (Builtin.«type.__call__» ⟨[.ref C], kw⟩) Q E ⟨h, g, d, t, os⟩ := by
  repeat (first | with_reducible refine wpAny_loadPart_at hC ?_ | with_reducible refine wpAny_madeBy_exc hC ?_ | wp_step)
  refine codeAny_call_builtin_code (Code.quiet_builtin _ F.quiet) (new_kw_check F hT hC ?_)
  refine new_kw F hT hC ?_
  show wpAny _ _ _ _ _ _
  have k : ∀ b o, h.get? b = some o → ((h.push (W.kdv_tup [])).push (excO C h.objs.size)).get? b = some o := fun b o e => Heap.get?_push_of_some _ (Heap.get?_push_of_some _ e)
  have C1 := k _ _ hC
  have made : ((h.push (W.kdv_tup [])).push (excO C h.objs.size)).get? (h.objs.size + 1) = some (excO C h.objs.size) := by heap_get
  have inC : (Value.ref C :: bm).contains (.ref C) = true := by simp
  have i1 := hi.keeps k
  have b1 := (hb (.ref (h.objs.size + 1))).keeps k
  unfold isInstance
  repeat (first | with_reducible refine wpAny_loadPart_at made ?_ | (with_reducible refine wpAny_isSubtype_exc C1 ?_; rw [inC]) | wp_step)
  show wpAny _ _ (typeLookup (.ref C) _) _ _ _
  refine i1.at ?_
  refine wpAny_holding (wpAny_bind (b1.at ?_))
  refine wpAny_bind (wpAny_call (codeAny_mono hq fun r s' z => ?_))
  rcases r with e | (v | _ | _ | _) <;> first | exact z | exact z.elim | skip
  obtain ⟨rfl, z⟩ := z
  first
    | exact wpAny_pure (wpAny_pure z)
    | (wp_walk; exact z)
theorem call_kw (F : ExcBaseFacts B newId initId bmB) (hT : ∀ X : String, bm.contains (.type X) = bmB.contains (.type X)) {kw : List (Str × Value)} {fI : Addr}
    (hC : h.get? C = some (excClassObj nm q C N bs bm hdct sn sub ab col dd k0 k1 k2 k3 k5 newId))
    (hi : W.Looks (model prog w) h (typeLookup (.ref C) "__init__") (some (.ref fI))) (hb : ∀ self, W.Looks (model prog w) h (bindSpecial (.ref fI) self) (.ref fI, [self]))
    (hq : codeAny (model prog w) (A.under (.builtin "type.__call__" ⟨[.ref C], kw⟩)) (.call (.ref fI) ⟨[.ref (h.objs.size + 1)], kw⟩) (W.InitBack (h.objs.size + 1) R)
      ⟨(h.push (W.kdv_tup [])).push (excO C h.objs.size), g, d, t, os⟩) :
    codeAny (model prog w) A (.call (.ref C) ⟨[], kw⟩) R ⟨h, g, d, t, os⟩ := by
  have f1 := tc_lookup
  have f2 := tc_bind (.ref C)
  have hTy : (⟨h, g, d, t, os⟩ : Shared).TypeIs (.ref C) "type" := ⟨_, hC, rfl⟩
  refine codeAny_of_tree ?_
  show wpAny _ _ (callAny (.ref C) _) _ _ _
  repeat (any_goals (first | assumption | with_reducible refine wpAny_loadPart_at hC ?_ | wp_step))
  refine ⟨rfl, ?_⟩
  refine codeAny_call_builtin_at (Code.quiet_builtin _ (by decide +kernel)) entry_typeCall (wpAny_check_type_call_sub hC (type_kw F hT hC hi hb ?_))
  refine codeAny_mono hq fun r s' z => ?_
  rcases r with e | (v | _ | _ | _) <;> exact z
end
end FXK
namespace FN
open PySem PySem.Spec PyProof.Rows L2
/-! ### made and kept -/
def tMkE (C : Addr) (te : TE) : TE := fun σ H Q => te σ H fun v H1 => ∀ a d, H1 a = none → H1 d = none → d ≠ a → Q (.ref a) (upd (upd H1 d (exd d [(("value" : Str), v)])) a (exo a C (some d)))
theorem upd_over {H : Hp} {a d : Addr} {o o' o2 : HO} (n : d ≠ a) : upd (upd (upd H a o) d o') a o2 = upd (upd H d o') a o2 := by
  funext b
  by_cases h : b = a
  · rw [h, upd_same, upd_same]
  · rw [upd_ne h, upd_ne h]
    by_cases h' : b = d
    · rw [h', upd_same, upd_same]
    · rw [upd_ne h', upd_ne h', upd_ne h]
section
variable {X : Cx} {e : Expr} {te : TE} {pos p kpos : Pos}
/-- what the made object's place is to bring -/
def mkP (C : Addr) (Q : VK) : List V → Hp → Prop := fun vs H1 => match vs with
  | [v] => ∀ a d, H1 a = none → H1 d = none → d ≠ a → Q (.ref a) (upd (upd H1 d (exd d [(("value" : Str), v)])) a (exo a C (some d)))
  | _ => False
theorem mkP_one {C : Addr} {Q : VK} {vs : List V} {us : List Value} {H1 : Hp} (r : Vals vs us) (h : mkP C Q vs H1) : ∃ v u, vs = [v] ∧ us = [u] ∧ RelV v u ∧ ∀ a d, H1 a = none → H1 d = none → d ≠ a → Q (.ref a) (upd (upd H1 d (exd d [(("value" : Str), v)])) a (exo a C (some d))) := by
  cases r with
  | nil => exact h.elim
  | cons r1 r2 =>
    cases r2 with
    | nil => exact ⟨_, _, rfl, rfl, r1, h⟩
    | cons _ _ => exact h.elim
theorem pe_mkE {n : Str} {D fI C : Addr} (T : ErrTxt X.prog X.K X.mg D fI) (TC : ErrCls X.K D fI C) (hm : X.mg n = some (.ref C)) (hr : Room 1 X.A) (hg : Gl X n) (he : PE X e te) (hdb : (n == ("__debug__" : Str)) = false := by decide)
    (hs : starEach (e :: []) X.env = (false, eval e X.env) :: starEach [] X.env := by rfl) (hpl : (backTo pos (starEach [] X.env)).any (·.1) = false := by rfl) : PE X (.Call (.Name n p) [e] [] pos) (tMkE C te) := by
  obtain ⟨fd, F1, hb⟩ := init_ok (w := X.w) (base := X.base) (CX := CX0) T TC
  refine ⟨fun pins s σ H Q I h => ?_⟩
  obtain ⟨nm, q, N, bs, bm, sn, sub, ab, col, dd, k0, k1, k2, k3, k5, hC, hbm⟩ := TC.oex.cls
  refine wpAny_Call_Name_kw (ld_glob I hg hm ?_ hdb)
  refine PySem.W.callWith_K (h₀ := X.base) I.ok.mod.kin TC.oex.kC (thn ((pa_cons he pa_nil hs).run pos pins s σ H (mkP C Q) I h) fun us s1 hh => ?_) hs hpl
  obtain ⟨vs, H1, I1, r1, q0⟩ := hh
  obtain ⟨v, u, rfl, rfl, rv, q1⟩ := mkP_one r1 q0
  refine ⟨I1.kIn, ?_⟩
  show wpAny _ _ (call (.ref C) [u]) _ _ _
  obtain ⟨hp, g, dr, tk, os⟩ := s1
  have hsz : hp.objs.size ≤ hp.objs.size + 1 := Nat.le_succ _
  have hn : H1 (hp.objs.size + 1) = none := I1.hok.fresh hsz
  have kk : ∀ b o, hp.get? b = some o → ((hp.push (PySem.W.kdv_tup [u])).push (PySem.HandSPX.excO C hp.objs.size)).get? b = some o := fun b o e => Heap.get?_push_of_some _ (Heap.get?_push_of_some _ e)
  have hget : ((hp.push (PySem.W.kdv_tup [u])).push (PySem.HandSPX.excO C hp.objs.size)).get? (hp.objs.size + 1) = some (PySem.HandSPX.excO C hp.objs.size) := by heap_get
  have I2 : Inv X pins σ (upd H1 (hp.objs.size + 1) (exo (hp.objs.size + 1) C none)) ⟨(hp.push (PySem.W.kdv_tup [u])).push (PySem.HandSPX.excO C hp.objs.size), g, dr, tk, os⟩ :=
    I1.laid (t' := tk) (a := hp.objs.size + 1) (o := exo (hp.objs.size + 1) C none) (h' := (hp.push (PySem.W.kdv_tup [u])).push (PySem.HandSPX.excO C hp.objs.size)) kk hsz (exo_ok hget)
  have r2 : Vals [V.ref (hp.objs.size + 1), v] [Value.ref (hp.objs.size + 1), u] := .cons rfl (.cons rv .nil)
  refine wpAny_call (PySem.HandSPX.call_own F.excBase_ValueError (fun Y => PySem.HandSPX.refsVE_contains Y bm hbm) (I1.kIn _ _ hC) (PySem.W.looks_findIn I1.kIn TC.iC) (fun self => PySem.W.bind_fn I1.kIn self TC.tI) (by show 1 ≤ sizeLine; rw [sizeLine_eq]; decide)
    (codeAny_mono (F1.run _ X.stack _ _ ⟨[Value.ref (hp.objs.size + 1), u], []⟩ [Value.ref (hp.objs.size + 1), u] [V.ref (hp.objs.size + 1), v] (fun x H' => x = .non ∧ Q (.ref (hp.objs.size + 1)) H') (fun _ _ _ => False) (hr.make C [u] []) (I2.env0.make C [u] []) (hb _ [Value.ref (hp.objs.size + 1), u] I2.kIn rfl) r2 ?_) fun r s' hq' => ?_))
  · refine ⟨_, v, rfl, upd_same, fun d hd hne => ⟨rfl, ?_⟩⟩
    rw [upd_ne hne] at hd
    rw [upd_over hne]
    exact q1 _ d hn hd hne
  · cases r with
    | error er => exact pass0 pins σ _ _ er s' I2 hq'
    | ok fl =>
      cases fl with
      | ret u =>
        obtain ⟨x, H2, os2, bare2, un2, hok2, rx, ex, q2⟩ := hq'
        subst ex
        exact ⟨rx, .ref _, H2, I2.call' (ch := []) os2 un2 hok2 bare2 (fun b z => absurd z (by simp)), rfl, q2⟩
      | next => exact False.elim hq'
      | brk => exact False.elim hq'
      | cont => exact False.elim hq'
theorem pe_mkEK {n : Str} {D fI C : Addr} (T : ErrTxt X.prog X.K X.mg D fI) (TC : ErrCls X.K D fI C) (hm : X.mg n = some (.ref C)) (hr : Room 1 X.A) (hg : Gl X n) (he : PE X e te) (hdb : (n == ("__debug__" : Str)) = false := by decide)
    (hall : (backToKw pos (keywordEach [⟨some "value", e, kpos⟩] X.env)).all (·.1.isSome) = true := by rfl) (hk : (backToKw pos (keywordEach [⟨some "value", e, kpos⟩] X.env)).filterMap (·.1) = [("value" : Str)] := by rfl) (hpl : ((backTo pos (starEach [] X.env)).any (·.1) || (backToKw pos (keywordEach [⟨some "value", e, kpos⟩] X.env)).any (·.1.isNone)) = false := by rfl) :
    PE X (.Call (.Name n p) [] [⟨some "value", e, kpos⟩] pos) (tMkE C te) := by
  obtain ⟨fd, F1, _, hbk⟩ := init_ok3 (w := X.w) (base := X.base) (CX := CX0) T TC
  refine ⟨fun pins s σ H Q I h => ?_⟩
  obtain ⟨nm, q, N, bs, bm, sn, sub, ab, col, dd, k0, k1, k2, k3, k5, hC, hbm⟩ := TC.oex.cls
  refine wpAny_Call_Name_kw (ld_glob I hg hm ?_ hdb)
  refine PySem.W.callWith_KW0 (h₀ := X.base) I.ok.mod.kin TC.oex.kC hall (thn ((pk_cons he pk_nil).run pos pins s σ H (mkP C Q) I h) fun us s1 hh => ?_) hpl
  obtain ⟨vs, H1, I1, r1, q0⟩ := hh
  obtain ⟨v, u, rfl, rfl, rv, q1⟩ := mkP_one r1 q0
  refine ⟨I1.kIn, ?_⟩
  rw [hk]
  show wpAny _ _ (call (.ref C) [] [("value", u)]) _ _ _
  obtain ⟨hp, g, dr, tk, os⟩ := s1
  have hsz : hp.objs.size ≤ hp.objs.size + 1 := Nat.le_succ _
  have hn : H1 (hp.objs.size + 1) = none := I1.hok.fresh hsz
  have kk : ∀ b o, hp.get? b = some o → ((hp.push (PySem.W.kdv_tup [])).push (PySem.HandSPX.excO C hp.objs.size)).get? b = some o := fun b o e => Heap.get?_push_of_some _ (Heap.get?_push_of_some _ e)
  have hget : ((hp.push (PySem.W.kdv_tup [])).push (PySem.HandSPX.excO C hp.objs.size)).get? (hp.objs.size + 1) = some (PySem.HandSPX.excO C hp.objs.size) := by heap_get
  have I2 : Inv X pins σ (upd H1 (hp.objs.size + 1) (exo (hp.objs.size + 1) C none)) ⟨(hp.push (PySem.W.kdv_tup [])).push (PySem.HandSPX.excO C hp.objs.size), g, dr, tk, os⟩ :=
    I1.laid (t' := tk) (a := hp.objs.size + 1) (o := exo (hp.objs.size + 1) C none) (h' := (hp.push (PySem.W.kdv_tup [])).push (PySem.HandSPX.excO C hp.objs.size)) kk hsz (exo_ok hget)
  have r2 : Vals [V.ref (hp.objs.size + 1), v] [Value.ref (hp.objs.size + 1), u] := .cons rfl (.cons rv .nil)
  refine wpAny_call (FXK.call_kw F.excBase_ValueError (fun Y => PySem.HandSPX.refsVE_contains Y bm hbm) (I1.kIn _ _ hC) (PySem.W.looks_findIn I1.kIn TC.iC) (fun self => PySem.W.bind_fn I1.kIn self TC.tI)
    (codeAny_mono (F1.run _ X.stack _ _ ⟨[Value.ref (hp.objs.size + 1)], [("value", u)]⟩ [Value.ref (hp.objs.size + 1), u] [V.ref (hp.objs.size + 1), v] (fun x H' => x = .non ∧ Q (.ref (hp.objs.size + 1)) H') (fun _ _ _ => False) (hr.make C [] [("value", u)]) (I2.env0.make C [] [("value", u)]) (hbk _ _ _) r2 ?_) fun r s' hq' => ?_))
  · refine ⟨_, v, rfl, upd_same, fun d hd hne => ⟨rfl, ?_⟩⟩
    rw [upd_ne hne] at hd
    rw [upd_over hne]
    exact q1 _ d hn hd hne
  · cases r with
    | error er => exact pass0 pins σ _ _ er s' I2 hq'
    | ok fl =>
      cases fl with
      | ret u =>
        obtain ⟨x, H2, os2, bare2, un2, hok2, rx, ex, q2⟩ := hq'
        subst ex
        exact ⟨rx, .ref _, H2, I2.call' (ch := []) os2 un2 hok2 bare2 (fun b z => absurd z (by simp)), rfl, q2⟩
      | next => exact False.elim hq'
      | brk => exact False.elim hq'
      | cont => exact False.elim hq'
end
end FN
set_option Elab.async false
set_option linter.all false
set_option maxRecDepth 100000
set_option maxHeartbeats 4000000
/-! FX2: repr of flat data, whatever is under way: twice the same text. -/
namespace FXR
open PySem PyProof.Rows Builtin
open Sem (wp)
/-- a list's own loop is under way -/
def lG (a : Addr) : Code × Pos → Bool := fun
  | (.builtin "list.__repr__.loop" ⟨v :: _, _⟩, _) => Builtin.List.listSameRef v (.ref a)
  | _ => false
theorem lG_cons (a : Addr) (id : String) (v : Value) (rest : List Value) (kw : List (Str × Value)) (p : Pos) : lG a (.builtin id ⟨v :: rest, kw⟩, p) = (decide (id = "list.__repr__.loop") && Builtin.List.listSameRef v (.ref a)) := by
  by_cases h : id = "list.__repr__.loop"
  · subst h
    simp [lG]
  · first
      | simp [lG, h]
      | (unfold lG; split <;> simp_all)
theorem lG_nil (a : Addr) (id : String) (kw : List (Str × Value)) (p : Pos) : lG a (.builtin id ⟨[], kw⟩, p) = false := by
  first
    | rfl
    | simp [lG]
    | (unfold lG; split <;> simp_all)
theorem lG_pos (a : Addr) (c : Code) (p : Pos) : lG a (c, p) = lG a (c, default) := by
  cases c with
  | builtin id args =>
    obtain ⟨pos, kw⟩ := args
    cases pos with
    | nil => rw [lG_nil, lG_nil]
    | cons v rest => rw [lG_cons, lG_cons]
  | _ => rfl
theorem lG_off (a : Addr) (c : Code) (p : Pos) (hc : c.isGuard = false) : lG a (c, p) = false := by
  cases c with
  | builtin id args =>
    obtain ⟨pos, kw⟩ := args
    cases pos with
    | nil => exact lG_nil _ _ _ _
    | cons v rest =>
      simp [Code.isGuard, guardIds] at hc
      rw [lG_cons]
      simp [hc]
  | _ => rfl
def runs (g : List Code) (f : Code × Pos → Bool) : Bool := g.any fun c => f (c, default)
section
variable {prog : Program} {w : World} {A : Around} {E : Value → Shared → Prop} {s : Shared} {a : Addr} {oa : Obj} {l : List Value} {na : Nat} {ts : List Str} {g : List Code}
theorem list_in {M : Model} {Q : Fin → Shared → Prop} {c : Code} {o : Obj} {x : Value} {n : Nat} {b : Nat} (hg : A.guards = some g) (hin : runs g (lG a) = true) (hget : s.heap.get? a = some o) (hd : o.data = .seq (x :: l).toArray n)
    (h : ∀ u tk, Q (.done (.ret (.str "[...]" u))) { s with toks := tk }) : wpOwn M A c (Builtin.listReprAt b ⟨[.ref a], []⟩) Q E s := by
  intro Γ p hc hΓ
  unfold Builtin.listReprAt
  simp [slotArgs, Builtin.List.listItems, seqItems?, Sem.wp_load_of (h := hget), hd, stack]
  show wp M Γ (if (Γ.below.any _) = true then _ else _) _ _ p s
  have e : Γ.below.any (lG a) = true := by
    rw [any_eq_guards (lG_off a) (lG_pos a), hΓ.2.2.2.1 g hg]
    exact hin
  rw [if_pos]
  · simp [rule, retStr, ret]
    exact h _ _
  · exact e
theorem call_list_in {x : Value} {Q : Value → Shared → Prop} (hTy : s.TypeIs (.ref a) "list") (hg : A.guards = some g) (hin : runs g (lG a) = true) (ha : s.heap.get? a = some oa) (hd : oa.data = .seq (x :: l).toArray na)
    (hQ : ∀ u tk, Q (.str "[...]" u) { s with toks := tk }) : wpAny (model prog w) A (call (.builtin "list.__repr__") [.ref a]) Q E s :=
  wpAny_call (codeAny_call_builtin_own (Code.quiet_builtin _ (by decide +kernel)) F.entry_list_repr (F.slot_list_repr.check _ _ _ _ _ _ _ _ hTy (F.args_list_repr_1 _) (list_in (b := 0) hg hin ha hd hQ)))
theorem call_tup_in {items : Array Value} {n : Nat} {Q : Value → Shared → Prop} (hTy : s.TypeIs (.ref a) "tuple") (hg : A.guards = some g) (hin : runs g (tupGuardF (.ref a)) = true)
    (hQ : ∀ u tk, Q (.str "(...)" u) { s with toks := tk }) : wpAny (model prog w) A (call (.builtin "tuple.__repr__") [.ref a]) Q E s := by
  refine wpAny_call (codeAny_call_builtin_own (Code.quiet_builtin _ (by decide +kernel)) F.entry_tuple_repr (F.slot_tuple_repr.check _ _ _ _ _ _ _ _ hTy (F.args_tuple_repr_1 _) ?_))
  show wpOwn _ _ _ (Builtin.tupleReprAt 0 ⟨[.ref a], []⟩) _ _ s
  rw [tuple_repr_tree, tupleReprUnderWay_eq]
  refine wpOwn_bind (wpOwn_stackTailAny hg (tupGuardF_off _) (tupGuardF_pos _) ?_)
  rw [show (g.any fun c => tupGuardF (.ref a) (c, default)) = true from hin]
  refine wpOwn_of_wpAny ?_
  refine PySem.W.KFB.if_so rfl ?_
  refine wpAny_bind (wpAny_rule ?_)
  refine wpAny_bind (wpAny_mkStr (wpAny_pure ?_) (by decide +kernel))
  exact hQ _ _
/-- {k: n} -/
theorem call_dict_one {o : Obj} {e : DictEntry} {n : Nat} {k v : Str} {Q : Value → Shared → Prop} (hTy : s.TypeIs (.ref a) "dict") (hsys : (a == sysModules) = false) (hg : A.guards = some g) (ha : s.heap.get? a = some o) (hd : o.data = .dict #[e] n) (rk : ReprIs prog w e.key k) (rv : ReprIs prog w e.val v) (hz : k.length + v.length + 10 ≤ sizeLine)
    (hQ : ∀ u tk, Q (.str (if runs g (dictGuardF (.ref a)) = true then "{...}" else dictText [k ++ ": " ++ v]) u) { s with toks := tk }) : wpAny (model prog w) A (call (.builtin "dict.__repr__") [.ref a]) Q E s := by
  refine wpAny_call (codeAny_call_builtin_own (Code.quiet_builtin _ (by decide +kernel)) F.entry_dict_repr (F.slot_dict_repr.check _ _ _ _ _ _ _ _ hTy (F.args_dict_repr_1 _) ?_))
  show wpOwn _ _ _ (Builtin.dictReprAt 0 ⟨[.ref a], []⟩) _ _ s
  unfold Builtin.dictReprAt
  refine wpOwn_bind (wpOwn_of_wpAny ?_)
  unfold Builtin.Dict.dictSlotNone
  refine wpAny_bind (wpAny_notOrdered_dict hTy ?_)
  show wpAny _ _ (pure (Value.ref a)) _ _ s
  refine wpAny_pure ?_
  rw [dictReprRunning_eq]
  refine wpOwn_bind (wpOwn_stackTailAny hg (dictGuardF_off _) (dictGuardF_pos _) ?_)
  show wpOwn _ _ _ (if runs g (dictGuardF (.ref a)) = true then _ else _) _ _ s
  cases q : runs g (dictGuardF (.ref a)) with
  | true =>
    rw [q] at hQ
    refine wpOwn_of_wpAny ?_
    rw [if_pos rfl]
    refine wpAny_bind (wpAny_rule ?_)
    refine wpAny_bind (wpAny_mkStr (wpAny_pure ?_) (by decide +kernel))
    exact hQ _ _
  | false =>
    rw [q] at hQ
    refine wpOwn_of_wpAny ?_
    rw [if_neg Bool.false_ne_true]
    show wpAny _ _ (Builtin.Dict.addrOf (.ref a) >>= _) _ _ s
    refine wpAny_bind (wpAny_pure ?_)
    show wpAny _ _ (Builtin.Dict.showsAll a >>= _) _ _ s
    unfold Builtin.Dict.showsAll
    rw [if_neg (by rw [hsys]; exact Bool.false_ne_true)]
    refine wpAny_bind (wpAny_pure ?_)
    refine wpAny_bind (wpAny_dictEpoch ha hd ?_)
    refine wpAny_bind (wpAny_dictEntries ha hd ?_)
    refine wpAny_bind ?_
    rw [Std.Legacy.Range.forIn_eq_forIn_range']
    simp only [Std.Legacy.Range.size, Nat.sub_zero, Nat.add_sub_cancel, Nat.div_one]
    show wpAny _ _ (forIn [0] _ _) _ _ _
    rw [List.forIn_cons]
    refine wpAny_bind (wpAny_bind (wpAny_dictEntries ha hd ?_))
    show wpAny _ _ (holding [e.key, e.val] _ >>= _) _ _ s
    refine wpAny_bind (wpAny_holding (wpAny_bind (rk (0 + 1) (by omega) _ _ _ _ fun t1 => wpAny_bind (rv (0 + (k.length + 3)) (by omega) _ _ _ _ fun t2 => wpAny_pure ?_))))
    refine wpAny_bind (wpAny_dictEpoch (s := { s with toks := t2 }) ha hd ?_)
    rw [if_neg (by simp)]
    refine wpAny_pure ?_
    show wpAny _ _ (forIn [] _ _) _ _ _
    rw [List.forIn_nil]
    refine wpAny_pure ?_
    have hlen : (dictText [k ++ ": " ++ v]).length ≤ sizeLine := by
      have e1 : (dictText [k ++ ": " ++ v]).length = 1 + (Str.join ", " [k ++ ": " ++ v]).length + 1 := by
        unfold dictText
        rw [strLen_append, strLen_append]
        rfl
      have e2 := join_length_add [k ++ ": " ++ v] (by simp)
      have e3 : piled [k ++ ": " ++ v] = k.length + v.length + 4 := by
        rw [piled_cons, piled_nil, strLen_append, strLen_append]
        show k.length + 2 + v.length + 2 + 0 = _
        omega
      omega
    refine wpAny_bind (wpAny_mkStr (wpAny_pure ?_) (by simpa [dictText] using hlen))
    have h1 := hQ t2 (t2 + 1)
    rw [if_neg Bool.false_ne_true] at h1
    simpa [dictText] using h1
end
end FXR
set_option Elab.async false
set_option linter.all false
set_option maxRecDepth 100000
set_option maxHeartbeats 4000000
/-! FX3: repr(x) != repr(y) of the same flat object. -/
namespace FXR
open PySem PySem.Spec PyProof.Rows L2
/-! ### what is under way, fixed -/
def Nar (A' A : Around) : Prop := ∀ Γ : PySem.Ctx, Γ.In A' → Γ.In A
structure Fixed (A' A : Around) (g : List Code) : Prop where
  g : A'.guards = some g
  h : A'.handled = A.handled
  f : A'.frames = A.frames
  d : A'.depth = A.depth
  u : A'.units = A.units
  n : Nar A' A
theorem fix_guards {α : Type} {M : Model} {A : Around} {x : Sem α} {Q : α → Shared → Prop} {E : Value → Shared → Prop} {s : Shared} (h : ∀ A' g, Fixed A' A g → wpAny M A' x Q E s) : wpAny M A x Q E s := fun Γ p hΓ => by
  cases q : A.guards with
  | some g => exact h A g ⟨q, rfl, rfl, rfl, rfl, fun _ z => z⟩ Γ p hΓ
  | none =>
    refine h { A with guards := some (Γ.code.guards ++ guardsOf Γ.below) } _ ⟨rfl, rfl, rfl, rfl, rfl, fun Γ' z => ⟨z.1, z.2.1, z.2.2.1, fun g hg => (nomatch (q.symm.trans hg)), z.2.2.2.2⟩⟩ Γ p ⟨hΓ.1, hΓ.2.1, hΓ.2.2.1, fun g hg => ?_, hΓ.2.2.2.2⟩
    · cases hg
      rfl
theorem wp_nar {α : Type} {M : Model} {A A' : Around} {x : Sem α} {Q : α → Shared → Prop} {E : Value → Shared → Prop} {s : Shared} (n : Nar A' A) (h : wpAny M A x Q E s) : wpAny M A' x Q E s := fun Γ p hΓ => h Γ p (n Γ hΓ)
/-- the same place, what is under way known -/
abbrev wA (X : Cx) (A' : Around) : Cx := { X with A := A' }
section
variable {X : Cx} {A' : Around} {g : List Code} {pins : List (Addr × Obj)} {σ : L2.St} {H : Hp} {s : Shared}
theorem inv_to (F : Fixed A' X.A g) (I : Inv X pins σ H s) : Inv (wA X A') pins σ H s := { I with
  ok := { I.ok with hd := fun c => F.h.trans (I.ok.hd c), frames := F.f.trans I.ok.frames } }
theorem inv_back (F : Fixed A' X.A g) (I : Inv (wA X A') pins σ H s) : Inv X pins σ H s := { I with
  ok := { I.ok with hd := fun c => F.h.symm.trans (I.ok.hd c), frames := F.f.symm.trans I.ok.frames } }
theorem pe_to {e : Expr} {te : TE} (F : Fixed A' X.A g) (h : PE X e te) : PE (wA X A') e te := ⟨fun pins s σ H Q I q => wp_nar F.n (wpAny_mono (h.run pins s σ H Q (inv_back F I) q) (fun v s' ⟨x, H', J, r, z⟩ => ⟨x, H', inv_to F J, r, z⟩) fun _ _ z => z)⟩
theorem pt_fix {e : Expr} {t : TT} (h : ∀ A' g, Fixed A' X.A g → PT (wA X A') e t) : PT X e t := ⟨fun pins s σ H Q I q => fix_guards fun A' g F => wpAny_mono ((h A' g F).run pins s σ H Q (inv_to F I) q) (fun v s' ⟨H', J, z⟩ => ⟨H', inv_back F J, z⟩) fun _ _ z => z⟩
end
/-! ### the texts -/
def tx : PyData → Str
  | .none => "None"
  | .bool b => if b then "True" else "False"
  | .int i => toString i
  | .str x => reprText x
  | _ => ""
def imOk : PyData → Bool
  | .none => true
  | .bool _ => true
  | .int i => decide (i.natAbs.log2 < 1920)
  | .str x => decide ((reprText x).length ≤ sizeLine)
  | _ => false
def rpOk : PyData → Bool
  | .list ds => ds.all imOk && decide ((listText (ds.map tx)).length ≤ sizeLine)
  | .tuple ds => ds.all imOk && decide ((tupleText (ds.map tx)).length ≤ sizeLine)
  | .dict [(.str k, .int n)] => (imOk (.str k) && imOk (.int n)) && decide ((tx (.str k)).length + (tx (.int n)).length + 10 ≤ sizeLine)
  | d => imOk d
/-- flat data, also a dict of one text and one int -/
inductive Sh (K : PySem.W.Frag) (H : Hp) : V → PyData → Prop
  | dp {x : V} {d : PyData} : Dp K H x d → Sh K H x d
  | dk {a : Addr} {k : Str} {n : Int} : H a = some (.dK [(.inr k, .int n)]) → Sh K H (.ref a) (.dict [(.str k, .int n)])
def rp (g : List Code) (x : V) (d : PyData) : Str := match x, d with
  | .ref a, .list ds => if ds = [] then "[]" else if runs g (lG a) = true then "[...]" else listText (ds.map tx)
  | .ref a, .tuple ds => if runs g (tupGuardF (.ref a)) = true then "(...)" else tupleText (ds.map tx)
  | .ref a, .dict [(k, n)] => if runs g (dictGuardF (.ref a)) = true then "{...}" else dictText [tx k ++ ": " ++ tx n]
  | _, d => tx d
theorem reprIs_of {prog : Program} {w : World} {K : PySem.W.Frag} {H : Hp} {v : V} {u : Value} {d : PyData} (r : RelV v u) (h : Dp K H v d) (o : imOk d = true) : ReprIs prog w u (tx d) := by
  cases h with
  | non => cases r; exact ReprIs.none
  | bl b => cases r; exact ReprIs.bool b
  | int i =>
    obtain ⟨t, rfl⟩ := r
    exact ReprIs.int t (of_decide_eq_true o)
  | str x =>
    obtain ⟨t, rfl⟩ := r
    exact ReprIs.str x t (of_decide_eq_true o)
  | lst _ _ => cases o
  | tup _ _ => cases o
theorem reprAll_of {prog : Program} {w : World} {K : PySem.W.Frag} {H : Hp} : ∀ {vs : List V} {us : List Value} {ds : List PyData}, Vals vs us → DpAll K H vs ds → ds.all imOk = true → ReprAll prog w us (ds.map tx)
  | _, _, _, .nil, .nil, _ => .nil
  | _, _, _, .cons r rs, .cons h hs, o => by
    rw [List.all_cons, Bool.and_eq_true] at o
    exact .cons (reprIs_of r h o.1) (reprAll_of rs hs o.2)
theorem reprAll_get {prog : Program} {w : World} : ∀ {us : List Value} {ts : List Str}, ReprAll prog w us ts → ∀ (i : Nat) (y : Value), us[i]? = some y → ∃ t, ts[i]? = some t ∧ ReprIs prog w y t
  | _, _, .nil, i, y, h => by simp at h
  | _, _, .cons r _, 0, y, h => by
    simp only [List.getElem?_cons_zero, Option.some.injEq] at h
    subst h
    exact ⟨_, rfl, r⟩
  | _, _, .cons _ t, i + 1, y, h => by
    obtain ⟨t', e, r⟩ := reprAll_get t i y (by simpa using h)
    exact ⟨t', by simpa using e, r⟩
def rRp (K : PySem.W.Frag) (g : List Code) (xs : List V) (H : Hp) (Q : VK) : Prop := ∃ x d, xs = [x] ∧ Sh K H x d ∧ rpOk d = true ∧ Q (.str (rp g x d)) H
theorem call_rp {X : Cx} {g : List Code} (hg : X.A.guards = some g) (hu : X.A.units + 2 < cLine) : CallR X (.builtin "repr") (rRp X.K g) := by
  intro pins s σ H xs us Q I r h
  obtain ⟨x, d, rfl, sh, ok, q⟩ := h
  cases r with
  | @cons _ u _ _ rv rr =>
  cases rr
  have fin : ∀ {m : Str} {h' : Heap} {t : Tok} {tk : Nat}, (∀ b o, s.heap.get? b = some o → h'.get? b = some o) → Q (.str m) H → EP X pins σ Q (.str m t) { s with heap := h', toks := tk } := fun k q => ⟨.str _, H, I.kept k, ⟨_, rfl⟩, q⟩
  cases sh with
  | dp h =>
    cases h with
    | non =>
      cases rv
      exact PySem.P.repr_of_none ⟨.str _, H, I.tok _, ⟨_, rfl⟩, q⟩
    | bl b =>
      cases rv
      exact PySem.P.repr_of_bool ⟨.str _, H, I.tok _, ⟨_, rfl⟩, q⟩
    | int i =>
      obtain ⟨t, rfl⟩ := rv
      exact PySem.P.repr_of_int (of_decide_eq_true ok) ⟨.str _, H, I.tok _, ⟨_, rfl⟩, q⟩
    | str y =>
      obtain ⟨t, rfl⟩ := rv
      exact PySem.P.repr_of_str ⟨.str _, H, I.tok _, ⟨_, rfl⟩, q⟩ (of_decide_eq_true ok)
    | @lst a vs ds sq all =>
      obtain rfl : u = Value.ref a := rv
      have ok' := Bool.and_eq_true_iff.mp (show (ds.all imOk && decide ((listText (ds.map tx)).length ≤ sizeLine)) = true from ok)
      obtain ⟨its, r1, pl, hz⟩ := I.list sq
      have ra := reprAll_of (prog := X.prog) (w := X.w) r1 all ok'.1
      obtain ⟨o, n, e1, e2, e3, e4⟩ := pl
      have ty : s.TypeIs (.ref a) "list" := ⟨o, e1, e2⟩
      refine call_repr_slot (by omega) ty F.slot_list_repr.toG ?_
      cases its with
      | nil =>
        cases r1
        cases all
        exact call_list_repr_empty ty e1 e4 ⟨_, _, rfl, fin (fun _ _ z => z) q⟩
      | cons y its =>
        have ne : ds ≠ [] := fun z => by
          subst z
          cases all
          cases r1
        have q' : Q (.str (if runs g (lG a) = true then "[...]" else listText (ds.map tx))) H := by
          have z : rp g (.ref a) (.list ds) = (if runs g (lG a) = true then ("[...]" : Str) else listText (ds.map tx)) := by
            show (if ds = [] then _ else _) = _
            rw [if_neg ne]
          rw [← z]
          exact q
        cases hr : runs g (lG a) with
        | true =>
          rw [hr, if_pos rfl] at q'
          exact call_list_in ty hg hr e1 e4 fun u tk => ⟨_, _, rfl, fin (fun _ _ z => z) q'⟩
        | false =>
          rw [hr, if_neg Bool.false_ne_true] at q'
          refine call_list_repr (A := X.A.in1) ty (show X.A.in1.guards = some g from hg) (fun v rest kw hm => ?_) e1 e4 (by simpa using ra.length_eq) (fun i y' e => reprAll_get ra i y' (by simpa using e)) (fun h' u tk k => ⟨_, _, rfl, fin k q'⟩) (of_decide_eq_true ok'.2)
          have z := (List.any_eq_false.mp hr) _ hm
          rw [lG_cons] at z
          simpa using z
    | @tup a vs ds sq all =>
      obtain rfl : u = Value.ref a := rv
      have ok' := Bool.and_eq_true_iff.mp (show (ds.all imOk && decide ((tupleText (ds.map tx)).length ≤ sizeLine)) = true from ok)
      obtain ⟨its, r1, tp, hz⟩ := I.tuple sq
      have ra := reprAll_of (prog := X.prog) (w := X.w) r1 all ok'.1
      have ty := tp.typeIs
      obtain ⟨o, e1, e2, n, e4⟩ := tp
      refine call_repr_slot (by omega) ty F.slot_tuple_repr ?_
      have q' : Q (.str (if runs g (tupGuardF (.ref a)) = true then "(...)" else tupleText (ds.map tx))) H := q
      cases hr : runs g (tupGuardF (.ref a)) with
      | true =>
        rw [hr, if_pos rfl] at q'
        exact call_tup_in (items := #[]) (n := 0) ty hg hr fun u tk => ⟨_, _, rfl, fin (fun _ _ z => z) q'⟩
      | false =>
        rw [hr, if_neg Bool.false_ne_true] at q'
        refine call_tuple_repr (A := X.A.in1) ty (show X.A.in1.guards = some g from hg) (fun c hm => ?_) e1 e4 (by simpa using ra) (fun u tk => ⟨_, _, rfl, fin (fun _ _ z => z) q'⟩) (of_decide_eq_true ok'.2)
        have z := (List.any_eq_false.mp hr) _ hm
        simpa using z
  | @dk a k n e =>
    obtain rfl : u = Value.ref a := rv
    have ok' := Bool.and_eq_true_iff.mp (show ((imOk (.str k) && imOk (.int n)) && decide ((tx (.str k)).length + (tx (.int n)).length + 10 ≤ sizeLine)) = true from ok)
    have ok2 := Bool.and_eq_true_iff.mp ok'.1
    obtain ⟨_, sys, vs, kv, o, es, ep, e1, ex, e2, kof, prs, nd⟩ := dk_of I.hok e
    have q' : Q (.str (if runs g (dictGuardF (.ref a)) = true then "{...}" else dictText [tx (.str k) ++ ": " ++ tx (.int n)])) H := q
    cases kv with
    | @cons p1 p2 _ _ hp tl =>
    cases tl
    obtain ⟨el, es2⟩ : ∃ el, es = #[el] := by
      obtain ⟨l⟩ := es
      cases prs with
      | cons _ _ t => cases t; exact ⟨_, rfl⟩
    subst es2
    cases prs with
    | cons h1 h2 t =>
    have ty : s.TypeIs (.ref a) "dict" := ⟨o, e1, ex.1⟩
    have hk : ∃ t, el.key = .str k t := by
      rw [← hp.1] at h1
      rcases keyIs_shape (show keyIs (.inr k) el.key = true from h1) with ⟨i, t, z, _⟩ | ⟨y, t, z, z2⟩
      · cases z
      · cases z
        exact ⟨t, z2⟩
    obtain ⟨t1, hk⟩ := hk
    have hv : ∃ t, el.val = .int n t := by
      have z := hp.2
      rw [← h2] at z
      exact z
    obtain ⟨t2, hv⟩ := hv
    refine call_repr_slot (by omega) ty F.slot_dict_repr ?_
    refine call_dict_one (A := X.A.in1) ty sys (show X.A.in1.guards = some g from hg) e1 e2 (k := tx (.str k)) (v := tx (.int n)) ?_ ?_ (of_decide_eq_true ok'.2) fun u tk => ⟨_, _, rfl, fin (fun _ _ z => z) q'⟩
    · rw [hk]
      exact ReprIs.str k t1 (of_decide_eq_true ok2.1)
    · rw [hv]
      exact ReprIs.int t2 (of_decide_eq_true ok2.2)
end FXR
set_option Elab.async false
set_option linter.all false
set_option maxRecDepth 100000
set_option maxHeartbeats 4000000
/-! FX4: own errors that are kept, things of any kind; their rules over the slots. -/
namespace FN
open PySem PySem.Spec PyProof.Rows L2
/-! ### the kinds -/
/-- a datum, an owned list, an owned dict -/
def kOp : Kind := .ext {
  rel := fun K F H v d fp => (OD K F H (.v true) v d fp ∧ ∀ ds, d ≠ .list ds) ∨ OD K F H (.lst (.v true)) v d fp ∨ OD K F H (.dK true) v d fp
  mono := fun h s => h.imp (fun z => ⟨OD.mono (k := .v true) z.1 s, z.2⟩) (Or.imp (fun z => OD.mono (k := .lst (.v true)) z s) fun z => OD.mono (k := .dK true) z s)
  frame := fun e h s => h.imp (fun z => ⟨OD.frame e (k := .v true) z.1 s, z.2⟩) (Or.imp (fun z => OD.frame e (k := .lst (.v true)) z s) fun z => OD.frame e (k := .dK true) z s)
  dp := fun e hd h => h.elim (fun z => OD.dpn e (k := .v true) hd z.1) (Or.rec (fun z => OD.dpn e (k := .lst (.v true)) hd z) fun z => OD.dpn e (k := .dK true) hd z) }
/-- an own error, its value the object y; its datum names its class -/
def kEr (mg : Str → Option Value) (y : V) : Kind := .ext {
  rel := fun K F H v d fp => ∃ (a C dx : Addr) (n : Str), v = .ref a ∧ d = .dict [(.str n, .none)] ∧ mg n = some (.ref C) ∧ F a = some (exo a C (some dx)) ∧ F dx = some (exd dx [(("value" : Str), y)])
  mono := fun h _ => h
  frame := fun e ⟨a, C, dx, n, h1, h2, h3, h4, h5⟩ _ => ⟨a, C, dx, n, h1, h2, h3, e _ _ h4, e _ _ h5⟩
  dp := fun _ hd ⟨_, _, _, _, _, h2, _⟩ => absurd h2 (hd _) }
/-! ### a thing of any kind -/
section
variable {X : Cx} {W : WX} {κ : List Kind} {pos p : Pos} {e : Expr} {fa : M D}
/-- no list -/
def fOp (fa : M D) : M D := fun ρ => bdo (fa ρ) fun d ρ1 => match d with
  | .list _ => none
  | d => some (.ok d ρ1)
theorem fe_op1 (h : FV X W κ (.t (.v true)) e fa) : FV X W κ (.t kOp) e (fOp fa) := h.imp fun σ H Q z => by
  obtain ⟨ρ, w, rfl, rel, post⟩ := z
  refine ⟨ρ, w, rfl, rel, ?_⟩
  unfold fOp at post
  cases q : fa ρ with
  | none => rw [q] at post; exact post
  | some o =>
    rw [q] at post
    cases o with
    | ok d ρ' =>
      refine fun v w' r x ⟨g, o, c⟩ => ?_
      have n : ∀ ds, d ≠ .list ds := fun ds z => by
        subst z
        exact post
      have post' : PostV (ctx X W) κ σ (.t kOp) w Q (some (.ok d ρ')) := by
        cases d with
        | list ds => exact absurd rfl (n ds)
        | _ => exact post
      exact post' v w' r x ⟨g, Or.inl ⟨o, n⟩, c⟩
    | err n d ρ' => exact post
theorem fe_op2 (h : FV X W κ (.t (.lst (.v true))) e fa) : FV X W κ (.t kOp) e fa := h.imp fun σ H Q z => by
  obtain ⟨ρ, w, rfl, rel, post⟩ := z
  refine ⟨ρ, w, rfl, rel, ?_⟩
  cases q : fa ρ with
  | none => rw [q] at post; exact post
  | some o =>
    rw [q] at post
    cases o with
    | ok d ρ' => exact fun v w' r x ⟨g, o, c⟩ => post v w' r x ⟨g, Or.inr (Or.inl o), c⟩
    | err n d ρ' => exact post
theorem fe_op3 (h : FV X W κ (.t (.dK true)) e fa) : FV X W κ (.t kOp) e fa := h.imp fun σ H Q z => by
  obtain ⟨ρ, w, rfl, rel, post⟩ := z
  refine ⟨ρ, w, rfl, rel, ?_⟩
  cases q : fa ρ with
  | none => rw [q] at post; exact post
  | some o =>
    rw [q] at post
    cases o with
    | ok d ρ' => exact fun v w' r x ⟨g, o, c⟩ => post v w' r x ⟨g, Or.inr (Or.inr o), c⟩
    | err n d ρ' => exact post
end
/-! ### one of a list that is written out: [a, b, ..][i] -/
/-- all of kind k -/
def allK (k : Kind) : List Md → Prop
  | [] => True
  | m :: ms => m = .t k ∧ allK k ms
theorem args_at {K : PySem.W.Frag} {σ : L2.St} {F H : Hp} {k : Kind} : ∀ {ms : List Md} {ds : List D} {vs : List V} {g : FpS}, allK k ms → ArgsR K σ F H ms ds vs g → ds.length = vs.length ∧ ∀ (i : Nat) (d : D), ds[i]? = some d → ∃ v f, vs[i]? = some v ∧ OD K F H k v d f ∧ ∀ a, f a → g a
  | [], _, _, _, _, .nil => ⟨rfl, fun i d h => by simp at h⟩
  | .t k' :: ms, _, _, _, ⟨e, hm⟩, .t (f := f) (g := g) o ar _ h1 h2 => by
    cases e
    obtain ⟨l, r⟩ := args_at hm ar
    refine ⟨by rw [List.length_cons, List.length_cons, l], fun i d h => ?_⟩
    cases i with
    | zero =>
      simp only [List.getElem?_cons_zero, Option.some.injEq] at h
      subst h
      exact ⟨_, f, rfl, o, h1⟩
    | succ i =>
      obtain ⟨v, f', e1, e2, e3⟩ := r i d (by simpa using h)
      exact ⟨v, f', by simpa using e1, e2, fun a z => h2 a (e3 a z)⟩
  | .r _ :: _, _, _, _, ⟨e, _⟩, _ => by cases e
def fPick (mi : Md) (fr : M (List D)) (fi : M D) : M D := fun ρ => bdo (fr ρ) fun ds ρ1 => if ds.length ≤ 1000 then bdo (fi ρ1) fun di ρ2 => match rd mi di ρ2 with
  | some (.int i) => if 0 ≤ i then (ds[i.toNat]?).map fun d => .ok d ρ2 else none
  | _ => none
  else none
theorem atI_up {α : Type} {xs : List α} {i : Int} {v : α} (h0 : 0 ≤ i) (h : xs[i.toNat]? = some v) : L2.atI xs i = some v := by
  have hl : i.toNat < xs.length := (List.getElem?_eq_some_iff.mp h).1
  unfold L2.atI L2.ixN
  rw [if_pos h0, if_pos (by omega)]
  exact h
section
variable {X : Cx} {W : WX} {κ : List Kind} {pos p p1 : Pos} {es : List Expr} {b : Expr} {fr : M (List D)} {fi : M D} {ms : List Md} {mi : Md} {k : Kind}
theorem fe_pick (ha : FA X W κ ms es fr) (hb : FV X W κ mi b fi) (hk : allK k ms := by repeat (first | exact True.intro | refine And.intro rfl ?_)) (hs : PlainIx b := by exact fun _ _ => rfl) : FV X W κ (.t k) (.Subscript (.List es p1) b pos) (fPick mi fr fi) :=
  (pe_ix ix_list (pe_lst ha) hb hs).imp fun σ H Q h => by
    obtain ⟨ρ, w, rfl, rel, post⟩ := h
    refine seqA (P := PostV (ctx X W) κ σ (.t k) w Q) rel post (fun z => z) (fun n d ρ' z => z) fun ds ρ1 vs w1 rel1 e1 a1 post1 => ?_
    obtain ⟨g, ar, cg⟩ := a1
    obtain ⟨hl, hat⟩ := args_at hk ar
    split at post1
    · rename_i hd
      refine ⟨by rw [← hl]; exact Nat.le_trans hd (by rw [sizeLine_eq]; decide), fun p np => ?_⟩
      obtain ⟨w2, eH, eF, rel2, e2⟩ := world_new (o := .lst vs) rel1 np
      rw [← eH]
      refine seqV (P := PostV (ctx X W) κ σ (.t k) w Q) rel2 post1 (fun z => z) (fun n d ρ' z => ErrOk.since z (e1.trans e2)) fun di ρ2 vi w3 rel3 e3 t3 post3 => ?_
      split at post3
      · rename_i i er
        split at post3
        · rename_i h0
          cases q : ds[i.toNat]? with
          | none =>
            rw [q] at post3
            exact post3.elim
          | some d =>
            rw [q] at post3
            obtain ⟨v, f, ev, o, hf⟩ := hat _ _ q
            have dp := rd_dp rel3 t3 er
            refine ⟨p, vs, i, v, rfl, dp_int dp, SqL.of (rel3.same _ _ (e3.same _ _ (by rw [eF, upd_same]))), atI_up h0 ev, ?_⟩
            have k1 := temp_keep (K := X.K) (e2.trans e3) o fun a z => ⟨(cg a (hf a z)).1, (cg a (hf a z)).2.1, (cg a (hf a z)).2.2.1⟩
            exact post3 v w3 rel3 ((e1.trans e2).trans e3) ⟨f, k1.1, fun a z => ⟨(k1.2 a z).1, (k1.2 a z).2.1, (k1.2 a z).2.2, (cg a (hf a z)).2.2.2⟩⟩
        · exact post3.elim
      · exact post3.elim
    · exact post1.elim
end
end FN
set_option Elab.async false
set_option linter.all false
set_option maxRecDepth 100000
set_option maxHeartbeats 4000000
/-! FX5: own errors that are kept: made, read, asked for their class; the object of a slot by itself. -/
namespace FN
open PySem PySem.Spec PyProof.Rows L2
/-! ### over the abstract heap -/
section
variable {X : Cx} {pos p : Pos} {e : Expr} {te : TE}
def tExv (K : PySem.W.Frag) (te : TE) : TE := fun σ H Q => te σ H fun x H1 => ∃ (a C dx : Addr) (fs : List (Str × V)) (v : V), x = .ref a ∧ H1 a = some (exo a C (some dx)) ∧ H1 dx = some (exd dx fs) ∧ fs.lookup ("value" : Str) = some v ∧ XfC K C ∧ PySem.W.findIn K (.ref C) "value" = some none ∧ Q v H1
theorem pe_exv (he : PE X e te) (hb : attributeBase e "value" X.env (eval e X.env) = eval e X.env := by rfl) : PE X (.Attribute e "value" pos) (tExv X.K te) := by
  refine ⟨fun pins s σ H Q I h => ?_⟩
  refine attr_of hb (thn (he.run pins s σ H _ I h) fun u s1 hh => ?_)
  obtain ⟨x, H1, I1, rx, a, C, dx, fs, v, ex, ea, ed, l, T, no, q⟩ := hh
  subst ex
  obtain rfl : u = Value.ref a := rx
  obtain ⟨t1, hg⟩ := exo_at I1.hok ea
  obtain ⟨mA, hns, hr⟩ := exd_at I1.hok ed
  obtain ⟨od, ho, hl⟩ := lookIn_ns hns
  obtain ⟨u, hu, ru⟩ := RelO.some_of (v := v) (o := mA "value") (by rw [← l]; exact hr "value")
  have J : PySem.W.InstAt s1.heap a ({ cls := .ref C, dict := some dx, data := .fields #[.ref t1, .none, .none, .none, .bool false, .none] } : Obj) C (some od) := ⟨hg, rfl, rfl, ho⟩
  exact HandSPX.exc_get I1.kIn J T.ga T.gg T.exC (PySem.W.findObj_own T.hdC no rfl (by rw [hl, hu])) (handed_of ru) ⟨v, H1, I1.tok _, ru, q⟩
def rIsE (K : PySem.W.Frag) (xs : List V) (H : Hp) (Q : VK) : Prop := ∃ (a Ca dx : Addr) (fs : List (Str × V)) (c : V) (cv : Value) (b : Bool), xs = [.ref a, c] ∧ H a = some (exo a Ca (some dx)) ∧ H dx = some (exd dx fs) ∧ ExcC K Ca ∧ (∀ u, RelV c u → u = cv) ∧ PySem.W.kitOne K (.ref Ca) cv = some b ∧ Q (.bl b) H
theorem call_isE : CallR X (.builtin "isinstance") (rIsE X.K) := by
  intro pins s σ H xs us Q I r h
  obtain ⟨a, Ca, dx, fs, c, cv, b, rfl, ea, ed, C, hcv, e, q⟩ := h
  cases r with
  | cons rx rr =>
    cases rr with
    | cons rt rr =>
      cases rr
      cases rx
      have ec := hcv _ rt
      subst ec
      obtain ⟨t1, hg⟩ := exo_at I.hok ea
      obtain ⟨mA, hns, hr⟩ := exd_at I.hok ed
      obtain ⟨od, ho, _⟩ := lookIn_ns hns
      have J : PySem.W.InstAt s.heap a ({ cls := .ref Ca, dict := some dx, data := .fields #[.ref t1, .none, .none, .none, .bool false, .none] } : Obj) Ca (some od) := ⟨hg, rfl, rfl, ho⟩
      exact PySem.W.kia_one (PySem.W.fn_kitx C) I.kIn J e (fun z => nomatch z) fun tk => ⟨.bl b, H, I.kept (t' := tk) fun _ _ z => z, rfl, q⟩
end
/-! ### the object of a slot, by itself -/
section
variable {X : Cx} {W : WX} {κ : List Kind} {pos p : Pos} {y u : V} {k : Kind}
def fTokR (i : Nat) : M D := fun ρ => match ρ[i]? with
  | some (some _) => some (.ok (.dict []) ρ)
  | _ => none
theorem fe_tokA (i : Nat) {x : Str} (hk : κ[i]? = some (.fix y k) := by rfl) (hN : X.N[i]? = some x := by rfl) (hv : Vis X.env.scope x := by first | exact Or.inl rfl | exact Or.inr (Or.inl rfl) | exact Or.inr (Or.inr rfl)) (hd : (x == ("__debug__" : Str)) = false := by decide)
    (hcd : (x == ("__classdict__" : Str)) = false := by decide) : FV X W κ (.t (.tok y)) (.Name x pos) (fTokR i) := (pe_var hN hv hd hcd).imp fun σ H Q h => by
  obtain ⟨ρ, w, rfl, rel, post⟩ := h
  unfold fTokR at post
  split at post
  · exact ⟨y, rel.fixed i y k hk, post y w rel (Ext.refl _) ⟨fun _ => False, ⟨rfl, rfl⟩, fun _ z => z.elim⟩⟩
  · exact post.elim
theorem fe_tokB (i : Nat) {x : Str} (hk : κ[i]? = some (.fix u (.tok y)) := by rfl) (hN : X.N[i]? = some x := by rfl) (hv : Vis X.env.scope x := by first | exact Or.inl rfl | exact Or.inr (Or.inl rfl) | exact Or.inr (Or.inr rfl)) (hd : (x == ("__debug__" : Str)) = false := by decide)
    (hcd : (x == ("__classdict__" : Str)) = false := by decide) : FV X W κ (.t (.tok y)) (.Name x pos) (fTokR i) := (pe_var hN hv hd hcd).imp fun σ H Q h => by
  obtain ⟨ρ, w, rfl, rel, post⟩ := h
  unfold fTokR at post
  split at post
  · rename_i d e
    obtain ⟨v, f, e1, o, _⟩ := rel.slots.get e hk
    obtain ⟨ev, _⟩ : v = y ∧ d = .dict [] := o
    subst ev
    exact ⟨v, e1, post v w rel (Ext.refl _) ⟨fun _ => False, ⟨rfl, rfl⟩, fun _ z => z.elim⟩⟩
  · exact post.elim
/-- the datum of slot t, where its object is at hand -/
def fDer (t : Nat) (f : M D) : M D := fun ρ => bdo (f ρ) fun _ ρ1 => match ρ1[t]? with
  | some (some d) => some (.ok d ρ1)
  | _ => none
theorem fe_deref {b : Bool} {t : Nat} {e : Expr} {f : M D} (h : FV X W κ (.r t) e f) (hk : κ[t]? = some (.fix y (.v b)) := by rfl) : FV X W κ (.t (.v b)) e (fDer t f) := h.imp fun σ H Q z => by
  obtain ⟨ρ, w, rfl, rel, post⟩ := z
  refine seqV (P := PostV (ctx X W) κ σ (.t (.v b)) w Q) rel post (fun z => z) (fun n d ρ' z => z) fun d ρ1 v w1 rel1 e1 t1 post1 => ?_
  split at post1
  · rename_i d' ed
    obtain ⟨v', f', ev, o, _⟩ := rel1.slots.get ed hk
    rw [show σ[t]? = some (some v) from t1] at ev
    cases ev
    exact fin_imm post1 rel1 e1 o
  · exact post1.elim
end
/-! ### an own error made -/
def fMk (n : Str) (fa : M D) : M D := fun ρ => bdo (fa ρ) fun _ ρ1 => some (.ok (.dict [(.str n, .none)]) ρ1)
section
variable {X : Cx} {W : WX} {κ : List Kind} {pos p kpos : Pos} {e : Expr} {fa : M D} {y : V}
theorem ev_mk {n : Str} {C : Addr} {σ : L2.St} {H : Hp} {Q : VK} (hm : X.mg n = some (.ref C)) (h : tV (ctx X W) κ (.t (kEr X.mg y)) (fMk n fa) σ H Q) : tMkE C (tV (ctx X W) κ (.t (.tok y)) fa) σ H Q := by
  obtain ⟨ρ, w, rfl, rel, post⟩ := h
  refine seqV (P := PostV (ctx X W) κ σ (.t (kEr X.mg y)) w Q) rel post (fun z => z) (fun n d ρ' z => z) fun d ρ1 v w1 rel1 e1 t1 post1 => ?_
  intro a dx na nd ne
  have hv : v = y := by
    obtain ⟨g, o, _⟩ := t1
    exact o.1
  subst hv
  obtain ⟨w2, eH2, eF2, rel2, e2⟩ := world_new (o := exd dx [(("value" : Str), v)]) rel1 nd
  have na2 : w2.H a = none := by
    rw [eH2, upd_ne (Ne.symm ne)]
    exact na
  obtain ⟨w3, eH3, eF3, rel3, e3⟩ := world_new (o := exo a C (some dx)) rel2 na2
  rw [← eH2, ← eH3]
  exact post1 (.ref a) w3 rel3 ((e1.trans e2).trans e3) ⟨fun _ => False, ⟨a, C, dx, n, rfl, rfl, hm, by rw [eF3, upd_same], by rw [eF3, upd_ne ne, eF2, upd_same]⟩, fun _ z => z.elim⟩
theorem fe_mkE {n : Str} {D fI C : Addr} (T : ErrTxt X.prog X.K X.mg D fI) (TC : ErrCls X.K D fI C) (hm : X.mg n = some (.ref C)) (hr : Room 1 X.A) (ha : FV X W κ (.t (.tok y)) e fa) (hg : Gl X n := by rfl) (hdb : (n == ("__debug__" : Str)) = false := by decide)
    (hs : starEach (e :: []) X.env = (false, eval e X.env) :: starEach [] X.env := by rfl) (hpl : (backTo pos (starEach [] X.env)).any (·.1) = false := by rfl) : FV X W κ (.t (kEr X.mg y)) (.Call (.Name n p) [e] [] pos) (fMk n fa) :=
  (pe_mkE T TC hm hr hg ha hdb hs hpl).imp fun σ H Q h => ev_mk hm h
theorem fe_mkEK {n : Str} {D fI C : Addr} (T : ErrTxt X.prog X.K X.mg D fI) (TC : ErrCls X.K D fI C) (hm : X.mg n = some (.ref C)) (hr : Room 1 X.A) (ha : FV X W κ (.t (.tok y)) e fa) (hg : Gl X n := by rfl) (hdb : (n == ("__debug__" : Str)) = false := by decide)
    (hall : (backToKw pos (keywordEach [⟨some "value", e, kpos⟩] X.env)).all (·.1.isSome) = true := by rfl) (hk : (backToKw pos (keywordEach [⟨some "value", e, kpos⟩] X.env)).filterMap (·.1) = [("value" : Str)] := by rfl) (hpl : ((backTo pos (starEach [] X.env)).any (·.1) || (backToKw pos (keywordEach [⟨some "value", e, kpos⟩] X.env)).any (·.1.isNone)) = false := by rfl) :
    FV X W κ (.t (kEr X.mg y)) (.Call (.Name n p) [] [⟨some "value", e, kpos⟩] pos) (fMk n fa) :=
  (pe_mkEK T TC hm hr hg ha hdb hall hk hpl).imp fun σ H Q h => ev_mk hm h
end
/-! ### its class -/
/-- the answers of isinstance(error, cv), by the error's class -/
def SelI (K : PySem.W.Frag) (mg : Str → Option Value) (cv : Value) (sel : Str → Option Bool) : Prop := ∀ n b, sel n = some b → ∀ C, mg n = some (.ref C) → ExcC K C ∧ PySem.W.kitOne K (.ref C) cv = some b
def fIsE (i : Nat) (sel : Str → Option Bool) : M D := fun ρ => match ρ[i]? with
  | some (some (.dict [(.str n, .none)])) => (sel n).map fun b => .ok (.bool b) ρ
  | _ => none
/-- slot i holds an own error with the value y -/
def SlE (κ : List Kind) (i : Nat) (mg : Str → Option Value) (y : V) : Prop := κ[i]? = some (kEr mg y) ∨ ∃ u, κ[i]? = some (.fix u (kEr mg y))
theorem sle_get {κ : List Kind} {i : Nat} {mg : Str → Option Value} {y : V} {K : PySem.W.Frag} {ρ : Env} {σ : L2.St} {w : Wd} {n : Str} (rel : Rel K κ ρ σ w) (hs : SlE κ i mg y) (h : ρ[i]? = some (some (.dict [(.str n, .none)]))) :
    ∃ (a C dx : Addr), σ[i]? = some (some (.ref a)) ∧ mg n = some (.ref C) ∧ w.F a = some (exo a C (some dx)) ∧ w.F dx = some (exd dx [(("value" : Str), y)]) := by
  have key : ∀ v d f, OD K w.F w.H (kEr mg y) v d f → d = .dict [(.str n, .none)] → ∃ (a C dx : Addr), v = .ref a ∧ mg n = some (.ref C) ∧ w.F a = some (exo a C (some dx)) ∧ w.F dx = some (exd dx [(("value" : Str), y)]) := fun v d f o ed => by
    obtain ⟨a, C, dx, n', h1, h2, h3, h4, h5⟩ := o
    rw [ed] at h2
    cases h2
    exact ⟨a, C, dx, h1, h3, h4, h5⟩
  rcases hs with hk | ⟨u, hk⟩
  · obtain ⟨v, f, ev, o, _⟩ := rel.slots.get h hk
    obtain ⟨a, C, dx, rfl, r⟩ := key v _ f o rfl
    exact ⟨a, C, dx, ev, r⟩
  · obtain ⟨v, f, ev, o, _⟩ := rel.slots.get h hk
    obtain ⟨a, C, dx, rfl, r⟩ := key v _ f o rfl
    exact ⟨a, C, dx, ev, r⟩
section
variable {X : Cx} {W : WX} {κ : List Kind} {pos p p1 p2 : Pos} {y : V} {b : Bool} {sel : Str → Option Bool}
theorem fe_isE0 {i : Nat} {x : Str} {ec : Expr} {c : V} {cv : Value} (hE : SlE κ i X.mg y) (hs : SelI X.K X.mg cv sel) (hc : PE X ec (tC c)) (hcv : ∀ u, RelV c u → u = cv) (hg : Gl X "isinstance") (hm : X.mg "isinstance" = none) (hN : X.N[i]? = some x) (hv : Vis X.env.scope x)
    (hd : (x == ("__debug__" : Str)) = false) (hcd : (x == ("__classdict__" : Str)) = false) (hs1 : starEach (.Name x p1 :: [ec]) X.env = (false, eval (.Name x p1) X.env) :: starEach [ec] X.env) (hs2 : starEach (ec :: []) X.env = (false, eval ec X.env) :: starEach [] X.env) (hpl : (backTo pos (starEach [ec] X.env)).any (·.1) = false) :
    FV X W κ (.t (.v b)) (.Call (.Name "isinstance" p) [.Name x p1, ec] [] pos) (fIsE i sel) :=
  (pe_callB call_isE hg hm boot_isinstance (pa_cons (pe_var hN hv hd hcd) (pa_cons hc pa_nil hs2) hs1) (by decide) (by decide) hs1 hpl).imp fun σ H Q h => by
    obtain ⟨ρ, w, rfl, rel, post⟩ := h
    unfold fIsE at post
    split at post
    · rename_i n ed
      cases q : sel n with
      | none =>
        rw [q] at post
        exact post.elim
      | some k =>
        rw [q] at post
        obtain ⟨a, C, dx, ev, hmC, h4, h5⟩ := sle_get rel hE ed
        obtain ⟨xc, kit⟩ := hs n k q C hmC
        exact ⟨.ref a, ev, a, C, dx, _, c, cv, k, rfl, rel.same _ _ h4, rel.same _ _ h5, xc, hcv, kit, fin_imm post rel (Ext.refl _) (.bl k)⟩
    · exact post.elim
theorem fe_isE {i : Nat} {x S : Str} {Cs : Addr} (hE : SlE κ i X.mg y) (hs : SelI X.K X.mg (.ref Cs) sel) (hmS : X.mg S = some (.ref Cs)) (hm : X.mg "isinstance" = none) (hg : Gl X "isinstance" := by rfl) (hgS : Gl X S := by rfl) (hN : X.N[i]? = some x := by rfl) (hv : Vis X.env.scope x := by first | exact Or.inl rfl | exact Or.inr (Or.inl rfl) | exact Or.inr (Or.inr rfl))
    (hd : (x == ("__debug__" : Str)) = false := by decide) (hcd : (x == ("__classdict__" : Str)) = false := by decide) (hd2 : (S == ("__debug__" : Str)) = false := by decide) (hs1 : starEach (.Name x p1 :: [.Name S p2]) X.env = (false, eval (.Name x p1) X.env) :: starEach [.Name S p2] X.env := by rfl) (hs2 : starEach (.Name S p2 :: []) X.env = (false, eval (.Name S p2) X.env) :: starEach [] X.env := by rfl) (hpl : (backTo pos (starEach [.Name S p2] X.env)).any (·.1) = false := by rfl) :
    FV X W κ (.t (.v b)) (.Call (.Name "isinstance" p) [.Name x p1, .Name S p2] [] pos) (fIsE i sel) :=
  fe_isE0 hE hs (pe_glob (v := .ref Cs) hgS hmS rfl hd2) (fun u z => z) hg hm hN hv hd hcd hs1 hs2 hpl
theorem fe_isEB {i : Nat} {x : Str} {ec : Expr} {T : String} (hE : SlE κ i X.mg y) (hs : SelI X.K X.mg (.type T) sel) (hc : Cls1 X T ec) (hm : X.mg "isinstance" = none) (hg : Gl X "isinstance" := by rfl) (hN : X.N[i]? = some x := by rfl) (hv : Vis X.env.scope x := by first | exact Or.inl rfl | exact Or.inr (Or.inl rfl) | exact Or.inr (Or.inr rfl))
    (hd : (x == ("__debug__" : Str)) = false := by decide) (hcd : (x == ("__classdict__" : Str)) = false := by decide) (hs1 : starEach (.Name x p1 :: [ec]) X.env = (false, eval (.Name x p1) X.env) :: starEach [ec] X.env := by rfl) (hs2 : starEach (ec :: []) X.env = (false, eval ec X.env) :: starEach [] X.env := by rfl) (hpl : (backTo pos (starEach [ec] X.env)).any (·.1) = false := by rfl) :
    FV X W κ (.t (.v b)) (.Call (.Name "isinstance" p) [.Name x p1, ec] [] pos) (fIsE i sel) :=
  fe_isE0 hE hs hc (fun u z => z) hg hm hN hv hd hcd hs1 hs2 hpl
/-! ### its value -/
/-- classes whose errors have the field -/
def NmOk (K : PySem.W.Frag) (mg : Str → Option Value) (nm : Str → Bool) : Prop := ∀ n, nm n = true → ∀ C, mg n = some (.ref C) → XfC K C ∧ PySem.W.findIn K (.ref C) "value" = some none
def fErv (i t : Nat) (nm : Str → Bool) : M D := fun ρ => match ρ[i]? with
  | some (some (.dict [(.str n, .none)])) => if nm n = true then match ρ[t]? with
    | some (some _) => some (.ok .none ρ)
    | _ => none
    else none
  | _ => none
theorem fe_erv {nm : Str → Bool} {i t : Nat} {k : Kind} {x : Str} (hE : SlE κ i X.mg y) (hn : NmOk X.K X.mg nm) (ht : κ[t]? = some (.fix y k) := by rfl) (hN : X.N[i]? = some x := by rfl) (hv : Vis X.env.scope x := by first | exact Or.inl rfl | exact Or.inr (Or.inl rfl) | exact Or.inr (Or.inr rfl))
    (hb : attributeBase (.Name x p) "value" X.env (eval (.Name x p) X.env) = eval (.Name x p) X.env := by rfl) (hd : (x == ("__debug__" : Str)) = false := by decide) (hcd : (x == ("__classdict__" : Str)) = false := by decide) : FV X W κ (.r t) (.Attribute (.Name x p) "value" pos) (fErv i t nm) :=
  (pe_exv (pe_var hN hv hd hcd) hb).imp fun σ H Q h => by
    obtain ⟨ρ, w, rfl, rel, post⟩ := h
    unfold fErv at post
    split at post
    · rename_i n ed
      split at post
      · rename_i hnm
        split at post
        · obtain ⟨a, C, dx, ev, hmC, h4, h5⟩ := sle_get rel hE ed
          obtain ⟨xf, no⟩ := hn n hnm C hmC
          exact ⟨.ref a, ev, a, C, dx, _, y, rfl, rel.same _ _ h4, rel.same _ _ h5, List.lookup_cons_self, xf, no, post y w rel (Ext.refl _) (rel.fixed t y k ht)⟩
        · exact post.elim
      · exact post.elim
    · exact post.elim
def fErvT (t : Nat) (nm : Str → Bool) (fa : M D) : M D := fun ρ => bdo (fa ρ) fun d ρ1 => match d with
  | .dict [(.str n, .none)] => if nm n = true then match ρ1[t]? with
    | some (some _) => some (.ok .none ρ1)
    | _ => none
    else none
  | _ => none
theorem fe_ervT {nm : Str → Bool} {t : Nat} {k : Kind} {e : Expr} {fa : M D} (ha : FV X W κ (.t (kEr X.mg y)) e fa) (hn : NmOk X.K X.mg nm) (ht : κ[t]? = some (.fix y k) := by rfl) (hb : attributeBase e "value" X.env (eval e X.env) = eval e X.env := by rfl) : FV X W κ (.r t) (.Attribute e "value" pos) (fErvT t nm fa) :=
  (pe_exv ha hb).imp fun σ H Q h => by
    obtain ⟨ρ, w, rfl, rel, post⟩ := h
    refine seqV (P := PostV (ctx X W) κ σ (.r t) w Q) rel post (fun z => z) (fun n d ρ' z => z) fun d ρ1 v w1 rel1 e1 t1 post1 => ?_
    split at post1
    · rename_i n
      split at post1
      · rename_i hnm
        split at post1
        · obtain ⟨g, ⟨a, C, dx, n', h1, h2, h3, h4, h5⟩, _⟩ := t1
          cases h2
          obtain ⟨xf, no⟩ := hn n hnm C h3
          exact ⟨a, C, dx, _, y, h1, rel1.same _ _ h4, rel1.same _ _ h5, List.lookup_cons_self, xf, no, post1 y w1 rel1 e1 (rel1.fixed t y k ht)⟩
        · exact post1.elim
      · exact post1.elim
    · exact post1.elim
end
end FN
set_option Elab.async false
set_option linter.all false
set_option maxRecDepth 100000
set_option maxHeartbeats 4000000
/-! FX6: repr(error.value) != repr(thing); a slot's object fixed, slots cleared; if isinstance(thing, list). -/
namespace FN
open PySem PySem.Spec PyProof.Rows L2
/-! ### repr(e.value) != repr(thing): the same object -/
def fRpNe (t : Nat) (f : M D) : M Bool := fun ρ => bdo (f ρ) fun _ ρ1 => match ρ1[t]? with
  | some (some d) => if FXR.rpOk d = true then some (.ok false ρ1) else none
  | _ => none
theorem sh_of {K : PySem.W.Frag} {F H : Hp} {v : V} {d : D} {f : FpS} {y : V} (e : Same F H) (o : OD K F H (.fix y kOp) v d f) (h : FXR.rpOk d = true) : FXR.Sh K H v d := by
  rcases o with o | o | o
  · exact .dp (OD.dp e (k := .v true) rfl o.1)
  · exact .dp (OD.dp e (k := .lst (.v true)) rfl o)
  · obtain ⟨a, kvs, ps, rfl, rfl, e3, h1, r⟩ := o
    cases r with
    | nil => cases h
    | @cons k v d kvs ps r t =>
      cases t with
      | cons _ _ =>
        exfalso
        revert h
        cases k <;> cases d <;> exact fun z => nomatch z
      | nil =>
        cases k with
        | inl i =>
          exfalso
          revert h
          cases d <;> exact fun z => nomatch z
        | inr s =>
          cases r with
          | int n => exact .dk e3
          | non => cases h
          | bl _ => cases h
          | str _ => cases h
          | lst _ _ => cases h
          | tup _ _ => cases h
          | con _ _ _ => cases h
section
variable {X : Cx} {W : WX} {κ : List Kind} {pos p p1 p2 pa pb pc pd : Pos} {y : V} {t : Nat} {e : Expr} {fa : M D}
theorem ft_rpNe {x : Str} (he : FV X W κ (.r t) e fa) (hg : Gl X "repr") (hm : X.mg "repr" = none) (hu : X.A.units + 64 < cLine) (ht : κ[t]? = some (.fix y kOp) := by rfl) (hN : X.N[t]? = some x := by rfl) (hv : Vis X.env.scope x := by first | exact Or.inl rfl | exact Or.inr (Or.inl rfl) | exact Or.inr (Or.inr rfl)) (hd : (x == ("__debug__" : Str)) = false := by decide) (hcd : (x == ("__classdict__" : Str)) = false := by decide)
    (hs1 : starEach (e :: []) X.env = (false, eval e X.env) :: starEach [] X.env := by rfl) (hs2 : starEach (.Name x pd :: []) X.env = (false, eval (.Name x pd) X.env) :: starEach [] X.env := by rfl) (hp1 : (backTo pa (starEach [] X.env)).any (·.1) = false := by rfl) (hp2 : (backTo pc (starEach [] X.env)).any (·.1) = false := by rfl) (hmk : behindInMarks .NotEq (.Call (.Name "repr" pb) [.Name x pd] [] pc) = false := by exact nomark _) :
    FT X W κ (.Compare (.Call (.Name "repr" p1) [e] [] pa) [.NotEq] [.Call (.Name "repr" pb) [.Name x pd] [] pc] pos) (fRpNe t fa) := by
  refine FXR.pt_fix fun A' g F => ?_
  have hu' : A'.units + 64 < cLine := by rw [F.u]; exact hu
  have c1 : CallR (FXR.wA X A') (.builtin "repr") (FXR.rRp X.K g) := FXR.call_rp (X := FXR.wA X A') F.g (show A'.units + 2 < cLine by omega)
  have q1 : PE (FXR.wA X A') (.Call (.Name "repr" p1) [e] [] pa) _ := pe_callB c1 hg hm boot_repr (pa_cons (FXR.pe_to F he) pa_nil hs1) (by decide) (by decide) hs1 hp1
  have q2 : PE (FXR.wA X A') (.Call (.Name "repr" pb) [.Name x pd] [] pc) _ := pe_callB c1 hg hm boot_repr (pa_cons (FXR.pe_to F (pe_var hN hv hd hcd)) pa_nil hs2) (by decide) (by decide) hs2 hp2
  refine (pt_cmpR op_ne q1 q2 hmk).imp fun σ H Q h => ?_
  obtain ⟨ρ, w, rfl, rel, post⟩ := h
  refine seqV (P := PostT (ctx X W) κ σ w Q) rel post (fun z => z) (fun n d ρ' z => z) fun d ρ1 v w1 rel1 e1 t1 post1 => ?_
  split at post1
  · rename_i d' ed
    split at post1
    · rename_i hok
      obtain ⟨v', f', ev, o, _⟩ := rel1.slots.get ed ht
      have ev0 := ev
      rw [show σ[t]? = some (some v) from t1] at ev
      cases ev
      have sh := sh_of rel1.same o hok
      exact ⟨v, d', rfl, sh, hok, v, ev0, v, d', rfl, sh, hok, rfl, false, by simp, post1 w1 rel1 e1⟩
    · exact post1.elim
  · exact post1.elim
end
/-! ### a slot's kind seen otherwise -/
theorem slots_re {K : PySem.W.Frag} {F H : Hp} {k1 k2 : Kind} {κ : List Kind} {ρ : Env} {σ : L2.St} {fp : FpS} (h : Slots K F H κ ρ σ fp) : ∀ {i : Nat}, κ[i]? = some k1 → (∀ v d f, ρ[i]? = some (some d) → OD K F H k1 v d f → OD K F H k2 v d f) → Slots K F H (κ.set i k2) ρ σ fp := by
  induction h with
  | nil => intro i e; simp at e
  | skip t ih =>
    intro i e c
    cases i with
    | zero => exact .skip t
    | succ i => exact .skip (ih (i := i) (by simpa using e) fun v d f q => c v d f (by simpa using q))
  | @cons k κ d ρ v σ f g fp o t dj h1 h2 ih =>
    intro i e c
    cases i with
    | zero =>
      simp only [List.getElem?_cons_zero, Option.some.injEq] at e
      subst e
      exact .cons (c _ _ _ rfl o) t dj h1 h2
    | succ i => exact .cons o (ih (i := i) (by simpa using e) fun v d f q => c v d f (by simpa using q)) dj h1 h2
theorem rel_re {K : PySem.W.Frag} {k1 k2 : Kind} {κ : List Kind} {ρ : Env} {σ : L2.St} {w : Wd} {i : Nat} (rel : Rel K κ ρ σ w) (hk : κ[i]? = some k1) (c : ∀ v d f, ρ[i]? = some (some d) → OD K w.F w.H k1 v d f → OD K w.F w.H k2 v d f) (hf : ∀ u k', k2 = .fix u k' → σ[i]? = some (some u)) : Rel K (κ.set i k2) ρ σ w := by
  refine ⟨rel.same, rel.frz, rel.live, fun j u k' z => ?_, slots_re rel.slots hk c⟩
  by_cases hj : j = i
  · subst hj
    rw [List.getElem?_set_self (List.getElem?_eq_some_iff.mp hk).1] at z
    cases z
    exact hf u k' rfl
  · rw [List.getElem?_set_ne (Ne.symm hj)] at z
    exact rel.fixed j u k' z
/-! ### from here on the slot's object is y -/
def sFix (i : Nat) (f : Env → Option Fl) : Env → Option Fl := fun ρ => match ρ[i]? with
  | some (some _) => f ρ
  | _ => none
section
variable {X : Cx} {W : WX} {C : FC} {κ κ' κn : List Kind} {ss : List Stmt} {f : Env → Option Fl} {k : Kind}
theorem fss_fix (i : Nat) (hk : κ[i]? = some k) (hn : nofix k) (h : ∀ y, FSs X W C (κ.set i (.fix y k)) κn ss f) : FSs X W C κ κn ss (sFix i f) := by
  refine ⟨fun pins s σ H Q I z => ?_⟩
  obtain ⟨ρ, w, rfl, rel, post⟩ := z
  unfold sFix at post
  split at post
  · rename_i d ed
    obtain ⟨v, g, ev, o, _⟩ := rel.slots.get ed hk
    exact (h v).run pins s σ _ Q I ⟨ρ, w, rfl, rel_re rel hk (fun _ _ _ _ o => o) fun u k' e => by cases e; exact ev, post⟩
  · exact post.elim
def sClr (i : Nat) (f : Env → Option Fl) : Env → Option Fl := fun ρ => match f ρ with
  | some (.nx ρ') => some (.nx (ρ'.set i none))
  | o => o
theorem fss_clr (i : Nat) (k2 : Kind) (hn : nofix k2) (h : FSs X W C κ κn ss f) : FSs X W C κ (κn.set i k2) ss (sClr i f) := h.imp fun D' σ H z => by
  obtain ⟨ρ, w, rfl, rel, post⟩ := z
  refine ⟨ρ, w, rfl, rel, ?_⟩
  unfold sClr at post
  cases q : f ρ with
  | none => rw [q] at post; exact post
  | some o =>
    rw [q] at post
    cases o with
    | nx ρ' =>
      intro σ' w' r e
      have r2 := rel_clear (k := k2) r hn (σ'[i]?).join i
      have es : σ'.set i (σ'[i]?).join = σ' := by
        cases y : σ'[i]? with
        | none =>
          rw [List.set_eq_of_length_le]
          exact List.getElem?_eq_none_iff.mp y
        | some o => exact set_same y
      rw [es] at r2
      exact post σ' w' r2 e
    | ret d ρ' => exact post
    | bk ρ' => exact post
    | ct ρ' => exact post
    | err n d ρ' => exact post
end
/-! ### if isinstance(thing, list): .. -/
def sIfL (i : Nat) (f : Env → Option Fl) : Env → Option Fl := fun ρ => match ρ[i]? with
  | some (some (.list _)) => f ρ
  | some (some _) => some (.nx ρ)
  | _ => none
theorem ty_op {K : PySem.W.Frag} {F H : Hp} {v : V} {d : D} {f : FpS} {y : V} (e : Same F H) (o : OD K F H (.fix y kOp) v d f) : TyX K H v (.type (tyD d)) := by
  rcases o with o | o | o
  · exact tyX_of (OD.dp e (k := .v true) rfl o.1)
  · exact tyX_of (OD.dp e (k := .lst (.v true)) rfl o)
  · obtain ⟨a, kvs, ps, rfl, rfl, e3, h1, r⟩ := o
    exact .base (.dK e3)
section
variable {X : Cx} {W : WX} {C : FC} {κ : List Kind} {body : List Stmt} {f : Env → Option Fl} {y : V} {i : Nat} {pos p pa pb pc : Pos}
theorem fs_ifL {x : Str} {ec : Expr} (hb : FSs X W C (κ.set i (.fix y (.lst (.v true)))) (κ.set i (.fix y (.lst (.v true)))) body f) (hg : Gl X "isinstance") (hm : X.mg "isinstance" = none) (hc : Cls1 X "list" ec) (ht : κ[i]? = some (.fix y kOp) := by rfl) (hN : X.N[i]? = some x := by rfl) (hv : Vis X.env.scope x := by first | exact Or.inl rfl | exact Or.inr (Or.inl rfl) | exact Or.inr (Or.inr rfl)) (hd : (x == ("__debug__" : Str)) = false := by decide) (hcd : (x == ("__classdict__" : Str)) = false := by decide)
    (hke : C.ke = none := by rfl)
    (hs1 : starEach (.Name x pb :: [ec]) X.env = (false, eval (.Name x pb) X.env) :: starEach [ec] X.env := by rfl) (hs2 : starEach (ec :: []) X.env = (false, eval ec X.env) :: starEach [] X.env := by rfl) (hpl : (backTo pa (starEach [ec] X.env)).any (·.1) = false := by rfl) :
    FS X W C κ κ (.If (.Call (.Name "isinstance" p) [.Name x pb, ec] [] pa) body [] pos) (sIfL i f) := by
  refine (ps_if (pt_val (pe_callB call_isi hg hm boot_isinstance (pa_cons (pe_var hN hv hd hcd) (pa_cons hc pa_nil hs2) hs1) (by decide) (by decide) hs1 hpl)) hb (fss_nil (X := X) (W := W) (C := C) (κ := κ))).imp fun D' σ H h => ?_
  obtain ⟨ρ, w, rfl, rel, post⟩ := h
  unfold sIfL at post
  have hl : i < κ.length := (List.getElem?_eq_some_iff.mp ht).1
  have hre : ∀ k2 : Kind, (κ.set i k2)[i]? = some k2 := fun k2 => List.getElem?_set_self hl
  have back : ∀ {ρ' σ' w'}, Rel X.K (κ.set i (.fix y (.lst (.v true)))) ρ' σ' w' → Rel X.K κ ρ' σ' w' := fun {ρ' σ' w'} r => by
    have z := rel_re (k2 := .fix y kOp) r (hre _) (fun v d g _ o => Or.inr (Or.inl o)) (fun u k' e => by cases e; exact r.fixed i _ _ (hre _))
    rw [List.set_set, set_same ht] at z
    exact z
  split at post
  · rename_i ds ed
    obtain ⟨v, g, ev, o, _⟩ := rel.slots.get ed ht
    refine ⟨v, ev, v, .ty "list", _, _, true, rfl, .ty "list", ty_op rel.same o, kit_ty (isi_list _), true, rfl, ?_⟩
    show tS (ctx X W) C _ _ f D' σ w.H
    refine ⟨ρ, w, rfl, rel_re rel ht (fun v' d' g' e o' => ?_) (fun u k' e => by cases e; exact rel.fixed i _ _ ht), ?_⟩
    · rw [ed] at e
      cases e
      rcases o' with o' | o' | o'
      · exact absurd rfl (o'.2 ds)
      · exact o'
      · obtain ⟨_, _, _, _, e2, _⟩ := o'
        cases e2
    · cases q : f ρ with
      | none => rw [q] at post; exact post
      | some fl =>
        rw [q] at post
        cases fl with
        | nx ρ' => exact fun σ' w' r e => post σ' w' (back r) e
        | ret d ρ' => exact post
        | bk ρ' => exact post
        | ct ρ' => exact post
        | err n d ρ' => exact fun cls dx σ' w' sm r e a => post cls dx σ' w' sm (fun κ' z => by rw [hke] at z; cases z) e a
  · rename_i d nl ed
    obtain ⟨v, g, ev, o, _⟩ := rel.slots.get ed ht
    have hf : isList d = false := by
      cases d with
      | list ds => exact absurd rfl (nl ds)
      | _ => rfl
    refine ⟨v, ev, v, .ty "list", _, _, false, rfl, .ty "list", ty_op rel.same o, by rw [← hf]; exact kit_ty (isi_list _), false, rfl, ?_⟩
    exact ⟨ρ, w, rfl, rel, post⟩
  · exact post.elim
end
end FN
set_option Elab.async false
set_option linter.all false
set_option maxRecDepth 100000
set_option maxHeartbeats 4000000
/-! FX7: a module's own errors, by name; what isinstance answers among them. -/
namespace FN
open PySem PySem.Spec PyProof.Rows L2
/-- the order of the classes: the error, the base, what is below ValueError -/
def MroE (K : PySem.W.Frag) (CS C : Addr) : Prop := ∃ cd, PySem.W.clsIn K C = some cd ∧ (cd.mro = .ref C :: .ref CS :: PySem.HandSPX.veTail ∨ (C = CS ∧ cd.mro = .ref C :: PySem.HandSPX.veTail))
structure ErA (P : Program) (K : PySem.W.Frag) (mg : Str → Option Value) (DE fI : Addr) (bs : Str) (CS : Addr) (L : List (Str × Addr)) : Prop where
  T : ErrTxt P K mg DE fI
  all : ∀ p ∈ L, mg p.1 = some (.ref p.2) ∧ ErrCls K DE fI p.2 ∧ XfC K p.2 ∧ ExcC K p.2 ∧ MroE K CS p.2
  base : (bs, CS) ∈ L
  nd : (L.map (·.2)).Nodup
def nmL (N : List Str) (n : Str) : Bool := decide (n ∈ N)
/-- bs: the base of them all -/
def selL (bs : Str) (N : List Str) (S n : Str) : Option Bool := if n ∈ N then some (decide (n = S ∨ S = bs)) else none
def selV (N : List Str) (n : Str) : Option Bool := if n ∈ N then some true else none
theorem pair_of {L : List (Str × Addr)} {N : List Str} {n : Str} (hN : L.map (·.1) = N) (h : n ∈ N) : ∃ C, (n, C) ∈ L := by
  rw [← hN] at h
  obtain ⟨p, hp, e⟩ := List.mem_map.mp h
  exact ⟨p.2, by rw [← e]; exact hp⟩
theorem nodup_snd {L : List (Str × Addr)} (h : (L.map (·.2)).Nodup) {n S : Str} {C : Addr} (h1 : (n, C) ∈ L) (h2 : (S, C) ∈ L) : n = S := by
  induction L with
  | nil => cases h1
  | cons p L ih =>
    rw [List.map_cons, List.nodup_cons] at h
    rcases List.mem_cons.mp h1 with e1 | m1
    · rcases List.mem_cons.mp h2 with e2 | m2
      · rw [← e1] at e2
        exact (Prod.mk.inj e2).1.symm
      · exact absurd (List.mem_map.mpr ⟨_, m2, by rw [← e1]⟩) h.1
    · rcases List.mem_cons.mp h2 with e2 | m2
      · exact absurd (List.mem_map.mpr ⟨_, m1, by rw [← e2]⟩) h.1
      · exact ih h.2 m1 m2
section
variable {P : Program} {K : PySem.W.Frag} {mg : Str → Option Value} {DE fI CS : Addr} {bs : Str} {L : List (Str × Addr)} {N : List Str}
theorem ErA.nm (E : ErA P K mg DE fI bs CS L) (hN : L.map (·.1) = N := by rfl) : NmOk K mg (nmL N) := by
  intro n hn C hm
  obtain ⟨C', h⟩ := pair_of hN (of_decide_eq_true hn)
  obtain ⟨m, c, x, e, r⟩ := E.all _ h
  rw [m] at hm
  cases hm
  exact ⟨x, c.no⟩
theorem kit_mro {C Cs : Addr} {b : Bool} (r : MroE K CS C) (r2 : MroE K CS Cs) (ty : PySem.W.typeIn K (.ref Cs) = some (.type "type")) (h : b = decide (Cs = C ∨ Cs = CS)) : PySem.W.kitOne K (.ref C) (.ref Cs) = some b := by
  obtain ⟨cd, hc, hm⟩ := r
  obtain ⟨cd2, hc2, _⟩ := r2
  unfold PySem.W.kitOne
  by_cases e : Cs = C
  · subst e
    rw [if_pos (beq_self_eq_true _), h]
    simp
  · have ne : ((Value.ref C) == (Value.ref Cs)) = false := by
      refine beq_eq_false_iff_ne.mpr fun z => e ?_
      cases z
      rfl
    rw [if_neg (by rw [ne]; exact Bool.false_ne_true)]
    show (if ((PySem.W.clsIn K Cs).isSome && PySem.W.typeIn K (.ref Cs) == some (.type "type")) = true then PySem.W.subIn K (.ref C) (.ref Cs) else none) = some b
    rw [hc2, ty, if_pos (by rw [Option.isSome_some, Bool.true_and]; exact beq_self_eq_true _)]
    show (PySem.W.clsIn K C).bind _ = some b
    rw [hc, Option.bind_some]
    have key : ∀ x y : Addr, ((Value.ref x) == (Value.ref y)) = decide (x = y) := fun x y => by
      by_cases z : x = y
      · subst z; simp
      · rw [decide_eq_false z]
        refine beq_eq_false_iff_ne.mpr fun q => z ?_
        cases q
        rfl
    have vt : (PySem.HandSPX.veTail).contains (Value.ref Cs) = false := by
      simp [PySem.HandSPX.veTail, List.contains_cons]
    rcases hm with hm | ⟨eC, hm⟩
    · rw [hm]
      show some ((Value.ref C :: Value.ref CS :: PySem.HandSPX.veTail).contains (.ref Cs)) = some b
      rw [List.contains_cons, List.contains_cons, vt, key, key, h]
      simp [e]
    · subst eC
      rw [hm]
      show some ((Value.ref C :: PySem.HandSPX.veTail).contains (.ref Cs)) = some b
      rw [List.contains_cons, vt, key, h]
      simp [e]
theorem ErA.sel (E : ErA P K mg DE fI bs CS L) {S : Str} {Cs : Addr} (hm : mg S = some (.ref Cs)) (hN : L.map (·.1) = N := by rfl) (hS : S ∈ N := by decide) : SelI K mg (.ref Cs) (selL bs N S) := by
  intro n b hs C hmC
  unfold selL at hs
  split at hs
  · rename_i hn
    cases hs
    obtain ⟨C', h⟩ := pair_of hN hn
    obtain ⟨Cs', h2⟩ := pair_of hN hS
    obtain ⟨m, c, x, e, r⟩ := E.all _ h
    obtain ⟨m2, c2, x2, e2, r2⟩ := E.all _ h2
    obtain ⟨mb, _⟩ := E.all _ E.base
    rw [m] at hmC
    cases hmC
    rw [m2] at hm
    cases hm
    refine ⟨e, kit_mro r r2 c2.oex.tyC ?_⟩
    refine decide_eq_decide.mpr ⟨fun z => ?_, fun z => ?_⟩
    · rcases z with z | z
      · subst z
        rw [m] at m2
        cases m2
        exact .inl rfl
      · subst z
        rw [m2] at mb
        cases mb
        exact .inr rfl
    · rcases z with z | z
      · dsimp only at z
        rw [z] at h2
        exact .inl (nodup_snd E.nd h h2)
      · dsimp only at z
        rw [z] at h2
        exact .inr (nodup_snd E.nd h2 E.base)
  · cases hs
theorem ErA.selv (E : ErA P K mg DE fI bs CS L) (hN : L.map (·.1) = N := by rfl) : SelI K mg (.type "ValueError") (selV N) := by
  intro n b hs C hmC
  unfold selV at hs
  split at hs
  · rename_i hn
    cases hs
    obtain ⟨C', h⟩ := pair_of hN hn
    obtain ⟨m, c, x, e, r⟩ := E.all _ h
    rw [m] at hmC
    cases hmC
    refine ⟨e, ?_⟩
    show (if PySem.W.kitMeta "ValueError" = true then PySem.W.subIn K (.ref C') (.type "ValueError") else none) = some true
    rw [if_pos (by decide +kernel)]
    exact c.subV
  · cases hs
end
theorem fss_clrE {X : Cx} {W : WX} {C : FC} {κ κ' κn : List Kind} {ss : List Stmt} {f : Env → Option Fl} (i : Nat) (k2 : Kind) (hn : nofix k2) (h : FSs X W C κ κn ss f) (he : κn.set i k2 = κ' := by rfl) : FSs X W C κ κ' ss (sClr i f) := by
  rw [← he]
  exact fss_clr i k2 hn h
theorem runF_ext {ks : List Kind} {o o' : Own} {n : Nat} {fb : Env → Option Fl} : runF ks (.ext o) n fb = runF ks (.ext o') n fb := by
  funext ρ
  unfold runF
  rfl
end FN
set_option Elab.async false
set_option linter.all false
set_option maxRecDepth 100000
set_option maxHeartbeats 4000000
/-! FX8: powers of larger numbers; what the new mirrors give (no program). -/
namespace FN
open PySem PySem.Spec PyProof.Rows L2
def CPowW (i j : Int) : Prop := 0 ≤ j ∧ j ≤ 1000 ∧ i.natAbs.log2 < 1000
theorem op_powW {X : Cx} : OpR X (binaryOp .Pow) (rI CPowW fun i j => .int (i ^ j.toNat)) := opI fun i j _ _ _ _ _ hc q => pow_int hc.1 (by
  have h : Builtin.Int.intBits i ≤ 1000 := by
    unfold Builtin.Int.intBits
    split
    · exact Nat.zero_le _
    · have := hc.2.2
      omega
  have h2 := hc.2.1
  have h0 := hc.1
  have h3 : (Builtin.Int.intBits i : Int) * j ≤ 1000 * 1000 := by
    refine Int.le_trans (Int.mul_le_mul_of_nonneg_right (c := j) (show (Builtin.Int.intBits i : Int) ≤ 1000 by omega) h0) ?_
    exact Int.mul_le_mul_of_nonneg_left h2 (by decide)
  omega) q
def dPowW : D → D → Option D := oI (fun i j => decide (0 ≤ j ∧ j ≤ 1000 ∧ i.natAbs.log2 < 1000)) fun i j => .int (i ^ j.toNat)
theorem s_powW {K : PySem.W.Frag} : Sc K (rI CPowW fun i j => .int (i ^ j.toNat)) dPowW := sc_I (fun i j h => (of_decide_eq_true h : 0 ≤ j ∧ j ≤ 1000 ∧ i.natAbs.log2 < 1000)) fun i j b F => .int _
theorem dPowW_ii {i j : Int} (h1 : 0 ≤ j) (h2 : j ≤ 1000) (h3 : i.natAbs.log2 < 1000) : dPowW (.int i) (.int j) = some (.int (i ^ j.toNat)) := by
  simp [dPowW, oI, h1, h2, h3]
section
variable {ρ : Env} {fa f : M D} {i t : Nat}
@[simp] theorem u_fOp : fOp fa ρ = bnd (fa ρ) Out.err fun d ρ1 => match d with
  | .list _ => none
  | d => some (.ok d ρ1) := (rfl)
@[simp] theorem u_fPick {mi : Md} {fr : M (List D)} {fi : M D} : fPick mi fr fi ρ = bnd (fr ρ) Out.err fun ds ρ1 => if ds.length ≤ 1000 then bnd (fi ρ1) Out.err fun di ρ2 => match rd mi di ρ2 with
  | some (.int i) => if 0 ≤ i then (ds[i.toNat]?).map fun d => .ok d ρ2 else none
  | _ => none
  else none := (rfl)
@[simp] theorem u_fTokR : fTokR i ρ = match ρ[i]? with
  | some (some _) => some (.ok (.dict []) ρ)
  | _ => none := (rfl)
@[simp] theorem u_fDer : fDer t f ρ = bnd (f ρ) Out.err fun _ ρ1 => match ρ1[t]? with
  | some (some d) => some (.ok d ρ1)
  | _ => none := (rfl)
@[simp] theorem u_fMk {n : Str} : fMk n fa ρ = bnd (fa ρ) Out.err fun _ ρ1 => some (.ok (.dict [(.str n, .none)]) ρ1) := (rfl)
@[simp] theorem u_fIsE {sel : Str → Option Bool} : fIsE i sel ρ = match ρ[i]? with
  | some (some (.dict [(.str n, .none)])) => (sel n).map fun b => .ok (.bool b) ρ
  | _ => none := (rfl)
@[simp] theorem u_fErv {nm : Str → Bool} : fErv i t nm ρ = match ρ[i]? with
  | some (some (.dict [(.str n, .none)])) => if nm n = true then match ρ[t]? with
    | some (some _) => some (.ok .none ρ)
    | _ => none
    else none
  | _ => none := (rfl)
@[simp] theorem u_fErvT {nm : Str → Bool} : fErvT t nm fa ρ = bnd (fa ρ) Out.err fun d ρ1 => match d with
  | .dict [(.str n, .none)] => if nm n = true then match ρ1[t]? with
    | some (some _) => some (.ok .none ρ1)
    | _ => none
    else none
  | _ => none := (rfl)
@[simp] theorem u_fRpNe : fRpNe t f ρ = bnd (f ρ) Out.err fun _ ρ1 => match ρ1[t]? with
  | some (some d) => if FXR.rpOk d = true then some (.ok false ρ1) else none
  | _ => none := (rfl)
@[simp] theorem u_sFix {g : Env → Option Fl} : sFix i g ρ = match ρ[i]? with
  | some (some _) => g ρ
  | _ => none := (rfl)
theorem u_sClr {g : Env → Option Fl} : sClr i g ρ = match g ρ with
  | some (.nx ρ') => some (.nx (ρ'.set i none))
  | o => o := (rfl)
theorem clr_nx {g : Env → Option Fl} {ρ' : Env} (h : g ρ = some (.nx ρ')) : sClr i g ρ = some (.nx (ρ'.set i none)) := by
  unfold sClr
  rw [h]
@[simp] theorem u_sIfL {g : Env → Option Fl} : sIfL i g ρ = match ρ[i]? with
  | some (some (.list _)) => g ρ
  | some (some _) => some (.nx ρ)
  | _ => none := (rfl)
end
end FN
set_option Elab.async false
set_option linter.all false
set_option maxRecDepth 100000
set_option maxHeartbeats 4000000
namespace K98
open PySem PySem.Spec PyProof.Rows L2 FN
def topS (i : Nat) : Stmt := PySem.Challenge.pw_choirstands_k98_errors_of_the_package.main.body.getD i (.Pass ⟨0, 0, 0, 0⟩)
structure Bt (mg : Str → Option Value) : Prop where
  «ValueError» : mg "ValueError" = none
  «all» : mg "all" = none
  «bool» : mg "bool" = none
  «int» : mg "int" = none
  «isinstance» : mg "isinstance" = none
  «len» : mg "len" = none
  «list» : mg "list" = none
  «max» : mg "max" = none
  «min» : mg "min" = none
  «range» : mg "range" = none
  «repr» : mg "repr" = none
  «str» : mg "str" = none
  «tuple» : mg "tuple" = none
structure Er (P : Program) (K : PySem.W.Frag) (mg : Str → Option Value) (DE fI C_StandError C_InvalidFrame C_InvalidTable C_InvalidRing C_NoTable C_InvalidCounts C_InvalidLine C_InvalidHeights C_InvalidBoard C_InvalidPlacing C_InvalidMove C_NoPlacing C_InvalidCosts C_InvalidPrices C_InvalidWeeks C_InvalidBenches C_InvalidPairs C_InvalidFractions C_InvalidGroups C_NoLine C_InvalidShares C_InvalidPromises C_InvalidWeights C_InvalidCuts C_InvalidNumber C_TooMany C_Nothing C_Unreadable C_InvalidCommand C_NotReady : Addr) : Prop where
  T : ErrTxt P K mg DE fI
  m_StandError : mg "StandError" = some (.ref C_StandError)
  m_InvalidFrame : mg "InvalidFrame" = some (.ref C_InvalidFrame)
  m_InvalidTable : mg "InvalidTable" = some (.ref C_InvalidTable)
  m_InvalidRing : mg "InvalidRing" = some (.ref C_InvalidRing)
  m_NoTable : mg "NoTable" = some (.ref C_NoTable)
  m_InvalidCounts : mg "InvalidCounts" = some (.ref C_InvalidCounts)
  m_InvalidLine : mg "InvalidLine" = some (.ref C_InvalidLine)
  m_InvalidHeights : mg "InvalidHeights" = some (.ref C_InvalidHeights)
  m_InvalidBoard : mg "InvalidBoard" = some (.ref C_InvalidBoard)
  m_InvalidPlacing : mg "InvalidPlacing" = some (.ref C_InvalidPlacing)
  m_InvalidMove : mg "InvalidMove" = some (.ref C_InvalidMove)
  m_NoPlacing : mg "NoPlacing" = some (.ref C_NoPlacing)
  m_InvalidCosts : mg "InvalidCosts" = some (.ref C_InvalidCosts)
  m_InvalidPrices : mg "InvalidPrices" = some (.ref C_InvalidPrices)
  m_InvalidWeeks : mg "InvalidWeeks" = some (.ref C_InvalidWeeks)
  m_InvalidBenches : mg "InvalidBenches" = some (.ref C_InvalidBenches)
  m_InvalidPairs : mg "InvalidPairs" = some (.ref C_InvalidPairs)
  m_InvalidFractions : mg "InvalidFractions" = some (.ref C_InvalidFractions)
  m_InvalidGroups : mg "InvalidGroups" = some (.ref C_InvalidGroups)
  m_NoLine : mg "NoLine" = some (.ref C_NoLine)
  m_InvalidShares : mg "InvalidShares" = some (.ref C_InvalidShares)
  m_InvalidPromises : mg "InvalidPromises" = some (.ref C_InvalidPromises)
  m_InvalidWeights : mg "InvalidWeights" = some (.ref C_InvalidWeights)
  m_InvalidCuts : mg "InvalidCuts" = some (.ref C_InvalidCuts)
  m_InvalidNumber : mg "InvalidNumber" = some (.ref C_InvalidNumber)
  m_TooMany : mg "TooMany" = some (.ref C_TooMany)
  m_Nothing : mg "Nothing" = some (.ref C_Nothing)
  m_Unreadable : mg "Unreadable" = some (.ref C_Unreadable)
  m_InvalidCommand : mg "InvalidCommand" = some (.ref C_InvalidCommand)
  m_NotReady : mg "NotReady" = some (.ref C_NotReady)
  c_InvalidBenches : ErrCls K DE fI C_InvalidBenches
  x_InvalidBenches : XfC K C_InvalidBenches
  e_InvalidBenches : ExcC K C_InvalidBenches
  k_InvalidBenches : PySem.W.kitOne K (.ref C_InvalidBenches) (.ref C_StandError) = some true
  c_InvalidBoard : ErrCls K DE fI C_InvalidBoard
  x_InvalidBoard : XfC K C_InvalidBoard
  e_InvalidBoard : ExcC K C_InvalidBoard
  k_InvalidBoard : PySem.W.kitOne K (.ref C_InvalidBoard) (.ref C_StandError) = some true
  c_InvalidCommand : ErrCls K DE fI C_InvalidCommand
  x_InvalidCommand : XfC K C_InvalidCommand
  e_InvalidCommand : ExcC K C_InvalidCommand
  k_InvalidCommand : PySem.W.kitOne K (.ref C_InvalidCommand) (.ref C_StandError) = some true
  c_InvalidCosts : ErrCls K DE fI C_InvalidCosts
  x_InvalidCosts : XfC K C_InvalidCosts
  e_InvalidCosts : ExcC K C_InvalidCosts
  k_InvalidCosts : PySem.W.kitOne K (.ref C_InvalidCosts) (.ref C_StandError) = some true
  c_InvalidCounts : ErrCls K DE fI C_InvalidCounts
  x_InvalidCounts : XfC K C_InvalidCounts
  e_InvalidCounts : ExcC K C_InvalidCounts
  k_InvalidCounts : PySem.W.kitOne K (.ref C_InvalidCounts) (.ref C_StandError) = some true
  c_InvalidCuts : ErrCls K DE fI C_InvalidCuts
  x_InvalidCuts : XfC K C_InvalidCuts
  e_InvalidCuts : ExcC K C_InvalidCuts
  k_InvalidCuts : PySem.W.kitOne K (.ref C_InvalidCuts) (.ref C_StandError) = some true
  c_InvalidFractions : ErrCls K DE fI C_InvalidFractions
  x_InvalidFractions : XfC K C_InvalidFractions
  e_InvalidFractions : ExcC K C_InvalidFractions
  k_InvalidFractions : PySem.W.kitOne K (.ref C_InvalidFractions) (.ref C_StandError) = some true
  c_InvalidFrame : ErrCls K DE fI C_InvalidFrame
  x_InvalidFrame : XfC K C_InvalidFrame
  e_InvalidFrame : ExcC K C_InvalidFrame
  k_InvalidFrame : PySem.W.kitOne K (.ref C_InvalidFrame) (.ref C_StandError) = some true
  c_InvalidGroups : ErrCls K DE fI C_InvalidGroups
  x_InvalidGroups : XfC K C_InvalidGroups
  e_InvalidGroups : ExcC K C_InvalidGroups
  k_InvalidGroups : PySem.W.kitOne K (.ref C_InvalidGroups) (.ref C_StandError) = some true
  c_InvalidHeights : ErrCls K DE fI C_InvalidHeights
  x_InvalidHeights : XfC K C_InvalidHeights
  e_InvalidHeights : ExcC K C_InvalidHeights
  k_InvalidHeights : PySem.W.kitOne K (.ref C_InvalidHeights) (.ref C_StandError) = some true
  c_InvalidLine : ErrCls K DE fI C_InvalidLine
  x_InvalidLine : XfC K C_InvalidLine
  e_InvalidLine : ExcC K C_InvalidLine
  k_InvalidLine : PySem.W.kitOne K (.ref C_InvalidLine) (.ref C_StandError) = some true
  c_InvalidMove : ErrCls K DE fI C_InvalidMove
  x_InvalidMove : XfC K C_InvalidMove
  e_InvalidMove : ExcC K C_InvalidMove
  k_InvalidMove : PySem.W.kitOne K (.ref C_InvalidMove) (.ref C_StandError) = some true
  c_InvalidNumber : ErrCls K DE fI C_InvalidNumber
  x_InvalidNumber : XfC K C_InvalidNumber
  e_InvalidNumber : ExcC K C_InvalidNumber
  k_InvalidNumber : PySem.W.kitOne K (.ref C_InvalidNumber) (.ref C_StandError) = some true
  h_InvalidNumber_InvalidNumber : PySem.W.exmOne K (.ref C_InvalidNumber) (.ref C_InvalidNumber) = some true
  h_InvalidNumber_StandError : PySem.W.exmOne K (.ref C_InvalidNumber) (.ref C_StandError) = some true
  c_InvalidPairs : ErrCls K DE fI C_InvalidPairs
  x_InvalidPairs : XfC K C_InvalidPairs
  e_InvalidPairs : ExcC K C_InvalidPairs
  k_InvalidPairs : PySem.W.kitOne K (.ref C_InvalidPairs) (.ref C_StandError) = some true
  c_InvalidPlacing : ErrCls K DE fI C_InvalidPlacing
  x_InvalidPlacing : XfC K C_InvalidPlacing
  e_InvalidPlacing : ExcC K C_InvalidPlacing
  k_InvalidPlacing : PySem.W.kitOne K (.ref C_InvalidPlacing) (.ref C_StandError) = some true
  c_InvalidPrices : ErrCls K DE fI C_InvalidPrices
  x_InvalidPrices : XfC K C_InvalidPrices
  e_InvalidPrices : ExcC K C_InvalidPrices
  k_InvalidPrices : PySem.W.kitOne K (.ref C_InvalidPrices) (.ref C_StandError) = some true
  c_InvalidPromises : ErrCls K DE fI C_InvalidPromises
  x_InvalidPromises : XfC K C_InvalidPromises
  e_InvalidPromises : ExcC K C_InvalidPromises
  k_InvalidPromises : PySem.W.kitOne K (.ref C_InvalidPromises) (.ref C_StandError) = some true
  c_InvalidRing : ErrCls K DE fI C_InvalidRing
  x_InvalidRing : XfC K C_InvalidRing
  e_InvalidRing : ExcC K C_InvalidRing
  k_InvalidRing : PySem.W.kitOne K (.ref C_InvalidRing) (.ref C_StandError) = some true
  c_InvalidShares : ErrCls K DE fI C_InvalidShares
  x_InvalidShares : XfC K C_InvalidShares
  e_InvalidShares : ExcC K C_InvalidShares
  k_InvalidShares : PySem.W.kitOne K (.ref C_InvalidShares) (.ref C_StandError) = some true
  c_InvalidTable : ErrCls K DE fI C_InvalidTable
  x_InvalidTable : XfC K C_InvalidTable
  e_InvalidTable : ExcC K C_InvalidTable
  k_InvalidTable : PySem.W.kitOne K (.ref C_InvalidTable) (.ref C_StandError) = some true
  c_InvalidWeeks : ErrCls K DE fI C_InvalidWeeks
  x_InvalidWeeks : XfC K C_InvalidWeeks
  e_InvalidWeeks : ExcC K C_InvalidWeeks
  k_InvalidWeeks : PySem.W.kitOne K (.ref C_InvalidWeeks) (.ref C_StandError) = some true
  c_InvalidWeights : ErrCls K DE fI C_InvalidWeights
  x_InvalidWeights : XfC K C_InvalidWeights
  e_InvalidWeights : ExcC K C_InvalidWeights
  k_InvalidWeights : PySem.W.kitOne K (.ref C_InvalidWeights) (.ref C_StandError) = some true
  c_NoLine : ErrCls K DE fI C_NoLine
  x_NoLine : XfC K C_NoLine
  e_NoLine : ExcC K C_NoLine
  k_NoLine : PySem.W.kitOne K (.ref C_NoLine) (.ref C_StandError) = some true
  h_NoLine_InvalidNumber : PySem.W.exmOne K (.ref C_NoLine) (.ref C_InvalidNumber) = some false
  h_NoLine_StandError : PySem.W.exmOne K (.ref C_NoLine) (.ref C_StandError) = some true
  c_NoPlacing : ErrCls K DE fI C_NoPlacing
  x_NoPlacing : XfC K C_NoPlacing
  e_NoPlacing : ExcC K C_NoPlacing
  k_NoPlacing : PySem.W.kitOne K (.ref C_NoPlacing) (.ref C_StandError) = some true
  c_NoTable : ErrCls K DE fI C_NoTable
  x_NoTable : XfC K C_NoTable
  e_NoTable : ExcC K C_NoTable
  k_NoTable : PySem.W.kitOne K (.ref C_NoTable) (.ref C_StandError) = some true
  c_NotReady : ErrCls K DE fI C_NotReady
  x_NotReady : XfC K C_NotReady
  e_NotReady : ExcC K C_NotReady
  k_NotReady : PySem.W.kitOne K (.ref C_NotReady) (.ref C_StandError) = some true
  c_Nothing : ErrCls K DE fI C_Nothing
  x_Nothing : XfC K C_Nothing
  e_Nothing : ExcC K C_Nothing
  k_Nothing : PySem.W.kitOne K (.ref C_Nothing) (.ref C_StandError) = some true
  c_StandError : ErrCls K DE fI C_StandError
  x_StandError : XfC K C_StandError
  e_StandError : ExcC K C_StandError
  k_StandError : PySem.W.kitOne K (.ref C_StandError) (.ref C_StandError) = some true
  c_TooMany : ErrCls K DE fI C_TooMany
  x_TooMany : XfC K C_TooMany
  e_TooMany : ExcC K C_TooMany
  k_TooMany : PySem.W.kitOne K (.ref C_TooMany) (.ref C_StandError) = some true
  c_Unreadable : ErrCls K DE fI C_Unreadable
  x_Unreadable : XfC K C_Unreadable
  e_Unreadable : ExcC K C_Unreadable
  k_Unreadable : PySem.W.kitOne K (.ref C_Unreadable) (.ref C_StandError) = some true
  r_InvalidBenches : MroE K C_StandError C_InvalidBenches
  r_InvalidBoard : MroE K C_StandError C_InvalidBoard
  r_InvalidCommand : MroE K C_StandError C_InvalidCommand
  r_InvalidCosts : MroE K C_StandError C_InvalidCosts
  r_InvalidCounts : MroE K C_StandError C_InvalidCounts
  r_InvalidCuts : MroE K C_StandError C_InvalidCuts
  r_InvalidFractions : MroE K C_StandError C_InvalidFractions
  r_InvalidFrame : MroE K C_StandError C_InvalidFrame
  r_InvalidGroups : MroE K C_StandError C_InvalidGroups
  r_InvalidHeights : MroE K C_StandError C_InvalidHeights
  r_InvalidLine : MroE K C_StandError C_InvalidLine
  r_InvalidMove : MroE K C_StandError C_InvalidMove
  r_InvalidNumber : MroE K C_StandError C_InvalidNumber
  r_InvalidPairs : MroE K C_StandError C_InvalidPairs
  r_InvalidPlacing : MroE K C_StandError C_InvalidPlacing
  r_InvalidPrices : MroE K C_StandError C_InvalidPrices
  r_InvalidPromises : MroE K C_StandError C_InvalidPromises
  r_InvalidRing : MroE K C_StandError C_InvalidRing
  r_InvalidShares : MroE K C_StandError C_InvalidShares
  r_InvalidTable : MroE K C_StandError C_InvalidTable
  r_InvalidWeeks : MroE K C_StandError C_InvalidWeeks
  r_InvalidWeights : MroE K C_StandError C_InvalidWeights
  r_NoLine : MroE K C_StandError C_NoLine
  r_NoPlacing : MroE K C_StandError C_NoPlacing
  r_NoTable : MroE K C_StandError C_NoTable
  r_NotReady : MroE K C_StandError C_NotReady
  r_Nothing : MroE K C_StandError C_Nothing
  r_StandError : MroE K C_StandError C_StandError
  r_TooMany : MroE K C_StandError C_TooMany
  r_Unreadable : MroE K C_StandError C_Unreadable
  nd : ([C_StandError, C_InvalidFrame, C_InvalidTable, C_InvalidRing, C_NoTable, C_InvalidCounts, C_InvalidLine, C_InvalidHeights, C_InvalidBoard, C_InvalidPlacing, C_InvalidMove, C_NoPlacing, C_InvalidCosts, C_InvalidPrices, C_InvalidWeeks, C_InvalidBenches, C_InvalidPairs, C_InvalidFractions, C_InvalidGroups, C_NoLine, C_InvalidShares, C_InvalidPromises, C_InvalidWeights, C_InvalidCuts, C_InvalidNumber, C_TooMany, C_Nothing, C_Unreadable, C_InvalidCommand, C_NotReady] : List Addr).Nodup
abbrev ern : List Str := ["StandError", "InvalidFrame", "InvalidTable", "InvalidRing", "NoTable", "InvalidCounts", "InvalidLine", "InvalidHeights", "InvalidBoard", "InvalidPlacing", "InvalidMove", "NoPlacing", "InvalidCosts", "InvalidPrices", "InvalidWeeks", "InvalidBenches", "InvalidPairs", "InvalidFractions", "InvalidGroups", "NoLine", "InvalidShares", "InvalidPromises", "InvalidWeights", "InvalidCuts", "InvalidNumber", "TooMany", "Nothing", "Unreadable", "InvalidCommand", "NotReady"]
theorem erA {P : Program} {K : PySem.W.Frag} {mg : Str → Option Value} {DE fI C_StandError C_InvalidFrame C_InvalidTable C_InvalidRing C_NoTable C_InvalidCounts C_InvalidLine C_InvalidHeights C_InvalidBoard C_InvalidPlacing C_InvalidMove C_NoPlacing C_InvalidCosts C_InvalidPrices C_InvalidWeeks C_InvalidBenches C_InvalidPairs C_InvalidFractions C_InvalidGroups C_NoLine C_InvalidShares C_InvalidPromises C_InvalidWeights C_InvalidCuts C_InvalidNumber C_TooMany C_Nothing C_Unreadable C_InvalidCommand C_NotReady : Addr} (ER : Er P K mg DE fI C_StandError C_InvalidFrame C_InvalidTable C_InvalidRing C_NoTable C_InvalidCounts C_InvalidLine C_InvalidHeights C_InvalidBoard C_InvalidPlacing C_InvalidMove C_NoPlacing C_InvalidCosts C_InvalidPrices C_InvalidWeeks C_InvalidBenches C_InvalidPairs C_InvalidFractions C_InvalidGroups C_NoLine C_InvalidShares C_InvalidPromises C_InvalidWeights C_InvalidCuts C_InvalidNumber C_TooMany C_Nothing C_Unreadable C_InvalidCommand C_NotReady) : ErA P K mg DE fI "StandError" C_StandError [("StandError", C_StandError), ("InvalidFrame", C_InvalidFrame), ("InvalidTable", C_InvalidTable), ("InvalidRing", C_InvalidRing), ("NoTable", C_NoTable), ("InvalidCounts", C_InvalidCounts), ("InvalidLine", C_InvalidLine), ("InvalidHeights", C_InvalidHeights), ("InvalidBoard", C_InvalidBoard), ("InvalidPlacing", C_InvalidPlacing), ("InvalidMove", C_InvalidMove), ("NoPlacing", C_NoPlacing), ("InvalidCosts", C_InvalidCosts), ("InvalidPrices", C_InvalidPrices), ("InvalidWeeks", C_InvalidWeeks), ("InvalidBenches", C_InvalidBenches), ("InvalidPairs", C_InvalidPairs), ("InvalidFractions", C_InvalidFractions), ("InvalidGroups", C_InvalidGroups), ("NoLine", C_NoLine), ("InvalidShares", C_InvalidShares), ("InvalidPromises", C_InvalidPromises), ("InvalidWeights", C_InvalidWeights), ("InvalidCuts", C_InvalidCuts), ("InvalidNumber", C_InvalidNumber), ("TooMany", C_TooMany), ("Nothing", C_Nothing), ("Unreadable", C_Unreadable), ("InvalidCommand", C_InvalidCommand), ("NotReady", C_NotReady)] :=
  ⟨ER.T, List.forall_mem_cons.mpr ⟨⟨ER.m_StandError, ER.c_StandError, ER.x_StandError, ER.e_StandError, ER.r_StandError⟩, List.forall_mem_cons.mpr ⟨⟨ER.m_InvalidFrame, ER.c_InvalidFrame, ER.x_InvalidFrame, ER.e_InvalidFrame, ER.r_InvalidFrame⟩, List.forall_mem_cons.mpr ⟨⟨ER.m_InvalidTable, ER.c_InvalidTable, ER.x_InvalidTable, ER.e_InvalidTable, ER.r_InvalidTable⟩, List.forall_mem_cons.mpr ⟨⟨ER.m_InvalidRing, ER.c_InvalidRing, ER.x_InvalidRing, ER.e_InvalidRing, ER.r_InvalidRing⟩, List.forall_mem_cons.mpr ⟨⟨ER.m_NoTable, ER.c_NoTable, ER.x_NoTable, ER.e_NoTable, ER.r_NoTable⟩, List.forall_mem_cons.mpr ⟨⟨ER.m_InvalidCounts, ER.c_InvalidCounts, ER.x_InvalidCounts, ER.e_InvalidCounts, ER.r_InvalidCounts⟩, List.forall_mem_cons.mpr ⟨⟨ER.m_InvalidLine, ER.c_InvalidLine, ER.x_InvalidLine, ER.e_InvalidLine, ER.r_InvalidLine⟩, List.forall_mem_cons.mpr ⟨⟨ER.m_InvalidHeights, ER.c_InvalidHeights, ER.x_InvalidHeights, ER.e_InvalidHeights, ER.r_InvalidHeights⟩, List.forall_mem_cons.mpr ⟨⟨ER.m_InvalidBoard, ER.c_InvalidBoard, ER.x_InvalidBoard, ER.e_InvalidBoard, ER.r_InvalidBoard⟩, List.forall_mem_cons.mpr ⟨⟨ER.m_InvalidPlacing, ER.c_InvalidPlacing, ER.x_InvalidPlacing, ER.e_InvalidPlacing, ER.r_InvalidPlacing⟩, List.forall_mem_cons.mpr ⟨⟨ER.m_InvalidMove, ER.c_InvalidMove, ER.x_InvalidMove, ER.e_InvalidMove, ER.r_InvalidMove⟩, List.forall_mem_cons.mpr ⟨⟨ER.m_NoPlacing, ER.c_NoPlacing, ER.x_NoPlacing, ER.e_NoPlacing, ER.r_NoPlacing⟩, List.forall_mem_cons.mpr ⟨⟨ER.m_InvalidCosts, ER.c_InvalidCosts, ER.x_InvalidCosts, ER.e_InvalidCosts, ER.r_InvalidCosts⟩, List.forall_mem_cons.mpr ⟨⟨ER.m_InvalidPrices, ER.c_InvalidPrices, ER.x_InvalidPrices, ER.e_InvalidPrices, ER.r_InvalidPrices⟩, List.forall_mem_cons.mpr ⟨⟨ER.m_InvalidWeeks, ER.c_InvalidWeeks, ER.x_InvalidWeeks, ER.e_InvalidWeeks, ER.r_InvalidWeeks⟩, List.forall_mem_cons.mpr ⟨⟨ER.m_InvalidBenches, ER.c_InvalidBenches, ER.x_InvalidBenches, ER.e_InvalidBenches, ER.r_InvalidBenches⟩, List.forall_mem_cons.mpr ⟨⟨ER.m_InvalidPairs, ER.c_InvalidPairs, ER.x_InvalidPairs, ER.e_InvalidPairs, ER.r_InvalidPairs⟩, List.forall_mem_cons.mpr ⟨⟨ER.m_InvalidFractions, ER.c_InvalidFractions, ER.x_InvalidFractions, ER.e_InvalidFractions, ER.r_InvalidFractions⟩, List.forall_mem_cons.mpr ⟨⟨ER.m_InvalidGroups, ER.c_InvalidGroups, ER.x_InvalidGroups, ER.e_InvalidGroups, ER.r_InvalidGroups⟩, List.forall_mem_cons.mpr ⟨⟨ER.m_NoLine, ER.c_NoLine, ER.x_NoLine, ER.e_NoLine, ER.r_NoLine⟩, List.forall_mem_cons.mpr ⟨⟨ER.m_InvalidShares, ER.c_InvalidShares, ER.x_InvalidShares, ER.e_InvalidShares, ER.r_InvalidShares⟩, List.forall_mem_cons.mpr ⟨⟨ER.m_InvalidPromises, ER.c_InvalidPromises, ER.x_InvalidPromises, ER.e_InvalidPromises, ER.r_InvalidPromises⟩, List.forall_mem_cons.mpr ⟨⟨ER.m_InvalidWeights, ER.c_InvalidWeights, ER.x_InvalidWeights, ER.e_InvalidWeights, ER.r_InvalidWeights⟩, List.forall_mem_cons.mpr ⟨⟨ER.m_InvalidCuts, ER.c_InvalidCuts, ER.x_InvalidCuts, ER.e_InvalidCuts, ER.r_InvalidCuts⟩, List.forall_mem_cons.mpr ⟨⟨ER.m_InvalidNumber, ER.c_InvalidNumber, ER.x_InvalidNumber, ER.e_InvalidNumber, ER.r_InvalidNumber⟩, List.forall_mem_cons.mpr ⟨⟨ER.m_TooMany, ER.c_TooMany, ER.x_TooMany, ER.e_TooMany, ER.r_TooMany⟩, List.forall_mem_cons.mpr ⟨⟨ER.m_Nothing, ER.c_Nothing, ER.x_Nothing, ER.e_Nothing, ER.r_Nothing⟩, List.forall_mem_cons.mpr ⟨⟨ER.m_Unreadable, ER.c_Unreadable, ER.x_Unreadable, ER.e_Unreadable, ER.r_Unreadable⟩, List.forall_mem_cons.mpr ⟨⟨ER.m_InvalidCommand, ER.c_InvalidCommand, ER.x_InvalidCommand, ER.e_InvalidCommand, ER.r_InvalidCommand⟩, List.forall_mem_cons.mpr ⟨⟨ER.m_NotReady, ER.c_NotReady, ER.x_NotReady, ER.e_NotReady, ER.r_NotReady⟩, fun _ h => absurd h List.not_mem_nil⟩⟩⟩⟩⟩⟩⟩⟩⟩⟩⟩⟩⟩⟩⟩⟩⟩⟩⟩⟩⟩⟩⟩⟩⟩⟩⟩⟩⟩⟩, List.mem_cons_self, ER.nd⟩
def sel_InvalidNumber (n : Str) : Option Bool := if n = "InvalidNumber" then some true else if n = "NoLine" then some false else none
theorem selk_InvalidNumber {P : Program} {K : PySem.W.Frag} {mg : Str → Option Value} {DE fI C_StandError C_InvalidFrame C_InvalidTable C_InvalidRing C_NoTable C_InvalidCounts C_InvalidLine C_InvalidHeights C_InvalidBoard C_InvalidPlacing C_InvalidMove C_NoPlacing C_InvalidCosts C_InvalidPrices C_InvalidWeeks C_InvalidBenches C_InvalidPairs C_InvalidFractions C_InvalidGroups C_NoLine C_InvalidShares C_InvalidPromises C_InvalidWeights C_InvalidCuts C_InvalidNumber C_TooMany C_Nothing C_Unreadable C_InvalidCommand C_NotReady : Addr} (ER : Er P K mg DE fI C_StandError C_InvalidFrame C_InvalidTable C_InvalidRing C_NoTable C_InvalidCounts C_InvalidLine C_InvalidHeights C_InvalidBoard C_InvalidPlacing C_InvalidMove C_NoPlacing C_InvalidCosts C_InvalidPrices C_InvalidWeeks C_InvalidBenches C_InvalidPairs C_InvalidFractions C_InvalidGroups C_NoLine C_InvalidShares C_InvalidPromises C_InvalidWeights C_InvalidCuts C_InvalidNumber C_TooMany C_Nothing C_Unreadable C_InvalidCommand C_NotReady) : Sel K mg (.ref C_InvalidNumber) (RE K C_StandError) sel_InvalidNumber := by
  intro n b h Ca hm
  unfold sel_InvalidNumber at h
  split at h
  · rename_i e
    subst e
    rw [ER.m_InvalidNumber] at hm
    cases hm
    cases h
    exact ⟨ER.x_InvalidNumber, ER.c_InvalidNumber.no, ER.h_InvalidNumber_InvalidNumber, ER.e_InvalidNumber, ER.k_InvalidNumber⟩
  split at h
  · rename_i e
    subst e
    rw [ER.m_NoLine] at hm
    cases hm
    cases h
    exact ⟨ER.x_NoLine, ER.c_NoLine.no, ER.h_NoLine_InvalidNumber, ER.e_NoLine, ER.k_NoLine⟩
  cases h
def sel_StandError (n : Str) : Option Bool := if n = "InvalidNumber" then some true else if n = "NoLine" then some true else none
theorem selk_StandError {P : Program} {K : PySem.W.Frag} {mg : Str → Option Value} {DE fI C_StandError C_InvalidFrame C_InvalidTable C_InvalidRing C_NoTable C_InvalidCounts C_InvalidLine C_InvalidHeights C_InvalidBoard C_InvalidPlacing C_InvalidMove C_NoPlacing C_InvalidCosts C_InvalidPrices C_InvalidWeeks C_InvalidBenches C_InvalidPairs C_InvalidFractions C_InvalidGroups C_NoLine C_InvalidShares C_InvalidPromises C_InvalidWeights C_InvalidCuts C_InvalidNumber C_TooMany C_Nothing C_Unreadable C_InvalidCommand C_NotReady : Addr} (ER : Er P K mg DE fI C_StandError C_InvalidFrame C_InvalidTable C_InvalidRing C_NoTable C_InvalidCounts C_InvalidLine C_InvalidHeights C_InvalidBoard C_InvalidPlacing C_InvalidMove C_NoPlacing C_InvalidCosts C_InvalidPrices C_InvalidWeeks C_InvalidBenches C_InvalidPairs C_InvalidFractions C_InvalidGroups C_NoLine C_InvalidShares C_InvalidPromises C_InvalidWeights C_InvalidCuts C_InvalidNumber C_TooMany C_Nothing C_Unreadable C_InvalidCommand C_NotReady) : Sel K mg (.ref C_StandError) (RE K C_StandError) sel_StandError := by
  intro n b h Ca hm
  unfold sel_StandError at h
  split at h
  · rename_i e
    subst e
    rw [ER.m_InvalidNumber] at hm
    cases hm
    cases h
    exact ⟨ER.x_InvalidNumber, ER.c_InvalidNumber.no, ER.h_InvalidNumber_StandError, ER.e_InvalidNumber, ER.k_InvalidNumber⟩
  split at h
  · rename_i e
    subst e
    rw [ER.m_NoLine] at hm
    cases hm
    cases h
    exact ⟨ER.x_NoLine, ER.c_NoLine.no, ER.h_NoLine_StandError, ER.e_NoLine, ER.k_NoLine⟩
  cases h
section
variable {P : Program} {w : World} {K : PySem.W.Frag} {mg : Str → Option Value} {base : Heap} {DE fI C_StandError C_InvalidFrame C_InvalidTable C_InvalidRing C_NoTable C_InvalidCounts C_InvalidLine C_InvalidHeights C_InvalidBoard C_InvalidPlacing C_InvalidMove C_NoPlacing C_InvalidCosts C_InvalidPrices C_InvalidWeeks C_InvalidBenches C_InvalidPairs C_InvalidFractions C_InvalidGroups C_NoLine C_InvalidShares C_InvalidPromises C_InvalidWeights C_InvalidCuts C_InvalidNumber C_TooMany C_Nothing C_Unreadable C_InvalidCommand C_NotReady : Addr}
abbrev s_L_well : Stmt := topS 32
abbrev N_L_well : List Str := ["script", "k", "cell", "whole", "part"]
theorem sc_L_well : FnScope N_L_well ["script", "k"] (defScope s_L_well) := ⟨rfl, rfl, rfl, by decide +kernel, rfl, by decide +kernel, by decide +kernel⟩
noncomputable def b_L_well : FN.Env → Option Fl :=
  (sSeq (sSet 2 (fIf (fTst (f2 (.t (.v true)) (.t (.v true)) dLt (fVar 1) (f1 (.r 0) dLen (fRef 0)))) (f2 (.t (.v true)) (.t (.v true)) dMod (f1 (.t (.v true)) dInt (f2 (.r 0) (.t (.v true)) dIx (fRef 0) (fVar 1))) (f2 (.t (.v true)) (.t (.v true)) dPow (fC (.int 10)) (fC (.int 60)))) (f2 (.t (.v true)) (.t (.v true)) dAdd (f2 (.t (.v true)) (.t (.v true)) dMul (fC (.int 53)) (fVar 1)) (fC (.int 11)))))
  (sSeq (sSet 3 (f2 (.t (.v true)) (.t (.v true)) dAdd (fC (.int 17)) (f1 (.r 0) dLen (fRef 0))))
  (sSeq (sFor (iSeq (f3 (.r 0) (fRef 0) oNone (oSome (fC (.int 63))))) (gNm 4)
  (sSet 3 (f2 (.t (.v true)) (.t (.v true)) dMod (f1 (.t (.v true)) dInt (f2 (.t (.v true)) (.t (.v true)) dAdd (f2 (.t (.v true)) (.t (.v true)) dMul (fVar 3) (fC (.int 6700417))) (f2 (.t (.v true)) (.t (.v true)) dMod (f1 (.t (.v true)) dInt (fVar 4)) (f2 (.t (.v true)) (.t (.v true)) dAdd (f2 (.t (.v true)) (.t (.v true)) dPow (fC (.int 10)) (fC (.int 20))) (fC (.int 39)))))) (f2 (.t (.v true)) (.t (.v true)) dAdd (f2 (.t (.v true)) (.t (.v true)) dPow (fC (.int 10)) (fC (.int 24))) (fC (.int 7))))))
  (sRet (fLst (aCons (f2 (.t (.v true)) (.t (.v true)) dMax2 (fC (.int 0)) (f2 (.t (.v true)) (.t (.v true)) dSub (fVar 2) (f2 (.t (.v true)) (.t (.v true)) dPow (fC (.int 10)) (fC (.int 18))))) (aCons (f2 (.t (.v true)) (.t (.v true)) dMod (f1 (.t (.v true)) dInt (f2 (.t (.v true)) (.t (.v true)) dAdd (f2 (.t (.v true)) (.t (.v true)) dAdd (f2 (.t (.v true)) (.t (.v true)) dMul (fVar 2) (fC (.int 40014))) (f2 (.t (.v true)) (.t (.v true)) dMul (fVar 3) (fC (.int 7)))) (f2 (.t (.v true)) (.t (.v true)) dMul (fC (.int 97)) (fVar 1)))) (f2 (.t (.v true)) (.t (.v true)) dAdd (f2 (.t (.v true)) (.t (.v true)) dPow (fC (.int 10)) (fC (.int 26))) (fC (.int 67)))) (aCons (fC (.int 0)) aNil))))))))
noncomputable def m_L_well : M D := runF [.scr, (.v true)] (.lst (.v true)) 3 b_L_well
theorem ok_L_well (B : Bt mg) (a : At K mg "_law_well" s_L_well ["script", "k"])  : Kn P w K mg base CX0 1 "_law_well" ["script", "k"] (spF K mg [.scr, (.v true)] (.lst (.v true)) (noErr m_L_well)) := by
  refine fn_ok0 (κl := [(.v true), (.v true), (.v true)]) a sc_L_well rfl ⟨True.intro, True.intro, True.intro⟩ ⟨True.intro, True.intro, True.intro, True.intro⟩ rfl fun f cdv A outer s H vs E hv hr => ?_
  match vs, hv with
  | [v0, v1], _ =>
  refine ⟨[.fix v0 .scr, (.v true), (.v true), (.v true), (.v true)], (RetK.own rfl (RetK.oth rfl RetK.nil)), ?_⟩
  show FSs _ _ _ [.fix v0 .scr, (.v true), (.v true), (.v true), (.v true)] _ _ _
  exact (fss_cons (fs_setK (i := 2) (fe_if (ft_cmp op_lt s_lt (fe_var 1) (fe_len (by exact rfl) B.len (fe_ref 0)) (nomark _)) (fe_op op_mod s_mod (fe_int1 (by exact rfl) B.int (fe_ixS (fe_ref 0) (fe_var 1))) (fe_op op_pow s_pow fe_int fe_int)) (fe_add (fe_mul fe_int (fe_var 1)) fe_int)) sc_L_well.nd)
    (fss_cons (fs_setK (i := 3) (fe_add fe_int (fe_len (by exact rfl) B.len (fe_ref 0))) sc_L_well.nd)
    (fss_cons (fs_for PassesOwn.never rfl (fi_seq (fe_slS (fe_ref 0) fo_none (fo_some (k := true) fe_int))) (fg_nameK (i := 4) sc_L_well.nd)
    (fss_one (fs_setK (i := 3) (fe_op op_mod s_mod (fe_int1 (by exact rfl) B.int (fe_add (fe_mul (fe_var 3) fe_int) (fe_op op_mod s_mod (fe_int1 (by exact rfl) B.int (fe_var 4)) (fe_add (fe_op op_pow s_pow fe_int fe_int) fe_int)))) (fe_add (fe_op op_pow s_pow fe_int fe_int) fe_int)) sc_L_well.nd)))
    (fss_one (fs_ret (κn := _) (fe_lst (k := true) (kd := (.lst (.v true))) (fa_cons (fe_max2 rfl (by exact rfl) B.max fe_int (fe_op op_sub s_sub (fe_var 2) (fe_op op_pow s_pow fe_int fe_int))) (fa_cons (fe_op op_mod s_mod (fe_int1 (by exact rfl) B.int (fe_add (fe_add (fe_mul (fe_var 2) fe_int) (fe_mul (fe_var 3) fe_int)) (fe_mul fe_int (fe_var 1)))) (fe_add (fe_op op_pow s_pow fe_int fe_int) fe_int)) (fa_cons fe_int fa_nil)))) (RetK.own rfl (RetK.oth rfl RetK.nil)))))))
abbrev s_L_draw : Stmt := topS 33
abbrev N_L_draw : List Str := ["well", "many", "mixed", "found"]
theorem sc_L_draw : FnScope N_L_draw ["well", "many"] (defScope s_L_draw) := ⟨rfl, rfl, rfl, by decide +kernel, rfl, by decide +kernel, by decide +kernel⟩
noncomputable def b_L_draw : FN.Env → Option Fl :=
  (sSeq (sIf (fTst (f2 (.t (.v true)) (.t (.v true)) dGt (f2 (.r 0) (.t (.v true)) dIx (fRef 0) (fC (.int 0))) (fC (.int 0))))
  (sSeq (sSet 3 (f2 (.t (.v true)) (.t (.v true)) dMod (f1 (.t (.v true)) dInt (f2 (.r 0) (.t (.v true)) dIx (fRef 0) (fC (.int 0)))) (fVar 1)))
  (sSeq (sPut 0 (fC (.int 0)) (f2 (.t (.v true)) (.t (.v true)) dDiv (f2 (.r 0) (.t (.v true)) dIx (fRef 0) (fC (.int 0))) (fVar 1)))
  (sRet (fVar 3))))
  sNx)
  (sSeq (sPut 0 (fC (.int 2)) (f2 (.t (.v true)) (.t (.v true)) dAdd (f2 (.r 0) (.t (.v true)) dIx (fRef 0) (fC (.int 2))) (fC (.int 1))))
  (sSeq (sSet 2 (f2 (.t (.v true)) (.t (.v true)) dMod (f1 (.t (.v true)) dInt (f2 (.t (.v true)) (.t (.v true)) dAdd (f2 (.t (.v true)) (.t (.v true)) dPowW (f2 (.t (.v true)) (.t (.v true)) dAdd (f2 (.r 0) (.t (.v true)) dIx (fRef 0) (fC (.int 1))) (f2 (.t (.v true)) (.t (.v true)) dMul (fC (.int 104729)) (f2 (.r 0) (.t (.v true)) dIx (fRef 0) (fC (.int 2))))) (fC (.int 3))) (f2 (.t (.v true)) (.t (.v true)) dMul (f2 (.r 0) (.t (.v true)) dIx (fRef 0) (fC (.int 2))) (fC (.int 2654435761))))) (f2 (.t (.v true)) (.t (.v true)) dAdd (f2 (.t (.v true)) (.t (.v true)) dPow (fC (.int 10)) (fC (.int 27))) (fC (.int 103)))))
  (sSeq (sSet 2 (f2 (.t (.v true)) (.t (.v true)) dMod (f1 (.t (.v true)) dInt (f2 (.t (.v true)) (.t (.v true)) dAdd (f2 (.t (.v true)) (.t (.v true)) dMul (fVar 2) (fVar 2)) (fC (.int 12345)))) (f2 (.t (.v true)) (.t (.v true)) dAdd (f2 (.t (.v true)) (.t (.v true)) dPow (fC (.int 10)) (fC (.int 28))) (fC (.int 331)))))
  (sRet (f2 (.t (.v true)) (.t (.v true)) dMod (f1 (.t (.v true)) dInt (f2 (.t (.v true)) (.t (.v true)) dDiv (fVar 2) (fC (.int 65537)))) (fVar 1)))))))
noncomputable def m_L_draw : M D := runF [(.lst (.v true)), (.v true)] (.v true) 2 b_L_draw
theorem ok_L_draw (B : Bt mg) (a : At K mg "_law_draw" s_L_draw ["well", "many"])  : Kn P w K mg base CX0 1 "_law_draw" ["well", "many"] (spF K mg [(.lst (.v true)), (.v true)] (.v true) (noErr m_L_draw)) := by
  refine fn_ok0 (κl := [(.v true), (.v true)]) a sc_L_draw rfl ⟨True.intro, True.intro, True.intro⟩ ⟨True.intro, True.intro, True.intro⟩ rfl fun f cdv A outer s H vs E hv hr => ?_
  match vs, hv with
  | [v0, v1], _ =>
  refine ⟨[.fix v0 (.lst (.v true)), (.v true), (.v true), (.v true)], (RetK.own rfl (RetK.oth rfl RetK.nil)), ?_⟩
  show FSs _ _ _ [.fix v0 (.lst (.v true)), (.v true), (.v true), (.v true)] _ _ _
  exact (fss_cons (fs_if (ft_cmp op_gt s_gt (fe_ix (fe_ref 0) fe_int) fe_int (nomark _))
    (fss_cons (fs_setK (i := 3) (fe_op op_mod s_mod (fe_int1 (by exact rfl) B.int (fe_ix (fe_ref 0) fe_int)) (fe_var 1)) sc_L_draw.nd)
    (fss_cons (fs_put (bi := true) (i := 0) rfl (fe_ref 0) fe_int (fe_op op_fdivW s_div (fe_ix (fe_ref 0) fe_int) (fe_var 1)))
    (fss_one (fs_ret (κn := _) (fe_var 3) (RetK.own rfl (RetK.oth rfl RetK.nil))))))
    fss_nil)
    (fss_cons (fs_put (bi := true) (i := 0) rfl (fe_ref 0) fe_int (fe_add (fe_ix (fe_ref 0) fe_int) fe_int))
    (fss_cons (fs_setK (i := 2) (fe_op op_mod s_mod (fe_int1 (by exact rfl) B.int (fe_add (fe_op op_powW s_powW (fe_add (fe_ix (fe_ref 0) fe_int) (fe_mul fe_int (fe_ix (fe_ref 0) fe_int))) fe_int) (fe_mul (fe_ix (fe_ref 0) fe_int) fe_int))) (fe_add (fe_op op_pow s_pow fe_int fe_int) fe_int)) sc_L_draw.nd)
    (fss_cons (fs_setK (i := 2) (fe_op op_mod s_mod (fe_int1 (by exact rfl) B.int (fe_add (fe_mul (fe_var 2) (fe_var 2)) fe_int)) (fe_add (fe_op op_pow s_pow fe_int fe_int) fe_int)) sc_L_draw.nd)
    (fss_one (fs_ret (κn := _) (fe_op op_mod s_mod (fe_int1 (by exact rfl) B.int (fe_op op_fdivW s_div (fe_var 2) fe_int)) (fe_var 1)) (RetK.own rfl (RetK.oth rfl RetK.nil))))))))
abbrev s_L_thing : Stmt := topS 38
abbrev N_L_thing : List Str := ["well", "number"]
theorem sc_L_thing : FnScope N_L_thing ["well"] (defScope s_L_thing) := ⟨rfl, rfl, rfl, by decide +kernel, rfl, by decide +kernel, by decide +kernel⟩
noncomputable def b_L_thing : FN.Env → Option Fl :=
  (sSeq (sSet 1 (f2 (.t (.v true)) (.t (.v true)) dSub (fCall [.r 0, .t (.v true)] (noErr m_L_draw) (aCons (fRef 0) (aCons (f2 (.t (.v true)) (.t (.v true)) dPow (fC (.int 10)) (fC (.int 20))) aNil))) (f2 (.t (.v true)) (.t (.v true)) dPow (fC (.int 10)) (fC (.int 19)))))
  (sRet (fPick (.t (.v true)) (aCons (fOp (fC .none)) (aCons (fOp (fVar 1)) (aCons (fOp (fC (.str ("text" : Str)))) (aCons (fOp (fTup (aCons (fVar 1) (aCons (fC (.str ("a" : Str))) aNil)))) (aCons (fLst (aCons (fVar 1) aNil)) (aCons (fOp (fC (.bool true))) (aCons (fOp (fTup aNil)) (aCons (fLst aNil) (aCons (fOp (fC (.str ("" : Str)))) (aCons (fDisp false (fC (.str ("a" : Str))) (fVar 1)) aNil)))))))))) (fCall [.r 0, .t (.v true)] (noErr m_L_draw) (aCons (fRef 0) (aCons (fC (.int 10)) aNil))))))
noncomputable def m_L_thing : M D := runF [(.lst (.v true))] kOp 1 b_L_thing
theorem ok_L_thing (B : Bt mg) (a : At K mg "_law_thing" s_L_thing ["well"]) (G_L_draw : Kn P w K mg base CX0 1 "_law_draw" ["well", "many"] (spF K mg [(.lst (.v true)), (.v true)] (.v true) (noErr m_L_draw))) : Kn P w K mg base CX0 2 "_law_thing" ["well"] (spF K mg [(.lst (.v true))] kOp (noErr m_L_thing)) := by
  refine fn_ok0 (κl := [(.v true)]) a sc_L_thing rfl ⟨True.intro, True.intro⟩ ⟨True.intro, True.intro⟩ rfl fun f cdv A outer s H vs E hv hr => ?_
  match vs, hv with
  | [v0], _ =>
  refine ⟨[.fix v0 (.lst (.v true)), (.v true)], (RetK.own rfl RetK.nil), ?_⟩
  show FSs _ _ _ [.fix v0 (.lst (.v true)), (.v true)] _ _ _
  exact (fss_cons (fs_setK (i := 1) (fe_op op_sub s_sub (fe_fn G_L_draw (hr.mono (by decide)) (Fits.r (by first | exact .inl ⟨rfl, nofix_ne True.intro⟩ | exact .inr ⟨_, rfl, nofix_ne True.intro⟩) (Fits.t (nofix_ne True.intro) Fits.nil)) (fa_cons (fe_ref 0) (fa_cons (fe_op op_pow s_pow fe_int fe_int) fa_nil))) (fe_op op_pow s_pow fe_int fe_int)) sc_L_thing.nd)
    (fss_one (fs_ret (κn := _) (fe_pick (fa_cons (fe_op1 fe_non) (fa_cons (fe_op1 (fe_var 1)) (fa_cons (fe_op1 fe_str) (fa_cons (fe_op1 (fe_tup (k := true) (fa_cons (fe_var 1) (fa_cons fe_str fa_nil)))) (fa_cons (fe_op2 (fe_lst (k := true) (kd := (.lst (.v true))) (fa_cons (fe_var 1) fa_nil))) (fa_cons (fe_op1 fe_bl) (fa_cons (fe_op1 (fe_tup (k := true) fa_nil)) (fa_cons (fe_op2 (fe_lst (k := true) (kd := (.lst (.v true))) fa_nil)) (fa_cons (fe_op1 fe_str) (fa_cons (fe_op3 (fe_dispK (kb := true) fe_str (fe_var 1))) fa_nil)))))))))) (fe_fn G_L_draw (hr.mono (by decide)) (Fits.r (by first | exact .inl ⟨rfl, nofix_ne True.intro⟩ | exact .inr ⟨_, rfl, nofix_ne True.intro⟩) (Fits.t (nofix_ne True.intro) Fits.nil)) (fa_cons (fe_ref 0) (fa_cons fe_int fa_nil)))) (RetK.own rfl RetK.nil))))
abbrev s_L_same : Stmt := topS 34
abbrev N_L_same : List Str := ["told", "due", "k"]
theorem sc_L_same : FnScope N_L_same ["told", "due"] (defScope s_L_same) := ⟨rfl, rfl, rfl, by decide +kernel, rfl, by decide +kernel, by decide +kernel⟩
noncomputable def b_L_same (rec : M D) : FN.Env → Option Fl :=
  (sSeq (sIf (fTst (f2 (.t (.v true)) (.t (.v true)) dIs (fVar 1) (fC .none)))
  (sRet (f2 (.t (.v true)) (.t (.v true)) dIs (fVar 0) (fC .none)))
  sNx)
  (sSeq (sIf (fTru (.t (.v true)) (f1b (.t (.v true)) isBool (fVar 1)))
  (sRet (fIf (fTru (.t (.v true)) (fVar 1)) (f2 (.t (.v true)) (.t (.v true)) dIs (fVar 0) (fC (.bool true))) (f2 (.t (.v true)) (.t (.v true)) dIs (fVar 0) (fC (.bool false)))))
  sNx)
  (sSeq (sIf (fTru (.t (.v true)) (f1b (.t (.v true)) isInt (fVar 1)))
  (sRet (fAnd (f1b (.t (.v true)) isInt (fVar 0)) (fAnd (fNot (f1b (.t (.v true)) isBool (fVar 0))) (f2 (.t (.v true)) (.t (.v true)) dEq (fVar 0) (fVar 1)))))
  sNx)
  (sSeq (sIf (fTru (.t (.v true)) (f1b (.t (.v true)) isStr (fVar 1)))
  (sRet (fAnd (f1b (.t (.v true)) isStr (fVar 0)) (f2 (.t (.v true)) (.t (.v true)) dEq (fVar 0) (fVar 1))))
  sNx)
  (sSeq (sIf (tOrF (fTst (f2 (.t (.v true)) (.t (.v true)) dNe (f1b (.t (.v true)) isTuple (fVar 1)) (f1b (.t (.v true)) isTuple (fVar 0)))) (fTst (f2 (.t (.v true)) (.t (.v true)) dNe (f1b (.t (.v true)) isList (fVar 1)) (f1b (.t (.v true)) isList (fVar 0)))))
  (sRet (fC (.bool false)))
  sNx)
  (sRet (fAnd (f2 (.t (.v true)) (.t (.v true)) dEq (f1 (.t (.v true)) dLen (fVar 0)) (f1 (.t (.v true)) dLen (fVar 1))) (f1 (.t (.v true)) dAll (fLc [2] (iRg1 (.t (.v true)) (f1 (.t (.v true)) dLen (fVar 1))) (gNm 2) tYesF (fCall [.t (.v true), .t (.v true)] (noErr rec) (aCons (f2 (.t (.v true)) (.t (.v true)) dIx (fVar 0) (fVar 2)) (aCons (f2 (.t (.v true)) (.t (.v true)) dIx (fVar 1) (fVar 2)) aNil))))))))))))
noncomputable def m_L_same : Nat → M D
  | 0 => fun _ => none
  | n + 1 => runF [(.v true), (.v true)] (.v true) 1 (b_L_same (m_L_same n))
theorem ok_L_same (B : Bt mg) (a : At K mg "_law_same" s_L_same ["told", "due"])  : ∀ n : Nat, Kn P w K mg base CX0 (1 + n) "_law_same" ["told", "due"] (spF K mg [(.v true), (.v true)] (.v true) (noErr (m_L_same n))) := by
  intro n
  induction n with
  | zero => exact kn_none a fun _ => rfl
  | succ n ih =>
  show Kn P w K mg base CX0 ((1 + n) + 1) "_law_same" ["told", "due"] (spF K mg [(.v true), (.v true)] (.v true) (noErr (runF [(.v true), (.v true)] (.v true) 1 (b_L_same (m_L_same n)))))
  refine fn_ok0 (κl := [(.v true)]) a sc_L_same rfl ⟨True.intro, True.intro, True.intro⟩ ⟨True.intro, True.intro⟩ rfl fun f cdv A outer s H vs E hv hr => ?_
  match vs, hv with
  | [v0, v1], _ =>
  refine ⟨[(.v true), (.v true), (.v true)], (RetK.oth rfl (RetK.oth rfl RetK.nil)), ?_⟩
  show FSs _ _ _ [(.v true), (.v true), (.v true)] _ _ _
  exact (fss_cons (fs_if (ft_cmp op_isA s_is (fe_var 1) fe_non (nomark _))
    (fss_one (fs_ret (κn := _) (fe_cmp op_isA s_is (fe_var 0) fe_non (nomark _)) (RetK.oth rfl (RetK.oth rfl RetK.nil))))
    fss_nil)
    (fss_cons (fs_if (ft_tru (fe_isi isi_bool (by exact rfl) B.isinstance (fe_var 1) (cls1 (by exact rfl) B.bool (by decide +kernel))))
    (fss_one (fs_ret (κn := _) (fe_if (ft_tru (fe_var 1)) (fe_cmp op_isA s_is (fe_var 0) fe_bl (nomark _)) (fe_cmp op_isA s_is (fe_var 0) fe_bl (nomark _))) (RetK.oth rfl (RetK.oth rfl RetK.nil))))
    fss_nil)
    (fss_cons (fs_if (ft_tru (fe_isi isi_int (by exact rfl) B.isinstance (fe_var 1) (cls1 (by exact rfl) B.int (by decide +kernel))))
    (fss_one (fs_ret (κn := _) (fe_and (fe_isi isi_int (by exact rfl) B.isinstance (fe_var 0) (cls1 (by exact rfl) B.int (by decide +kernel))) (fe_and (fe_not (k := true) (fe_isi isi_bool (by exact rfl) B.isinstance (fe_var 0) (cls1 (by exact rfl) B.bool (by decide +kernel)))) (fe_one (fe_cmp (op_eqD hr.units) s_eq (fe_var 0) (fe_var 1) (nomark _))))) (RetK.oth rfl (RetK.oth rfl RetK.nil))))
    fss_nil)
    (fss_cons (fs_if (ft_tru (fe_isi isi_str (by exact rfl) B.isinstance (fe_var 1) (cls1 (by exact rfl) B.str (by decide +kernel))))
    (fss_one (fs_ret (κn := _) (fe_and (fe_isi isi_str (by exact rfl) B.isinstance (fe_var 0) (cls1 (by exact rfl) B.str (by decide +kernel))) (fe_one (fe_cmp (op_eqD hr.units) s_eq (fe_var 0) (fe_var 1) (nomark _)))) (RetK.oth rfl (RetK.oth rfl RetK.nil))))
    fss_nil)
    (fss_cons (fs_if (ft_w (fw_or (ft_cmp (op_neD hr.units) s_ne (fe_isi isi_tuple (by exact rfl) B.isinstance (fe_var 1) (cls1 (by exact rfl) B.tuple (by decide +kernel))) (fe_isi isi_tuple (by exact rfl) B.isinstance (fe_var 0) (cls1 (by exact rfl) B.tuple (by decide +kernel))) (nomark _)) (fw_or1 (ft_cmp (op_neD hr.units) s_ne (fe_isi isi_list (by exact rfl) B.isinstance (fe_var 1) (cls1 (by exact rfl) B.list (by decide +kernel))) (fe_isi isi_list (by exact rfl) B.isinstance (fe_var 0) (cls1 (by exact rfl) B.list (by decide +kernel))) (nomark _)))))
    (fss_one (fs_ret (κn := _) fe_bl (RetK.oth rfl (RetK.oth rfl RetK.nil))))
    fss_nil)
    (fss_one (fs_ret (κn := _) (fe_and (fe_cmp (op_eqD hr.units) s_eq (fe_len (by exact rfl) B.len (fe_var 0)) (fe_len (by exact rfl) B.len (fe_var 1)) (nomark _)) (fe_one (fe_all rfl (by exact rfl) B.all (fe_lc (kd := (.v _)) (own := [("k", 2)]) (sl := [2]) rfl rfl sc_L_same.nd (fi_range1 (by exact rfl) B.range (fe_len (by exact rfl) B.len (fe_var 1))) (blkOk_by (N := N_L_same) (sc := defScope s_L_same) (by decide +kernel)) (by repeat (first | exact True.intro | refine And.intro True.intro ?_)) (by decide) (fun _ _ _ _ _ => (fg_nameK (i := 2) sc_L_same.nd)) (fun _ _ _ _ _ => fts_nil) (fun _ _ _ _ _ => (fe_fn ih (hr.mono (by omega)) (Fits.t (nofix_ne True.intro) (Fits.t (nofix_ne True.intro) Fits.nil)) (fa_cons (fe_ix (fe_var 0) (fe_var 2)) (fa_cons (fe_ix (fe_var 1) (fe_var 2)) fa_nil)))))))) (RetK.oth rfl (RetK.oth rfl RetK.nil)))))))))
abbrev s_L_first : Stmt := topS 35
abbrev N_L_first : List Str := ["which", "thing"]
theorem sc_L_first : FnScope N_L_first ["which", "thing"] (defScope s_L_first) := ⟨rfl, rfl, rfl, by decide +kernel, rfl, by decide +kernel, by decide +kernel⟩
noncomputable def b_L_first : FN.Env → Option Fl :=
  (sSeq (sIf (fTst (f2 (.t (.v true)) (.t (.v true)) dLt (fVar 0) (fC (.int 4))))
  (sRet (fPick (.t (.v true)) (aCons (fMk ("InvalidFrame" : Str) (fTokR 1)) (aCons (fMk ("InvalidTable" : Str) (fTokR 1)) (aCons (fMk ("InvalidRing" : Str) (fTokR 1)) (aCons (fMk ("NoTable" : Str) (fTokR 1)) aNil)))) (fVar 0)))
  sNx)
  (sSeq (sIf (fTst (f2 (.t (.v true)) (.t (.v true)) dLt (fVar 0) (fC (.int 8))))
  (sRet (fPick (.t (.v true)) (aCons (fMk ("InvalidCounts" : Str) (fTokR 1)) (aCons (fMk ("InvalidLine" : Str) (fTokR 1)) (aCons (fMk ("InvalidHeights" : Str) (fTokR 1)) (aCons (fMk ("InvalidBoard" : Str) (fTokR 1)) aNil)))) (f2 (.t (.v true)) (.t (.v true)) dSub (fVar 0) (fC (.int 4)))))
  sNx)
  (sSeq (sIf (fTst (f2 (.t (.v true)) (.t (.v true)) dLt (fVar 0) (fC (.int 12))))
  (sRet (fPick (.t (.v true)) (aCons (fMk ("InvalidPlacing" : Str) (fTokR 1)) (aCons (fMk ("InvalidMove" : Str) (fTokR 1)) (aCons (fMk ("NoPlacing" : Str) (fTokR 1)) (aCons (fMk ("InvalidCosts" : Str) (fTokR 1)) aNil)))) (f2 (.t (.v true)) (.t (.v true)) dSub (fVar 0) (fC (.int 8)))))
  sNx)
  (sRet (fPick (.t (.v true)) (aCons (fMk ("InvalidPrices" : Str) (fTokR 1)) (aCons (fMk ("InvalidWeeks" : Str) (fTokR 1)) (aCons (fMk ("InvalidBenches" : Str) (fTokR 1)) aNil))) (f2 (.t (.v true)) (.t (.v true)) dSub (fVar 0) (fC (.int 12))))))))
noncomputable def m_L_first : M D := runF [(.v true), (.tok .non)] (kEr (fun _ => none) .non) 0 b_L_first
theorem ok_L_first {y : V} (B : Bt mg) (a : At K mg "_law_first" s_L_first ["which", "thing"]) (ER : Er P K mg DE fI C_StandError C_InvalidFrame C_InvalidTable C_InvalidRing C_NoTable C_InvalidCounts C_InvalidLine C_InvalidHeights C_InvalidBoard C_InvalidPlacing C_InvalidMove C_NoPlacing C_InvalidCosts C_InvalidPrices C_InvalidWeeks C_InvalidBenches C_InvalidPairs C_InvalidFractions C_InvalidGroups C_NoLine C_InvalidShares C_InvalidPromises C_InvalidWeights C_InvalidCuts C_InvalidNumber C_TooMany C_Nothing C_Unreadable C_InvalidCommand C_NotReady) : Kn P w K mg base CX0 2 "_law_first" ["which", "thing"] (spF K mg [(.v true), (.tok y)] (kEr mg y) (noErr m_L_first)) := by
  have e : m_L_first = runF [(.v true), (.tok y)] (kEr mg y) 0 b_L_first := (runF_keep (by rfl) _ _ _).trans runF_ext
  rw [e]
  refine fn_ok0 (κl := []) a sc_L_first rfl ⟨True.intro, True.intro, True.intro⟩ True.intro rfl fun f cdv A outer s H vs E hv hr => ?_
  match vs, hv with
  | [v0, v1], _ =>
  refine ⟨[(.v true), .fix v1 (.tok y)], (RetK.oth rfl (RetK.own rfl RetK.nil)), ?_⟩
  show FSs _ _ _ [(.v true), .fix v1 (.tok y)] _ _ _
  exact (fss_cons (fs_if (ft_cmp op_lt s_lt (fe_var 0) fe_int (nomark _))
    (fss_one (fs_ret (κn := _) (fe_pick (fa_cons (fe_mkE ER.T ER.c_InvalidFrame ER.m_InvalidFrame (hr.mono (by decide)) (fe_tokB 1)) (fa_cons (fe_mkE ER.T ER.c_InvalidTable ER.m_InvalidTable (hr.mono (by decide)) (fe_tokB 1)) (fa_cons (fe_mkE ER.T ER.c_InvalidRing ER.m_InvalidRing (hr.mono (by decide)) (fe_tokB 1)) (fa_cons (fe_mkE ER.T ER.c_NoTable ER.m_NoTable (hr.mono (by decide)) (fe_tokB 1)) fa_nil)))) (fe_var 0)) (RetK.oth rfl (RetK.own rfl RetK.nil))))
    fss_nil)
    (fss_cons (fs_if (ft_cmp op_lt s_lt (fe_var 0) fe_int (nomark _))
    (fss_one (fs_ret (κn := _) (fe_pick (fa_cons (fe_mkE ER.T ER.c_InvalidCounts ER.m_InvalidCounts (hr.mono (by decide)) (fe_tokB 1)) (fa_cons (fe_mkE ER.T ER.c_InvalidLine ER.m_InvalidLine (hr.mono (by decide)) (fe_tokB 1)) (fa_cons (fe_mkE ER.T ER.c_InvalidHeights ER.m_InvalidHeights (hr.mono (by decide)) (fe_tokB 1)) (fa_cons (fe_mkE ER.T ER.c_InvalidBoard ER.m_InvalidBoard (hr.mono (by decide)) (fe_tokB 1)) fa_nil)))) (fe_op op_sub s_sub (fe_var 0) fe_int)) (RetK.oth rfl (RetK.own rfl RetK.nil))))
    fss_nil)
    (fss_cons (fs_if (ft_cmp op_lt s_lt (fe_var 0) fe_int (nomark _))
    (fss_one (fs_ret (κn := _) (fe_pick (fa_cons (fe_mkE ER.T ER.c_InvalidPlacing ER.m_InvalidPlacing (hr.mono (by decide)) (fe_tokB 1)) (fa_cons (fe_mkE ER.T ER.c_InvalidMove ER.m_InvalidMove (hr.mono (by decide)) (fe_tokB 1)) (fa_cons (fe_mkE ER.T ER.c_NoPlacing ER.m_NoPlacing (hr.mono (by decide)) (fe_tokB 1)) (fa_cons (fe_mkE ER.T ER.c_InvalidCosts ER.m_InvalidCosts (hr.mono (by decide)) (fe_tokB 1)) fa_nil)))) (fe_op op_sub s_sub (fe_var 0) fe_int)) (RetK.oth rfl (RetK.own rfl RetK.nil))))
    fss_nil)
    (fss_one (fs_ret (κn := _) (fe_pick (fa_cons (fe_mkE ER.T ER.c_InvalidPrices ER.m_InvalidPrices (hr.mono (by decide)) (fe_tokB 1)) (fa_cons (fe_mkE ER.T ER.c_InvalidWeeks ER.m_InvalidWeeks (hr.mono (by decide)) (fe_tokB 1)) (fa_cons (fe_mkE ER.T ER.c_InvalidBenches ER.m_InvalidBenches (hr.mono (by decide)) (fe_tokB 1)) fa_nil))) (fe_op op_sub s_sub (fe_var 0) fe_int)) (RetK.oth rfl (RetK.own rfl RetK.nil)))))))
abbrev s_L_second : Stmt := topS 36
abbrev N_L_second : List Str := ["which", "thing"]
theorem sc_L_second : FnScope N_L_second ["which", "thing"] (defScope s_L_second) := ⟨rfl, rfl, rfl, by decide +kernel, rfl, by decide +kernel, by decide +kernel⟩
noncomputable def b_L_second : FN.Env → Option Fl :=
  (sSeq (sIf (fTst (f2 (.t (.v true)) (.t (.v true)) dLt (fVar 0) (fC (.int 4))))
  (sRet (fPick (.t (.v true)) (aCons (fMk ("InvalidPairs" : Str) (fTokR 1)) (aCons (fMk ("InvalidFractions" : Str) (fTokR 1)) (aCons (fMk ("InvalidGroups" : Str) (fTokR 1)) (aCons (fMk ("NoLine" : Str) (fTokR 1)) aNil)))) (fVar 0)))
  sNx)
  (sSeq (sIf (fTst (f2 (.t (.v true)) (.t (.v true)) dLt (fVar 0) (fC (.int 8))))
  (sRet (fPick (.t (.v true)) (aCons (fMk ("InvalidShares" : Str) (fTokR 1)) (aCons (fMk ("InvalidPromises" : Str) (fTokR 1)) (aCons (fMk ("InvalidWeights" : Str) (fTokR 1)) (aCons (fMk ("InvalidCuts" : Str) (fTokR 1)) aNil)))) (f2 (.t (.v true)) (.t (.v true)) dSub (fVar 0) (fC (.int 4)))))
  sNx)
  (sSeq (sIf (fTst (f2 (.t (.v true)) (.t (.v true)) dLt (fVar 0) (fC (.int 11))))
  (sRet (fPick (.t (.v true)) (aCons (fMk ("InvalidNumber" : Str) (fTokR 1)) (aCons (fMk ("TooMany" : Str) (fTokR 1)) (aCons (fMk ("Nothing" : Str) (fTokR 1)) aNil))) (f2 (.t (.v true)) (.t (.v true)) dSub (fVar 0) (fC (.int 8)))))
  sNx)
  (sRet (fPick (.t (.v true)) (aCons (fMk ("Unreadable" : Str) (fTokR 1)) (aCons (fMk ("InvalidCommand" : Str) (fTokR 1)) (aCons (fMk ("NotReady" : Str) (fTokR 1)) aNil))) (f2 (.t (.v true)) (.t (.v true)) dSub (fVar 0) (fC (.int 11))))))))
noncomputable def m_L_second : M D := runF [(.v true), (.tok .non)] (kEr (fun _ => none) .non) 0 b_L_second
theorem ok_L_second {y : V} (B : Bt mg) (a : At K mg "_law_second" s_L_second ["which", "thing"]) (ER : Er P K mg DE fI C_StandError C_InvalidFrame C_InvalidTable C_InvalidRing C_NoTable C_InvalidCounts C_InvalidLine C_InvalidHeights C_InvalidBoard C_InvalidPlacing C_InvalidMove C_NoPlacing C_InvalidCosts C_InvalidPrices C_InvalidWeeks C_InvalidBenches C_InvalidPairs C_InvalidFractions C_InvalidGroups C_NoLine C_InvalidShares C_InvalidPromises C_InvalidWeights C_InvalidCuts C_InvalidNumber C_TooMany C_Nothing C_Unreadable C_InvalidCommand C_NotReady) : Kn P w K mg base CX0 2 "_law_second" ["which", "thing"] (spF K mg [(.v true), (.tok y)] (kEr mg y) (noErr m_L_second)) := by
  have e : m_L_second = runF [(.v true), (.tok y)] (kEr mg y) 0 b_L_second := (runF_keep (by rfl) _ _ _).trans runF_ext
  rw [e]
  refine fn_ok0 (κl := []) a sc_L_second rfl ⟨True.intro, True.intro, True.intro⟩ True.intro rfl fun f cdv A outer s H vs E hv hr => ?_
  match vs, hv with
  | [v0, v1], _ =>
  refine ⟨[(.v true), .fix v1 (.tok y)], (RetK.oth rfl (RetK.own rfl RetK.nil)), ?_⟩
  show FSs _ _ _ [(.v true), .fix v1 (.tok y)] _ _ _
  exact (fss_cons (fs_if (ft_cmp op_lt s_lt (fe_var 0) fe_int (nomark _))
    (fss_one (fs_ret (κn := _) (fe_pick (fa_cons (fe_mkEK ER.T ER.c_InvalidPairs ER.m_InvalidPairs (hr.mono (by decide)) (fe_tokB 1)) (fa_cons (fe_mkEK ER.T ER.c_InvalidFractions ER.m_InvalidFractions (hr.mono (by decide)) (fe_tokB 1)) (fa_cons (fe_mkEK ER.T ER.c_InvalidGroups ER.m_InvalidGroups (hr.mono (by decide)) (fe_tokB 1)) (fa_cons (fe_mkEK ER.T ER.c_NoLine ER.m_NoLine (hr.mono (by decide)) (fe_tokB 1)) fa_nil)))) (fe_var 0)) (RetK.oth rfl (RetK.own rfl RetK.nil))))
    fss_nil)
    (fss_cons (fs_if (ft_cmp op_lt s_lt (fe_var 0) fe_int (nomark _))
    (fss_one (fs_ret (κn := _) (fe_pick (fa_cons (fe_mkEK ER.T ER.c_InvalidShares ER.m_InvalidShares (hr.mono (by decide)) (fe_tokB 1)) (fa_cons (fe_mkEK ER.T ER.c_InvalidPromises ER.m_InvalidPromises (hr.mono (by decide)) (fe_tokB 1)) (fa_cons (fe_mkEK ER.T ER.c_InvalidWeights ER.m_InvalidWeights (hr.mono (by decide)) (fe_tokB 1)) (fa_cons (fe_mkEK ER.T ER.c_InvalidCuts ER.m_InvalidCuts (hr.mono (by decide)) (fe_tokB 1)) fa_nil)))) (fe_op op_sub s_sub (fe_var 0) fe_int)) (RetK.oth rfl (RetK.own rfl RetK.nil))))
    fss_nil)
    (fss_cons (fs_if (ft_cmp op_lt s_lt (fe_var 0) fe_int (nomark _))
    (fss_one (fs_ret (κn := _) (fe_pick (fa_cons (fe_mkEK ER.T ER.c_InvalidNumber ER.m_InvalidNumber (hr.mono (by decide)) (fe_tokB 1)) (fa_cons (fe_mkEK ER.T ER.c_TooMany ER.m_TooMany (hr.mono (by decide)) (fe_tokB 1)) (fa_cons (fe_mkEK ER.T ER.c_Nothing ER.m_Nothing (hr.mono (by decide)) (fe_tokB 1)) fa_nil))) (fe_op op_sub s_sub (fe_var 0) fe_int)) (RetK.oth rfl (RetK.own rfl RetK.nil))))
    fss_nil)
    (fss_one (fs_ret (κn := _) (fe_pick (fa_cons (fe_mkEK ER.T ER.c_Unreadable ER.m_Unreadable (hr.mono (by decide)) (fe_tokB 1)) (fa_cons (fe_mkEK ER.T ER.c_InvalidCommand ER.m_InvalidCommand (hr.mono (by decide)) (fe_tokB 1)) (fa_cons (fe_mkEK ER.T ER.c_NotReady ER.m_NotReady (hr.mono (by decide)) (fe_tokB 1)) fa_nil))) (fe_op op_sub s_sub (fe_var 0) fe_int)) (RetK.oth rfl (RetK.own rfl RetK.nil)))))))
abbrev s_L_kinds : Stmt := topS 37
abbrev N_L_kinds : List Str := ["error", "found"]
theorem sc_L_kinds : FnScope N_L_kinds ["error"] (defScope s_L_kinds) := ⟨rfl, rfl, rfl, by decide +kernel, rfl, by decide +kernel, by decide +kernel⟩
noncomputable def b_L_kinds : FN.Env → Option Fl :=
  (sSeq (sSet 1 (fLst (aCons (fIsE 0 (selL "StandError" ern ("InvalidFrame" : Str))) (aCons (fIsE 0 (selL "StandError" ern ("InvalidTable" : Str))) (aCons (fIsE 0 (selL "StandError" ern ("InvalidRing" : Str))) (aCons (fIsE 0 (selL "StandError" ern ("NoTable" : Str))) aNil))))))
  (sSeq (sSet 1 (f2 (.t (.v true)) (.t (.v true)) dAdd (fVar 1) (fLst (aCons (fIsE 0 (selL "StandError" ern ("InvalidCounts" : Str))) (aCons (fIsE 0 (selL "StandError" ern ("InvalidLine" : Str))) (aCons (fIsE 0 (selL "StandError" ern ("InvalidHeights" : Str))) aNil))))))
  (sSeq (sSet 1 (f2 (.t (.v true)) (.t (.v true)) dAdd (fVar 1) (fLst (aCons (fIsE 0 (selL "StandError" ern ("InvalidBoard" : Str))) (aCons (fIsE 0 (selL "StandError" ern ("InvalidPlacing" : Str))) (aCons (fIsE 0 (selL "StandError" ern ("InvalidMove" : Str))) aNil))))))
  (sSeq (sSet 1 (f2 (.t (.v true)) (.t (.v true)) dAdd (fVar 1) (fLst (aCons (fIsE 0 (selL "StandError" ern ("NoPlacing" : Str))) (aCons (fIsE 0 (selL "StandError" ern ("InvalidCosts" : Str))) (aCons (fIsE 0 (selL "StandError" ern ("InvalidPrices" : Str))) aNil))))))
  (sSeq (sSet 1 (f2 (.t (.v true)) (.t (.v true)) dAdd (fVar 1) (fLst (aCons (fIsE 0 (selL "StandError" ern ("InvalidWeeks" : Str))) (aCons (fIsE 0 (selL "StandError" ern ("InvalidBenches" : Str))) (aCons (fIsE 0 (selL "StandError" ern ("InvalidPairs" : Str))) aNil))))))
  (sSeq (sSet 1 (f2 (.t (.v true)) (.t (.v true)) dAdd (fVar 1) (fLst (aCons (fIsE 0 (selL "StandError" ern ("InvalidFractions" : Str))) (aCons (fIsE 0 (selL "StandError" ern ("InvalidGroups" : Str))) (aCons (fIsE 0 (selL "StandError" ern ("NoLine" : Str))) aNil))))))
  (sSeq (sSet 1 (f2 (.t (.v true)) (.t (.v true)) dAdd (fVar 1) (fLst (aCons (fIsE 0 (selL "StandError" ern ("InvalidShares" : Str))) (aCons (fIsE 0 (selL "StandError" ern ("InvalidPromises" : Str))) (aCons (fIsE 0 (selL "StandError" ern ("InvalidWeights" : Str))) aNil))))))
  (sSeq (sSet 1 (f2 (.t (.v true)) (.t (.v true)) dAdd (fVar 1) (fLst (aCons (fIsE 0 (selL "StandError" ern ("InvalidCuts" : Str))) (aCons (fIsE 0 (selL "StandError" ern ("InvalidNumber" : Str))) (aCons (fIsE 0 (selL "StandError" ern ("TooMany" : Str))) aNil))))))
  (sRet (f2 (.t (.v true)) (.t (.v true)) dAdd (fVar 1) (fLst (aCons (fIsE 0 (selL "StandError" ern ("Nothing" : Str))) (aCons (fIsE 0 (selL "StandError" ern ("Unreadable" : Str))) (aCons (fIsE 0 (selL "StandError" ern ("InvalidCommand" : Str))) (aCons (fIsE 0 (selL "StandError" ern ("NotReady" : Str))) aNil)))))))))))))))
noncomputable def m_L_kinds : M D := runF [(kEr (fun _ => none) .non)] (.v true) 1 b_L_kinds
theorem ok_L_kinds {y : V} (B : Bt mg) (a : At K mg "_law_kinds" s_L_kinds ["error"]) (ER : Er P K mg DE fI C_StandError C_InvalidFrame C_InvalidTable C_InvalidRing C_NoTable C_InvalidCounts C_InvalidLine C_InvalidHeights C_InvalidBoard C_InvalidPlacing C_InvalidMove C_NoPlacing C_InvalidCosts C_InvalidPrices C_InvalidWeeks C_InvalidBenches C_InvalidPairs C_InvalidFractions C_InvalidGroups C_NoLine C_InvalidShares C_InvalidPromises C_InvalidWeights C_InvalidCuts C_InvalidNumber C_TooMany C_Nothing C_Unreadable C_InvalidCommand C_NotReady) : Kn P w K mg base CX0 1 "_law_kinds" ["error"] (spF K mg [(kEr mg y)] (.v true) (noErr m_L_kinds)) := by
  have e : m_L_kinds = runF [(kEr mg y)] (.v true) 1 b_L_kinds := runF_keep (by rfl) _ _ _
  rw [e]
  refine fn_ok0 (κl := [(.v true)]) a sc_L_kinds rfl ⟨True.intro, True.intro⟩ ⟨True.intro, True.intro⟩ rfl fun f cdv A outer s H vs E hv hr => ?_
  match vs, hv with
  | [v0], _ =>
  refine ⟨[.fix v0 (kEr mg y), (.v true)], (RetK.own rfl RetK.nil), ?_⟩
  show FSs _ _ _ [.fix v0 (kEr mg y), (.v true)] _ _ _
  exact (fss_cons (fs_setK (i := 1) (fe_lst (k := true) (kd := (.v _)) (fa_cons (fe_isE (i := 0) (.inr ⟨_, rfl⟩) ((erA ER).sel ER.m_InvalidFrame) ER.m_InvalidFrame B.isinstance) (fa_cons (fe_isE (i := 0) (.inr ⟨_, rfl⟩) ((erA ER).sel ER.m_InvalidTable) ER.m_InvalidTable B.isinstance) (fa_cons (fe_isE (i := 0) (.inr ⟨_, rfl⟩) ((erA ER).sel ER.m_InvalidRing) ER.m_InvalidRing B.isinstance) (fa_cons (fe_isE (i := 0) (.inr ⟨_, rfl⟩) ((erA ER).sel ER.m_NoTable) ER.m_NoTable B.isinstance) fa_nil))))) sc_L_kinds.nd)
    (fss_cons (fs_setK (i := 1) (fe_add (fe_var 1) (fe_lst (k := true) (kd := (.v _)) (fa_cons (fe_isE (i := 0) (.inr ⟨_, rfl⟩) ((erA ER).sel ER.m_InvalidCounts) ER.m_InvalidCounts B.isinstance) (fa_cons (fe_isE (i := 0) (.inr ⟨_, rfl⟩) ((erA ER).sel ER.m_InvalidLine) ER.m_InvalidLine B.isinstance) (fa_cons (fe_isE (i := 0) (.inr ⟨_, rfl⟩) ((erA ER).sel ER.m_InvalidHeights) ER.m_InvalidHeights B.isinstance) fa_nil))))) sc_L_kinds.nd)
    (fss_cons (fs_setK (i := 1) (fe_add (fe_var 1) (fe_lst (k := true) (kd := (.v _)) (fa_cons (fe_isE (i := 0) (.inr ⟨_, rfl⟩) ((erA ER).sel ER.m_InvalidBoard) ER.m_InvalidBoard B.isinstance) (fa_cons (fe_isE (i := 0) (.inr ⟨_, rfl⟩) ((erA ER).sel ER.m_InvalidPlacing) ER.m_InvalidPlacing B.isinstance) (fa_cons (fe_isE (i := 0) (.inr ⟨_, rfl⟩) ((erA ER).sel ER.m_InvalidMove) ER.m_InvalidMove B.isinstance) fa_nil))))) sc_L_kinds.nd)
    (fss_cons (fs_setK (i := 1) (fe_add (fe_var 1) (fe_lst (k := true) (kd := (.v _)) (fa_cons (fe_isE (i := 0) (.inr ⟨_, rfl⟩) ((erA ER).sel ER.m_NoPlacing) ER.m_NoPlacing B.isinstance) (fa_cons (fe_isE (i := 0) (.inr ⟨_, rfl⟩) ((erA ER).sel ER.m_InvalidCosts) ER.m_InvalidCosts B.isinstance) (fa_cons (fe_isE (i := 0) (.inr ⟨_, rfl⟩) ((erA ER).sel ER.m_InvalidPrices) ER.m_InvalidPrices B.isinstance) fa_nil))))) sc_L_kinds.nd)
    (fss_cons (fs_setK (i := 1) (fe_add (fe_var 1) (fe_lst (k := true) (kd := (.v _)) (fa_cons (fe_isE (i := 0) (.inr ⟨_, rfl⟩) ((erA ER).sel ER.m_InvalidWeeks) ER.m_InvalidWeeks B.isinstance) (fa_cons (fe_isE (i := 0) (.inr ⟨_, rfl⟩) ((erA ER).sel ER.m_InvalidBenches) ER.m_InvalidBenches B.isinstance) (fa_cons (fe_isE (i := 0) (.inr ⟨_, rfl⟩) ((erA ER).sel ER.m_InvalidPairs) ER.m_InvalidPairs B.isinstance) fa_nil))))) sc_L_kinds.nd)
    (fss_cons (fs_setK (i := 1) (fe_add (fe_var 1) (fe_lst (k := true) (kd := (.v _)) (fa_cons (fe_isE (i := 0) (.inr ⟨_, rfl⟩) ((erA ER).sel ER.m_InvalidFractions) ER.m_InvalidFractions B.isinstance) (fa_cons (fe_isE (i := 0) (.inr ⟨_, rfl⟩) ((erA ER).sel ER.m_InvalidGroups) ER.m_InvalidGroups B.isinstance) (fa_cons (fe_isE (i := 0) (.inr ⟨_, rfl⟩) ((erA ER).sel ER.m_NoLine) ER.m_NoLine B.isinstance) fa_nil))))) sc_L_kinds.nd)
    (fss_cons (fs_setK (i := 1) (fe_add (fe_var 1) (fe_lst (k := true) (kd := (.v _)) (fa_cons (fe_isE (i := 0) (.inr ⟨_, rfl⟩) ((erA ER).sel ER.m_InvalidShares) ER.m_InvalidShares B.isinstance) (fa_cons (fe_isE (i := 0) (.inr ⟨_, rfl⟩) ((erA ER).sel ER.m_InvalidPromises) ER.m_InvalidPromises B.isinstance) (fa_cons (fe_isE (i := 0) (.inr ⟨_, rfl⟩) ((erA ER).sel ER.m_InvalidWeights) ER.m_InvalidWeights B.isinstance) fa_nil))))) sc_L_kinds.nd)
    (fss_cons (fs_setK (i := 1) (fe_add (fe_var 1) (fe_lst (k := true) (kd := (.v _)) (fa_cons (fe_isE (i := 0) (.inr ⟨_, rfl⟩) ((erA ER).sel ER.m_InvalidCuts) ER.m_InvalidCuts B.isinstance) (fa_cons (fe_isE (i := 0) (.inr ⟨_, rfl⟩) ((erA ER).sel ER.m_InvalidNumber) ER.m_InvalidNumber B.isinstance) (fa_cons (fe_isE (i := 0) (.inr ⟨_, rfl⟩) ((erA ER).sel ER.m_TooMany) ER.m_TooMany B.isinstance) fa_nil))))) sc_L_kinds.nd)
    (fss_one (fs_ret (κn := _) (fe_add (fe_var 1) (fe_lst (k := true) (kd := (.v _)) (fa_cons (fe_isE (i := 0) (.inr ⟨_, rfl⟩) ((erA ER).sel ER.m_Nothing) ER.m_Nothing B.isinstance) (fa_cons (fe_isE (i := 0) (.inr ⟨_, rfl⟩) ((erA ER).sel ER.m_Unreadable) ER.m_Unreadable B.isinstance) (fa_cons (fe_isE (i := 0) (.inr ⟨_, rfl⟩) ((erA ER).sel ER.m_InvalidCommand) ER.m_InvalidCommand B.isinstance) (fa_cons (fe_isE (i := 0) (.inr ⟨_, rfl⟩) ((erA ER).sel ER.m_NotReady) ER.m_NotReady B.isinstance) fa_nil)))))) (RetK.own rfl RetK.nil)))))))))))
abbrev s_L_caught : Stmt := topS 39
abbrev N_L_caught : List Str := ["thing", "e", "own", "above"]
theorem sc_L_caught : FnScope N_L_caught ["thing"] (defScope s_L_caught) := ⟨rfl, rfl, rfl, by decide +kernel, rfl, by decide +kernel, by decide +kernel⟩
noncomputable def b_L_caught : FN.Env → Option Fl :=
  (sSeq (sAsg (gTp (gsCons (gNm 2) (gsCons (gNm 3) gsNil))) (fTup (aCons (fC .none) (aCons (fC .none) aNil))))
  (sSeq (sTry sel_InvalidNumber 1
  (sRaise "InvalidNumber" (fVar 0))
  (sSet 2 (fXv 1)))
  (sSeq (sTry sel_StandError 1
  (sRaise "NoLine" (fVar 0))
  (sSet 3 (fXv 1)))
  (sRet (fLst (aCons (fVar 2) (aCons (fVar 3) aNil)))))))
noncomputable def m_L_caught : M D := runF [(.v true)] (.v true) 3 b_L_caught
theorem ok_L_caught (B : Bt mg) (a : At K mg "_law_caught" s_L_caught ["thing"]) (ER : Er P K mg DE fI C_StandError C_InvalidFrame C_InvalidTable C_InvalidRing C_NoTable C_InvalidCounts C_InvalidLine C_InvalidHeights C_InvalidBoard C_InvalidPlacing C_InvalidMove C_NoPlacing C_InvalidCosts C_InvalidPrices C_InvalidWeeks C_InvalidBenches C_InvalidPairs C_InvalidFractions C_InvalidGroups C_NoLine C_InvalidShares C_InvalidPromises C_InvalidWeights C_InvalidCuts C_InvalidNumber C_TooMany C_Nothing C_Unreadable C_InvalidCommand C_NotReady) : Kn P w K mg base CX0 2 "_law_caught" ["thing"] (spF K mg [(.v true)] (.v true) (noErr m_L_caught)) := by
  refine fn_ok0 (κl := [(.v true), (.v true), (.v true)]) a sc_L_caught rfl ⟨True.intro, True.intro⟩ ⟨True.intro, True.intro, True.intro, True.intro⟩ rfl fun f cdv A outer s H vs E hv hr => ?_
  match vs, hv with
  | [v0], _ =>
  refine ⟨[(.v true), (.v true), (.v true), (.v true)], (RetK.oth rfl RetK.nil), ?_⟩
  show FSs _ _ _ [(.v true), (.v true), (.v true), (.v true)] _ _ _
  exact (fss_cons (fs_asg (fe_tup (k := true) (fa_cons fe_non (fa_cons fe_non fa_nil))) (fg_tup rfl (gs_lenS (gs_lenS gs_len0)) (fgs_cons (fg_nameK (i := 2) sc_L_caught.nd) (fgs_cons (fg_nameK (i := 3) sc_L_caught.nd) fgs_nil))))
    (fss_cons (fs_try (k := (.v true)) (κs := [(.v true), (.v true), (.v true), (.v true)]) (i := 1) (selk_InvalidNumber ER) ⟨by exact rfl, by decide, .inl ER.m_InvalidNumber⟩ takesF sc_L_caught.nd
    (fun _ _ _ tk1 _ => (fss_one (fs_raise (b := true) ER.T ER.c_InvalidNumber ER.m_InvalidNumber rfl (hr.mono (by decide)) tk1 (fe_var 0))))
    (fun _ _ _ _ _ hz hf => (fss_one (fs_setK (i := 2) (fe_xv (i := 1) hz hf) sc_L_caught.nd))))
    (fss_cons (fs_try (k := (.v true)) (κs := [(.v true), (.v true), (.v true), (.v true)]) (i := 1) (selk_StandError ER) ⟨by exact rfl, by decide, .inl ER.m_StandError⟩ takesF sc_L_caught.nd
    (fun _ _ _ tk1 _ => (fss_one (fs_raise (b := true) ER.T ER.c_NoLine ER.m_NoLine rfl (hr.mono (by decide)) tk1 (fe_var 0))))
    (fun _ _ _ _ _ hz hf => (fss_one (fs_setK (i := 3) (fe_xv (i := 1) hz hf) sc_L_caught.nd))))
    (fss_one (fs_ret (κn := _) (fe_lst (k := true) (kd := (.v _)) (fa_cons (fe_var 2) (fa_cons (fe_var 3) fa_nil))) (RetK.oth rfl RetK.nil))))))
abbrev s_law : Stmt := topS 40
abbrev N_law : List Str := ["script", "k", "well", "which", "thing", "base", "error", "due", "at"]
theorem sc_law : FnScope N_law ["script"] (defScope s_law) := ⟨rfl, rfl, rfl, by decide +kernel, rfl, by decide +kernel, by decide +kernel⟩
noncomputable def b_law : FN.Env → Option Fl :=
  (sSeq (sFor (iRg1 (.t (.v true)) (f2 (.t (.v true)) (.t (.v true)) dMax2 (fC (.int 1)) (f2 (.t (.v true)) (.t (.v true)) dMin2 (fC (.int 5)) (f1 (.r 0) dLen (fRef 0))))) (gNm 1)
  (sSeq (sSet 2 (fCall [.r 0, .t (.v true)] (noErr m_L_well) (aCons (fRef 0) (aCons (fVar 1) aNil))))
  (sSeq (sFor (iRg1 (.t (.v true)) (fC (.int 29))) (gNm 3)
  (sSeq (sSet 4 (fCall [.r 2] (noErr m_L_thing) (aCons (fRef 2) aNil)))
  (sFix 4 (sClr 4 (sClr 6 (sSeq (sSet 6 (fIf (fTst (f2 (.t (.v true)) (.t (.v true)) dLt (fVar 3) (fC (.int 15)))) (fCall [.t (.v true), .t (.tok .non)] (noErr m_L_first) (aCons (fVar 3) (aCons (fTokR 4) aNil))) (fCall [.t (.v true), .t (.tok .non)] (noErr m_L_second) (aCons (f2 (.t (.v true)) (.t (.v true)) dSub (fVar 3) (fC (.int 15))) (aCons (fTokR 4) aNil)))))
  (sSeq (sSet 7 (fLc [8] (iRg1 (.t (.v true)) (fC (.int 29))) (gNm 8) tYesF (f2 (.t (.v true)) (.t (.v true)) dEq (fVar 8) (fVar 3))))
  (sSeq (sIf (tOrF (fTst (f2 (.t (.v true)) (.t (.v true)) dNe (fCall [.r 6] (noErr m_L_kinds) (aCons (fRef 6) aNil)) (fVar 7))) (tOrF (tNotF (fTru (.t (.v true)) (fIsE 6 (selL "StandError" ern ("StandError" : Str))))) (tNotF (fTru (.t (.v true)) (fIsE 6 (selV ern))))))
  (sRet (fC (.bool false)))
  sNx)
  (sSeq (sIf (fRpNe 4 (fErv 6 4 (nmL ern)))
  (sRet (fC (.bool false)))
  sNx)
  (sIfL 4
  (sSeq (sDrop (fMt 4 oApp (fVar 3)))
  (sIf (tOrF (fTst (f2 (.r 4) (.r 4) dNe (fErv 6 4 (nmL ern)) (fRef 4))) (fTst (f2 (.t (.v true)) (.t (.v true)) dNe (f2 (.r 4) (.t (.v true)) dIx (fErv 6 4 (nmL ern)) (f1 (.t (.v true)) dNeg (fC (.int 1)))) (fVar 3))))
  (sRet (fC (.bool false)))
  sNx))))))))))))
  (sSeq (sSet 4 (fTup (aCons (fCall [.r 2, .t (.v true)] (noErr m_L_draw) (aCons (fRef 2) (aCons (f2 (.t (.v true)) (.t (.v true)) dPow (fC (.int 10)) (fC (.int 9))) aNil))) (aCons (fC (.str ("b" : Str))) aNil))))
  (sFix 4 (sClr 4 (sClr 5 (sSeq (sSet 5 (fMk ("StandError" : Str) (fTokR 4)))
  (sSeq (sIf (tOrF (fTst (f2 (.t (.v true)) (.t (.v true)) dNe (fCall [.r 5] (noErr m_L_kinds) (aCons (fRef 5) aNil)) (f2 (.t (.v true)) (.t (.v true)) dMul (fLst (aCons (fC (.bool false)) aNil)) (fC (.int 29))))) (tOrF (tNotF (fTru (.t (.v true)) (fIsE 5 (selV ern)))) (tNotF (fTru (.t (.v true)) (fCall [.t (.v true), .t (.v true)] (noErr (m_L_same 8)) (aCons (fLst (aCons (fDer 4 (fErv 5 4 (nmL ern))) (aCons (fDer 4 (fErvT 4 (nmL ern) (fMk ("StandError" : Str) (fTokR 4)))) aNil))) (aCons (fLst (aCons (fDer 4 (fRef 4)) (aCons (fDer 4 (fRef 4)) aNil))) aNil)))))))
  (sRet (fC (.bool false)))
  sNx)
  (sIf (tNotF (fTru (.t (.v true)) (fCall [.t (.v true), .t (.v true)] (noErr (m_L_same 8)) (aCons (fCall [.t (.v true)] (noErr m_L_caught) (aCons (fDer 4 (fRef 4)) aNil)) (aCons (f2 (.t (.v true)) (.t (.v true)) dMul (fLst (aCons (fDer 4 (fRef 4)) aNil)) (fC (.int 2))) aNil)))))
  (sRet (fC (.bool false)))
  sNx))))))))))
  (sRet (fC (.bool true))))
noncomputable def m_law : M D := runF [.scr] (.v true) 8 b_law
theorem ok_law (B : Bt mg) (a : At K mg "law" s_law ["script"]) (ER : Er P K mg DE fI C_StandError C_InvalidFrame C_InvalidTable C_InvalidRing C_NoTable C_InvalidCounts C_InvalidLine C_InvalidHeights C_InvalidBoard C_InvalidPlacing C_InvalidMove C_NoPlacing C_InvalidCosts C_InvalidPrices C_InvalidWeeks C_InvalidBenches C_InvalidPairs C_InvalidFractions C_InvalidGroups C_NoLine C_InvalidShares C_InvalidPromises C_InvalidWeights C_InvalidCuts C_InvalidNumber C_TooMany C_Nothing C_Unreadable C_InvalidCommand C_NotReady) (G_L_caught : Kn P w K mg base CX0 2 "_law_caught" ["thing"] (spF K mg [(.v true)] (.v true) (noErr m_L_caught))) (G_L_draw : Kn P w K mg base CX0 1 "_law_draw" ["well", "many"] (spF K mg [(.lst (.v true)), (.v true)] (.v true) (noErr m_L_draw))) (G_L_first : ∀ y : V, Kn P w K mg base CX0 2 "_law_first" ["which", "thing"] (spF K mg [(.v true), (.tok y)] (kEr mg y) (noErr m_L_first))) (G_L_kinds : ∀ y : V, Kn P w K mg base CX0 1 "_law_kinds" ["error"] (spF K mg [(kEr mg y)] (.v true) (noErr m_L_kinds))) (G_L_same : Kn P w K mg base CX0 9 "_law_same" ["told", "due"] (spF K mg [(.v true), (.v true)] (.v true) (noErr (m_L_same 8)))) (G_L_second : ∀ y : V, Kn P w K mg base CX0 2 "_law_second" ["which", "thing"] (spF K mg [(.v true), (.tok y)] (kEr mg y) (noErr m_L_second))) (G_L_thing : Kn P w K mg base CX0 2 "_law_thing" ["well"] (spF K mg [(.lst (.v true))] kOp (noErr m_L_thing))) (G_L_well : Kn P w K mg base CX0 1 "_law_well" ["script", "k"] (spF K mg [.scr, (.v true)] (.lst (.v true)) (noErr m_L_well))) : Kn P w K mg base CX0 10 "law" ["script"] (spF K mg [.scr] (.v true) (noErr m_law)) := by
  refine fn_ok0 (κl := [(.v true), (.lst (.v true)), (.v true), (.v true), (.v true), (.v true), (.v true), (.v true)]) a sc_law rfl ⟨True.intro, True.intro⟩ ⟨True.intro, True.intro, True.intro, True.intro, True.intro, True.intro, True.intro, True.intro, True.intro⟩ rfl fun f cdv A outer s H vs E hv hr => ?_
  match vs, hv with
  | [v0], _ =>
  refine ⟨[.fix v0 .scr, (.v true), (.lst (.v true)), (.v true), (.v true), (.v true), (.v true), (.v true), (.v true)], (RetK.own rfl RetK.nil), ?_⟩
  show FSs _ _ _ [.fix v0 .scr, (.v true), (.lst (.v true)), (.v true), (.v true), (.v true), (.v true), (.v true), (.v true)] _ _ _
  exact (fss_cons (fs_for PassesOwn.never rfl (fi_range1 (by exact rfl) B.range (fe_max2 rfl (by exact rfl) B.max fe_int (fe_min2 rfl (by exact rfl) B.min fe_int (fe_len (by exact rfl) B.len (fe_ref 0))))) (fg_nameK (i := 1) sc_law.nd)
    (fss_cons (fs_setK (i := 2) (fe_fn G_L_well (hr.mono (by decide)) (Fits.r (by first | exact .inl ⟨rfl, nofix_ne True.intro⟩ | exact .inr ⟨_, rfl, nofix_ne True.intro⟩) (Fits.t (nofix_ne True.intro) Fits.nil)) (fa_cons (fe_ref 0) (fa_cons (fe_var 1) fa_nil))) sc_law.nd)
    (fss_cons (fs_for PassesOwn.never rfl (fi_range1 (by exact rfl) B.range fe_int) (fg_nameK (i := 3) sc_law.nd)
    (fss_cons (fs_set (i := 4) (fe_fn G_L_thing (hr.mono (by decide)) (Fits.r (by first | exact .inl ⟨rfl, nofix_ne True.intro⟩ | exact .inr ⟨_, rfl, nofix_ne True.intro⟩) Fits.nil) (fa_cons (fe_ref 2) fa_nil)) sc_law.nd (hl := Nat.lt_of_lt_of_eq (by decide : 4 < 9) (by rfl)))
    (fss_fix 4 rfl True.intro (fun y => (fss_clrE 4 (.v true) True.intro (fss_clrE 6 (.v true) True.intro (fss_cons (fs_set (i := 6) (fe_if (ft_cmp op_lt s_lt (fe_var 3) fe_int (nomark _)) (fe_sh (fe_fn (G_L_first _) (hr.mono (by decide)) (Fits.t (nofix_ne True.intro) (Fits.t (nofix_ne True.intro) Fits.nil)) (fa_cons (fe_var 3) (fa_cons (fe_tokA 4) fa_nil)))) (fe_sh (fe_fn (G_L_second _) (hr.mono (by decide)) (Fits.t (nofix_ne True.intro) (Fits.t (nofix_ne True.intro) Fits.nil)) (fa_cons (fe_op op_sub s_sub (fe_var 3) fe_int) (fa_cons (fe_tokA 4) fa_nil))))) sc_law.nd (hl := Nat.lt_of_lt_of_eq (by decide : 6 < 9) (by rfl)))
    (fss_cons (fs_setLc (i := 7) (kd := (.v _)) (own := [("at", 8)]) (sl := [8]) rfl rfl sc_law.nd rfl (sw_true rfl rfl rfl (by decide +kernel)) (fi_range1 (by exact rfl) B.range fe_int) (blkOk_by (N := N_law) (sc := defScope s_law) (by decide +kernel)) (by repeat (first | exact True.intro | refine And.intro True.intro ?_)) (by decide) (fun _ _ _ _ _ => (fg_nameK (i := 8) sc_law.nd)) (fun _ _ _ _ _ => fts_nil) (fun _ _ _ _ _ => (fe_cmp (op_eqD hr.units) s_eq (fe_var 8) (fe_var 3) (nomark _))))
    (fss_cons (fs_if (ft_w (fw_or (ft_cmp (op_neD hr.units) s_ne (fe_fn (G_L_kinds _) (hr.mono (by decide)) (Fits.r (by first | exact .inl ⟨rfl, nofix_ne True.intro⟩ | exact .inr ⟨_, rfl, nofix_ne True.intro⟩) Fits.nil) (fa_cons (fe_ref 6) fa_nil)) (fe_var 7) (nomark _)) (fw_or (ft_not (ft_tru (fe_isE (i := 6) (.inl rfl) ((erA ER).sel ER.m_StandError) ER.m_StandError B.isinstance))) (fw_or1 (ft_not (ft_tru (fe_isEB (i := 6) (.inl rfl) (erA ER).selv (cls1 (by exact rfl) B.ValueError (by decide +kernel)) B.isinstance)))))))
    (fss_one (fs_ret (κn := _) fe_bl (RetK.own rfl RetK.nil)))
    fss_nil)
    (fss_cons (fs_if (ft_rpNe (t := 4) (fe_erv (i := 6) (t := 4) (.inl rfl) (erA ER).nm) (by exact rfl) B.repr hr.units)
    (fss_one (fs_ret (κn := _) fe_bl (RetK.own rfl RetK.nil)))
    fss_nil)
    (fss_one (fs_ifL (i := 4) (fss_cons (fs_expr (fe_append (i := 4) rfl (fe_ref 4) (fe_var 3)))
    (fss_one (fs_if (ft_w (fw_or (ft_cmp (op_neD hr.units) s_ne (fe_erv (i := 6) (t := 4) (.inl rfl) (erA ER).nm) (fe_ref 4) (nomark _)) (fw_or1 (ft_cmp (op_neD hr.units) s_ne (fe_ix (fe_erv (i := 6) (t := 4) (.inl rfl) (erA ER).nm) (fe_neg fe_int)) (fe_var 3) (nomark _)))))
    (fss_one (fs_ret (κn := _) fe_bl (RetK.own rfl RetK.nil)))
    fss_nil))) (by exact rfl) B.isinstance (cls1 (by exact rfl) B.list (by decide +kernel))))))))))))))
    (fss_cons (fs_setK (i := 4) (fe_tup (k := true) (fa_cons (fe_fn G_L_draw (hr.mono (by decide)) (Fits.r (by first | exact .inl ⟨rfl, nofix_ne True.intro⟩ | exact .inr ⟨_, rfl, nofix_ne True.intro⟩) (Fits.t (nofix_ne True.intro) Fits.nil)) (fa_cons (fe_ref 2) (fa_cons (fe_op op_pow s_pow fe_int fe_int) fa_nil))) (fa_cons fe_str fa_nil))) sc_law.nd)
    (fss_fix 4 rfl True.intro (fun y => (fss_clrE 4 (.v true) True.intro (fss_clrE 5 (.v true) True.intro (fss_cons (fs_set (i := 5) (fe_mkE ER.T ER.c_StandError ER.m_StandError (hr.mono (by decide)) (fe_tokA 4)) sc_law.nd (hl := Nat.lt_of_lt_of_eq (by decide : 5 < 9) (by rfl)))
    (fss_cons (fs_if (ft_w (fw_or (ft_cmp (op_neD hr.units) s_ne (fe_fn (G_L_kinds _) (hr.mono (by decide)) (Fits.r (by first | exact .inl ⟨rfl, nofix_ne True.intro⟩ | exact .inr ⟨_, rfl, nofix_ne True.intro⟩) Fits.nil) (fa_cons (fe_ref 5) fa_nil)) (fe_mul (fe_lst (k := true) (kd := (.v _)) (fa_cons fe_bl fa_nil)) fe_int) (nomark _)) (fw_or (ft_not (ft_tru (fe_isEB (i := 5) (.inl rfl) (erA ER).selv (cls1 (by exact rfl) B.ValueError (by decide +kernel)) B.isinstance))) (fw_or1 (ft_not (ft_tru (fe_fn G_L_same (hr.mono (by decide)) (Fits.t (nofix_ne True.intro) (Fits.t (nofix_ne True.intro) Fits.nil)) (fa_cons (fe_lst (k := true) (kd := (.v _)) (fa_cons (fe_deref (fe_erv (i := 5) (t := 4) (.inl rfl) (erA ER).nm)) (fa_cons (fe_deref (fe_ervT (t := 4) (fe_mkEK ER.T ER.c_StandError ER.m_StandError (hr.mono (by decide)) (fe_tokA 4)) (erA ER).nm)) fa_nil))) (fa_cons (fe_lst (k := true) (kd := (.v _)) (fa_cons (fe_deref (fe_ref 4)) (fa_cons (fe_deref (fe_ref 4)) fa_nil))) fa_nil)))))))))
    (fss_one (fs_ret (κn := _) fe_bl (RetK.own rfl RetK.nil)))
    fss_nil)
    (fss_one (fs_if (ft_not (ft_tru (fe_fn G_L_same (hr.mono (by decide)) (Fits.t (nofix_ne True.intro) (Fits.t (nofix_ne True.intro) Fits.nil)) (fa_cons (fe_fn G_L_caught (hr.mono (by decide)) (Fits.t (nofix_ne True.intro) Fits.nil) (fa_cons (fe_deref (fe_ref 4)) fa_nil)) (fa_cons (fe_mul (fe_lst (k := true) (kd := (.v _)) (fa_cons (fe_deref (fe_ref 4)) fa_nil)) fe_int) fa_nil)))))
    (fss_one (fs_ret (κn := _) fe_bl (RetK.own rfl RetK.nil)))
    fss_nil))))))))))))
    (fss_one (fs_ret (κn := _) fe_bl (RetK.own rfl RetK.nil))))
end
end K98
set_option Elab.async false
set_option linter.all false
set_option maxRecDepth 100000
set_option maxHeartbeats 4000000
/-! K98m: the law's well (no program). -/
namespace K98
open PySem PySem.Spec PyProof.Rows L2 FN
open FNL (log_lt ixN3 mod_in)
/-- what is drawn from, behind at most n mixed draws -/
def Well (n : Nat) (d : FN.D) : Prop := ∃ a b c : Int, d = .list [.int a, .int b, .int c] ∧ 0 ≤ a ∧ a < 10 ^ 60 ∧ 0 ≤ b ∧ b ≤ 10 ^ 27 ∧ 0 ≤ c ∧ c ≤ n
theorem Well.mono {n m : Nat} {d : FN.D} (h : Well n d) (l : n ≤ m) : Well m d := by
  obtain ⟨a, b, c, e, h1, h2, h3, h4, h5, h6⟩ := h
  exact ⟨a, b, c, e, h1, h2, h3, h4, h5, by omega⟩
theorem e_draw {n : Nat} {bag : FN.D} {many : Int} (hb : Well n bag) (hn : n ≤ 1000000) (h1 : 1 ≤ many) (h2 : many ≤ 10 ^ 20) : ∃ i bag', m_L_draw [some bag, some (.int many)] = some (.ok (.int i) [some bag', none]) ∧ Well (n + 1) bag' ∧ 0 ≤ i ∧ i < many := by
  obtain ⟨a, b, c, rfl, ha, ha2, hb1, hb2, hc1, hc2⟩ := hb
  by_cases hp : 0 < a
  · refine ⟨a % many, .list [.int (a / many), .int b, .int c], ?_, ⟨a / many, b, c, rfl, Int.ediv_nonneg ha (by omega), ?_, hb1, hb2, hc1, by omega⟩, (mod_in a many (by omega)).1, (mod_in a many (by omega)).2⟩
    · simp [m_L_draw, u_runF, b_L_draw, hp, dMod_ii (show 0 < many by omega), dDiv_ii (show 0 < many by omega) (show many < 2 ^ 8000 by omega), ixN3]
    · exact Int.lt_of_le_of_lt (Int.ediv_le_self _ ha) ha2
  · have lc : Nat.log2 104729 + (c + 1).natAbs.log2 < 1000000 := by
      have := log_lt (i := c + 1) (k := 63) (by omega) (by decide)
      have : Nat.log2 104729 = 16 := by decide +kernel
      omega
    have lc2 : (c + 1).natAbs.log2 + Nat.log2 2654435761 < 1000000 := by
      have := log_lt (i := c + 1) (k := 63) (by omega) (by decide)
      have : Nat.log2 2654435761 = 31 := by decide +kernel
      omega
    have ec : (b + 104729 * (c + 1)).natAbs.log2 < 1000 := log_lt (by omega) (by decide)
    have m1 := mod_in ((b + 104729 * (c + 1)) ^ 3 + (c + 1) * 2654435761) 1000000000000000000000000103 (by decide)
    have l1 : (((b + 104729 * (c + 1)) ^ 3 + (c + 1) * 2654435761) % 1000000000000000000000000103).natAbs.log2 < 200 := log_lt (by omega) (by decide)
    generalize e1 : ((b + 104729 * (c + 1)) ^ 3 + (c + 1) * 2654435761) % 1000000000000000000000000103 = x1 at m1 l1
    generalize e2 : ((x1 * x1 + 12345) % 10000000000000000000000000331) = x2
    refine ⟨(x2 / 65537) % many, .list [.int a, .int b, .int (c + 1)], ?_, ⟨a, b, c + 1, rfl, ha, ha2, hb1, hb2, by omega, by omega⟩, (mod_in _ many (by omega)).1, (mod_in _ many (by omega)).2⟩
    have p28 : dPow (.int 10) (.int 28) = some (.int 10000000000000000000000000000) := by simp [dPow, oI]
    have p27 : dPow (.int 10) (.int 27) = some (.int 1000000000000000000000000000) := by simp [dPow, oI]
    have p3 : dPowW (.int (b + 104729 * (c + 1))) (.int 3) = some (.int ((b + 104729 * (c + 1)) ^ 3)) := dPowW_ii (by decide) (by decide) ec
    have md : ∀ i : Int, dMod (.int i) (.int 10000000000000000000000000331) = some (.int (i % 10000000000000000000000000331)) := fun i => dMod_ii (by decide)
    have md2 : ∀ i : Int, dMod (.int i) (.int 1000000000000000000000000103) = some (.int (i % 1000000000000000000000000103)) := fun i => dMod_ii (by decide)
    have dv : ∀ i : Int, dDiv (.int i) (.int 65537) = some (.int (i / 65537)) := fun i => dDiv_ii (by decide) (by decide)
    simp [m_L_draw, u_runF, b_L_draw, hp, dMod_ii (show 0 < many by omega), ixN3, dMul, lc, lc2, p28, p27, p3, md, md2, dv, e1, e2, show x1.natAbs.log2 + x1.natAbs.log2 < 1000000 by omega]
open FNL (atI_ints p60) in
theorem e_cell (ns : List Int) (k : Int) (h0 : 0 ≤ k) (h1 : k ≤ 100) : ∃ cell : Int, 0 ≤ cell ∧ cell < 10 ^ 60 ∧ (fIf (fTst (f2 (.t (.v true)) (.t (.v true)) dLt (fVar 1) (f1 (.r 0) dLen (fRef 0)))) (f2 (.t (.v true)) (.t (.v true)) dMod (f1 (.t (.v true)) dInt (f2 (.r 0) (.t (.v true)) dIx (fRef 0) (fVar 1))) (f2 (.t (.v true)) (.t (.v true)) dPow (fC (.int 10)) (fC (.int 60)))) (f2 (.t (.v true)) (.t (.v true)) dAdd (f2 (.t (.v true)) (.t (.v true)) dMul (fC (.int 53)) (fVar 1)) (fC (.int 11)))) [some (.list (ns.map .int)), some (.int k), none, none, none] = some (.ok (.int cell) [some (.list (ns.map .int)), some (.int k), none, none, none]) := by
  have l53 : Nat.log2 53 + k.natAbs.log2 < 1000000 := by
    have := log_lt (i := k) (k := 63) (by omega) (by decide)
    have : Nat.log2 53 = 5 := by decide +kernel
    omega
  have d60 : ∀ i : Int, dMod (.int i) (.int (10 ^ 60)) = some (.int (i % 10 ^ 60)) := fun i => dMod_ii (by decide)
  by_cases h : k < ns.length
  · obtain ⟨i, e⟩ := atI_ints ns k h0 h
    have m := mod_in i (10 ^ 60) (by decide)
    refine ⟨i % 10 ^ 60, m.1, m.2, ?_⟩
    rw [u_fIf, u_fTst, u_f2]
    simp only [u_fVar, List.getElem?_cons_succ, List.getElem?_cons_zero, u_ok, u_f1, u_fRef, u_rdr, u_rdv, dLen_l, Option.map_some, dLt_ii, List.length_map, decide_eq_true h, if_true]
    rw [u_f2, u_f1, u_f2]
    simp only [u_fVar, List.getElem?_cons_succ, List.getElem?_cons_zero, u_ok, u_fRef, u_rdr, u_rdv, dIx_l, e, Option.map_some, dInt_i, u_f2, u_fC, p60, d60]
  · refine ⟨53 * k + 11, by omega, by omega, ?_⟩
    simp [h, dMul, l53]
theorem e_well (ns : List Int) (k : Int) (h0 : 0 ≤ k) (h1 : k ≤ 100) (hl : ns.length ≤ 63) : ∃ bag, m_L_well [some (.list (ns.map .int)), some (.int k)] = some (.ok bag [some (.list (ns.map .int)), none]) ∧ Well 0 bag := by
  obtain ⟨cell, c0, c1, ec⟩ := e_cell ns k h0 h1
  have p20 : dPow (.int 10) (.int 20) = some (.int 100000000000000000000) := by simp [dPow, oI]
  have p24 : dPow (.int 10) (.int 24) = some (.int 1000000000000000000000000) := by simp [dPow, oI]
  have p18 : dPow (.int 10) (.int 18) = some (.int 1000000000000000000) := by simp [dPow, oI]
  have p26 : dPow (.int 10) (.int 26) = some (.int 100000000000000000000000000) := by simp [dPow, oI]
  have md1 : ∀ i : Int, dMod (.int i) (.int 100000000000000000039) = some (.int (i % 100000000000000000039)) := fun i => dMod_ii (by decide)
  have md2 : ∀ i : Int, dMod (.int i) (.int 1000000000000000000000007) = some (.int (i % 1000000000000000000000007)) := fun i => dMod_ii (by decide)
  have md3 : ∀ i : Int, dMod (.int i) (.int 100000000000000000000000067) = some (.int (i % 100000000000000000000000067)) := fun i => dMod_ii (by decide)
  let S := some (PyData.list (ns.map .int))
  have loop : ∃ ρ', sFor (iSeq (f3 (.r 0) (fRef 0) oNone (oSome (fC (.int 63))))) (gNm 4) (sSet 3 (f2 (.t (.v true)) (.t (.v true)) dMod (f1 (.t (.v true)) dInt (f2 (.t (.v true)) (.t (.v true)) dAdd (f2 (.t (.v true)) (.t (.v true)) dMul (fVar 3) (fC (.int 6700417))) (f2 (.t (.v true)) (.t (.v true)) dMod (f1 (.t (.v true)) dInt (fVar 4)) (f2 (.t (.v true)) (.t (.v true)) dAdd (f2 (.t (.v true)) (.t (.v true)) dPow (fC (.int 10)) (fC (.int 20))) (fC (.int 39)))))) (f2 (.t (.v true)) (.t (.v true)) dAdd (f2 (.t (.v true)) (.t (.v true)) dPow (fC (.int 10)) (fC (.int 24))) (fC (.int 7))))) [S, some (.int k), some (.int cell), some (.int (17 + ns.length)), none] = some (.nx ρ') ∧ ∃ (w : Int) (o : Option FN.D), ρ' = [S, some (.int k), some (.int cell), some (.int w), o] ∧ 0 ≤ w ∧ w ≤ 10 ^ 25 := by
    refine for_inv (ds := (ns.map PyData.int).take 63) (ρ1 := [S, some (.int k), some (.int cell), some (.int (17 + ns.length)), none]) (fun _ ρ => ∃ (w : Int) (o : Option FN.D), ρ = [S, some (.int k), some (.int cell), some (.int w), o] ∧ 0 ≤ w ∧ w ≤ 10 ^ 25) ?_ ⟨_, _, rfl, by omega, by omega⟩ ?_
    · simp [S, dCut, cut_to]
      exact cut_to _ 63
    · rintro i d ρ hd ⟨w, o, rfl, w0, w1⟩
      have hm : d ∈ (ns.map PyData.int).take 63 := List.mem_of_getElem? hd
      obtain ⟨x, _, rfl⟩ := List.mem_map.mp (List.mem_of_mem_take hm)
      have lw : w.natAbs.log2 + Nat.log2 6700417 < 1000000 := by
        have := log_lt (i := w) (k := 100) (by omega) (by decide)
        have : Nat.log2 6700417 = 22 := by decide +kernel
        omega
      have m := mod_in (w * 6700417 + x % 100000000000000000039) 1000000000000000000000007 (by decide)
      refine ⟨_, [S, some (.int k), some (.int cell), some (.int ((w * 6700417 + x % 100000000000000000039) % 1000000000000000000000007)), some (.int x)], rfl, .inl ?_, _, _, rfl, m.1, by omega⟩
      simp [S, dMul, lw, p20, p24, md1, md2]
  obtain ⟨ρ', e3, w, o, rfl, w0, w1⟩ := loop
  have m := mod_in (cell * 40014 + w * 7 + 97 * k) 100000000000000000000000067 (by decide)
  have la : cell.natAbs.log2 + Nat.log2 40014 < 1000000 := by
    have := log_lt (i := cell) (k := 300) (by omega) (by decide)
    have : Nat.log2 40014 = 15 := by decide +kernel
    omega
  have lb : w.natAbs.log2 + Nat.log2 7 < 1000000 := by
    have := log_lt (i := w) (k := 100) (by omega) (by decide)
    have : Nat.log2 7 = 2 := by decide +kernel
    omega
  have lc : Nat.log2 97 + k.natAbs.log2 < 1000000 := by
    have := log_lt (i := k) (k := 63) (by omega) (by decide)
    have : Nat.log2 97 = 6 := by decide +kernel
    omega
  refine ⟨.list [.int (if cell - 1000000000000000000 > 0 then cell - 1000000000000000000 else 0), .int ((cell * 40014 + w * 7 + 97 * k) % 100000000000000000000000067), .int 0], ?_, _, _, _, rfl, ?_, ?_, m.1, by omega, by omega, by omega⟩
  · refine run_ret (ρ1 := [S, some (.int k), some (.int cell), some (.int w), o]) ?_ rfl
    refine (seq_nx (ρ1 := [S, some (.int k), some (.int cell), none, none]) ?_).trans ?_
    · rw [u_sSet]
      show bnd (fIf _ _ _ [some (.list (ns.map .int)), some (.int k), none, none, none]) _ _ = _
      rw [ec]
      rfl
    refine (seq_nx (ρ1 := [S, some (.int k), some (.int cell), some (.int (17 + ns.length)), none]) ?_).trans ?_
    · simp [S]
    refine (seq_nx e3).trans ?_
    simp [S, dMul, la, lb, lc, p18, p26, md3, sizeLine_eq]
  · split <;> omega
  · split <;> omega
end K98
set_option Elab.async false
set_option linter.all false
set_option maxRecDepth 100000
set_option maxHeartbeats 4000000
/-! K98n: the things that are handed over, the errors by their number. -/
namespace K98
open PySem PySem.Spec PyProof.Rows L2 FN
open FNL (log_lt ixN3 mod_in)
def things (x : Int) : List FN.D := [.none, .int x, .str "text", .tuple [.int x, .str "a"], .list [.int x], .bool true, .tuple [], .list [], .str "", .dict [(.str "a", .int x)]]
def IsThing (d : FN.D) : Prop := ∃ x : Int, -(10 ^ 20) ≤ x ∧ x ≤ 10 ^ 20 ∧ d ∈ things x
theorem well_list {n : Nat} {bag : FN.D} (h : Well n bag) : ∃ l, bag = .list l := by
  obtain ⟨a, b, c, e, _⟩ := h
  exact ⟨_, e⟩
theorem e_thing {n : Nat} {bag : FN.D} (hb : Well n bag) (hn : n ≤ 100000) : ∃ d bag', m_L_thing [some bag] = some (.ok d [some bag']) ∧ Well (n + 2) bag' ∧ IsThing d := by
  obtain ⟨i, b1, e1, w1, i0, i1⟩ := e_draw (many := 10 ^ 20) hb (by omega) (by omega) (by omega)
  obtain ⟨j, b2, e2, w2, j0, j1⟩ := e_draw (many := 10) w1 (by omega) (by omega) (by omega)
  obtain ⟨l, rfl⟩ := well_list hb
  obtain ⟨l1, rfl⟩ := well_list w1
  have p20 : dPow (.int 10) (.int 20) = some (.int (10 ^ 20)) := by simp [dPow, oI]
  have p19 : dPow (.int 10) (.int 19) = some (.int (10 ^ 19)) := by simp [dPow, oI]
  have hj : j.toNat < (things (i - 10 ^ 19)).length := by
    show j.toNat < 10
    omega
  refine ⟨(things (i - 10 ^ 19))[j.toNat], b2, ?_, w2, i - 10 ^ 19, by omega, by omega, List.getElem_mem hj⟩
  refine run_ret (ρ1 := [some b2, some (.int (i - 10 ^ 19))]) ?_ rfl
  refine (seq_nx (ρ1 := [some (.list l1), some (.int (i - 10 ^ 19))]) ?_).trans ?_
  · rw [u_sSet, u_f2, call_r1 (bv := .list l) (x := .int (10 ^ 20)) rfl (by simp [p20]) e1]
    simp [p19]
  · have c2 := call_r1 (i := 0) (ρ := [some (.list l1), some (.int (i - 10 ^ 19))]) (fx := fC (.int 10)) (t := .v true) (bv := .list l1) (x := .int 10) rfl (by simp) e2
    have hx : ∀ x : Int, (aCons (fOp (fC .none)) (aCons (fOp (fVar 1)) (aCons (fOp (fC (.str ("text" : Str)))) (aCons (fOp (fTup (aCons (fVar 1) (aCons (fC (.str ("a" : Str))) aNil)))) (aCons (fLst (aCons (fVar 1) aNil)) (aCons (fOp (fC (.bool true))) (aCons (fOp (fTup aNil)) (aCons (fLst aNil) (aCons (fOp (fC (.str ("" : Str)))) (aCons (fDisp false (fC (.str ("a" : Str))) (fVar 1)) aNil)))))))))) [some (.list l1), some (.int x)] = some (.ok (things x) [some (.list l1), some (.int x)]) := fun x => by
      simp [things, sizeLine_eq, FN.keyOf, FN.kk]
    rw [u_sRet, u_fPick, hx, u_ok, if_pos (show (things (i - 10 ^ 19)).length ≤ 1000 from by show 10 ≤ 1000; decide), c2, u_ok, u_rdv]
    show bnd (if 0 ≤ j then _ else none) _ _ = _
    rw [if_pos j0, List.getElem?_eq_getElem hj]
    rfl
theorem rp_thing {d : FN.D} (h : IsThing d) : FXR.rpOk d = true := by
  obtain ⟨x, h1, h2, h⟩ := h
  have lx : x.natAbs.log2 < 1920 := Nat.lt_trans (log_lt (i := x) (k := 100) (by omega) (by decide)) (by decide)
  have tl := int_text_len_1921 lx
  have im : FXR.imOk (.int x) = true := decide_eq_true lx
  have ia : FXR.imOk (.str "a") = true := by decide +kernel
  have la : (FXR.tx (.str "a")).length = 3 := by decide +kernel
  have ti : (FXR.tx (.int x)).length ≤ 1921 := tl
  unfold things at h
  simp only [List.mem_cons, List.not_mem_nil, or_false] at h
  rcases h with rfl | rfl | rfl | rfl | rfl | rfl | rfl | rfl | rfl | rfl
  · rfl
  · exact im
  · decide +kernel
  · have e : (tupleText [FXR.tx (.int x), FXR.tx (.str "a")]).length ≤ sizeLine := by
      have j := join_length_add [FXR.tx (.int x), FXR.tx (.str "a")] (by simp)
      rw [piled_cons, piled_cons, piled_nil, la] at j
      unfold tupleText
      rw [strLen_append, strLen_append]
      have l1 : (("(" : Str)).length = 1 := rfl
      have l2 : (((if ([FXR.tx (.int x), FXR.tx (.str "a")].length == 1) = true then ",)" else ")" : String) : Str)).length = 1 := rfl
      rw [l1, l2, sizeLine_eq]
      omega
    show (([PyData.int x, PyData.str "a"].all FXR.imOk) && decide ((tupleText [FXR.tx (.int x), FXR.tx (.str "a")]).length ≤ sizeLine)) = true
    rw [decide_eq_true e]
    simp [im, ia]
  · have e : (listText [FXR.tx (.int x)]).length ≤ sizeLine := by
      unfold listText textFrom textFrom
      simp only [strLen_append]
      have l1 : (("[" : Str)).length = 1 := rfl
      have l2 : (("]" : Str)).length = 1 := rfl
      rw [l2, sizeLine_eq]
      have l3 : ((if 0 > 0 then ", " else "" : String) : Str).length = 0 := rfl
      rw [l1, l3]
      omega
    show (([PyData.int x].all FXR.imOk) && decide ((listText [FXR.tx (.int x)]).length ≤ sizeLine)) = true
    rw [decide_eq_true e]
    simp [im]
  · rfl
  · decide +kernel
  · decide +kernel
  · decide +kernel
  · show ((FXR.imOk (.str "a") && FXR.imOk (.int x)) && decide ((FXR.tx (.str "a")).length + (FXR.tx (.int x)).length + 10 ≤ sizeLine)) = true
    rw [ia, im, la, decide_eq_true (by rw [sizeLine_eq]; omega)]
    rfl
/-! ### the errors by their number -/
def ernT : List Str := ern.tail
/-- an own error by its class -/
def erD (n : Str) : FN.D := .dict [(.str n, .none)]
theorem e_first (i : Nat) (h : i < 15) (t : FN.D) : m_L_first [some (.int i), some t] = some (.ok (erD (ernT.getD (i + 0) "")) [none, some t]) := by
  have hd : ∀ i : Fin 15, m_L_first [some (.int (i.val : Nat)), some t] = some (.ok (erD (ernT.getD (i.val + 0) "")) [none, some t]) := by
    intro i
    match i with
    | ⟨0, _⟩ => simp [m_L_first, u_runF, b_L_first, erD, ernT, ern]
    | ⟨1, _⟩ => simp [m_L_first, u_runF, b_L_first, erD, ernT, ern]
    | ⟨2, _⟩ => simp [m_L_first, u_runF, b_L_first, erD, ernT, ern]
    | ⟨3, _⟩ => simp [m_L_first, u_runF, b_L_first, erD, ernT, ern]
    | ⟨4, _⟩ => simp [m_L_first, u_runF, b_L_first, erD, ernT, ern]
    | ⟨5, _⟩ => simp [m_L_first, u_runF, b_L_first, erD, ernT, ern]
    | ⟨6, _⟩ => simp [m_L_first, u_runF, b_L_first, erD, ernT, ern]
    | ⟨7, _⟩ => simp [m_L_first, u_runF, b_L_first, erD, ernT, ern]
    | ⟨8, _⟩ => simp [m_L_first, u_runF, b_L_first, erD, ernT, ern]
    | ⟨9, _⟩ => simp [m_L_first, u_runF, b_L_first, erD, ernT, ern]
    | ⟨10, _⟩ => simp [m_L_first, u_runF, b_L_first, erD, ernT, ern]
    | ⟨11, _⟩ => simp [m_L_first, u_runF, b_L_first, erD, ernT, ern]
    | ⟨12, _⟩ => simp [m_L_first, u_runF, b_L_first, erD, ernT, ern]
    | ⟨13, _⟩ => simp [m_L_first, u_runF, b_L_first, erD, ernT, ern]
    | ⟨14, _⟩ => simp [m_L_first, u_runF, b_L_first, erD, ernT, ern]
  exact hd ⟨i, h⟩
theorem e_second (i : Nat) (h : i < 14) (t : FN.D) : m_L_second [some (.int i), some t] = some (.ok (erD (ernT.getD (i + 15) "")) [none, some t]) := by
  have hd : ∀ i : Fin 14, m_L_second [some (.int (i.val : Nat)), some t] = some (.ok (erD (ernT.getD (i.val + 15) "")) [none, some t]) := by
    intro i
    match i with
    | ⟨0, _⟩ => simp [m_L_second, u_runF, b_L_second, erD, ernT, ern]
    | ⟨1, _⟩ => simp [m_L_second, u_runF, b_L_second, erD, ernT, ern]
    | ⟨2, _⟩ => simp [m_L_second, u_runF, b_L_second, erD, ernT, ern]
    | ⟨3, _⟩ => simp [m_L_second, u_runF, b_L_second, erD, ernT, ern]
    | ⟨4, _⟩ => simp [m_L_second, u_runF, b_L_second, erD, ernT, ern]
    | ⟨5, _⟩ => simp [m_L_second, u_runF, b_L_second, erD, ernT, ern]
    | ⟨6, _⟩ => simp [m_L_second, u_runF, b_L_second, erD, ernT, ern]
    | ⟨7, _⟩ => simp [m_L_second, u_runF, b_L_second, erD, ernT, ern]
    | ⟨8, _⟩ => simp [m_L_second, u_runF, b_L_second, erD, ernT, ern]
    | ⟨9, _⟩ => simp [m_L_second, u_runF, b_L_second, erD, ernT, ern]
    | ⟨10, _⟩ => simp [m_L_second, u_runF, b_L_second, erD, ernT, ern]
    | ⟨11, _⟩ => simp [m_L_second, u_runF, b_L_second, erD, ernT, ern]
    | ⟨12, _⟩ => simp [m_L_second, u_runF, b_L_second, erD, ernT, ern]
    | ⟨13, _⟩ => simp [m_L_second, u_runF, b_L_second, erD, ernT, ern]
  exact hd ⟨i, h⟩
theorem sel_at {n S : Str} (h : n ∈ ern) (hS : S ∈ ernT) : selL "StandError" ern S n = some (decide (n = S)) := by
  unfold selL
  rw [if_pos h]
  have ne : S ≠ "StandError" := by
    intro z
    subst z
    exact absurd hS (by decide +kernel)
  congr 1
  exact decide_eq_decide.mpr ⟨fun z => z.resolve_right ne, .inl⟩
noncomputable def aE : List Str → M (List FN.D)
  | [] => aNil
  | S :: r => aCons (fIsE 0 (selL "StandError" ern S)) (aE r)
def kdL (n : Str) (Ss : List Str) : List FN.D := Ss.map fun S => .bool (decide (n = S))
theorem e_aE {n : Str} (h : n ∈ ern) {ρ : FN.Env} (h0 : ρ[0]? = some (some (erD n))) : ∀ Ss : List Str, (∀ S ∈ Ss, S ∈ ernT) → aE Ss ρ = some (.ok (kdL n Ss) ρ)
  | [], _ => rfl
  | S :: r, hS => by
    have e1 : fIsE 0 (selL "StandError" ern S) ρ = some (.ok (.bool (decide (n = S))) ρ) := by
      rw [u_fIsE, h0]
      show (selL "StandError" ern S n).map _ = _
      rw [sel_at h (hS S List.mem_cons_self)]
      rfl
    show aCons _ _ ρ = _
    rw [u_aCons, e1, u_ok, e_aE h h0 r (fun S z => hS S (List.mem_cons_of_mem _ z)), u_ok]
    rfl
theorem e_k0 {n : Str} (h : n ∈ ern) (Ss : List Str) (hS : ∀ S ∈ Ss, S ∈ ernT) (hl : Ss.length ≤ 1000) : sSet 1 (fLst (aE Ss)) [some (erD n), none] = some (.nx [some (erD n), some (.list (kdL n Ss))]) := by
  rw [u_sSet, u_fLst, e_aE h rfl Ss hS, u_ok, if_pos (by rw [kdL, List.length_map, sizeLine_eq]; omega)]
  rfl
theorem e_k1 {n : Str} (h : n ∈ ern) (A Ss : List Str) (hS : ∀ S ∈ Ss, S ∈ ernT) (hl : A.length + Ss.length ≤ 1000) : f2 (.t (.v true)) (.t (.v true)) dAdd (fVar 1) (fLst (aE Ss)) [some (erD n), some (.list (kdL n A))] = some (.ok (.list (kdL n (A ++ Ss))) [some (erD n), some (.list (kdL n A))]) := by
  rw [u_f2, u_fVar]
  show bnd (some (.ok (PyData.list (kdL n A)) _)) _ _ = _
  rw [u_ok, u_fLst, e_aE h rfl Ss hS, u_ok, if_pos (by rw [kdL, List.length_map, sizeLine_eq]; omega), u_ok, u_rdv, u_rdv]
  show (dAdd (.list (kdL n A)) (.list (kdL n Ss))).map _ = _
  have e : dAdd (.list (kdL n A)) (.list (kdL n Ss)) = some (.list (kdL n (A ++ Ss))) := by
    show (if (kdL n A).length + (kdL n Ss).length ≤ sizeLine then some (PyData.list (kdL n A ++ kdL n Ss)) else none) = _
    rw [if_pos (by rw [kdL, kdL, List.length_map, List.length_map, sizeLine_eq]; omega)]
    unfold kdL
    rw [List.map_append]
  rw [e]
  rfl
theorem e_kinds {n : Str} (h : n ∈ ern) : m_L_kinds [some (erD n)] = some (.ok (.list (kdL n ernT)) [some (erD n)]) := by
  have st : ∀ A Ss : List Str, (∀ S ∈ Ss, S ∈ ernT) → A.length + Ss.length ≤ 1000 → sSet 1 (f2 (.t (.v true)) (.t (.v true)) dAdd (fVar 1) (fLst (aE Ss))) [some (erD n), some (.list (kdL n A))] = some (.nx [some (erD n), some (.list (kdL n (A ++ Ss)))]) := fun A Ss hS hl => by
    rw [u_sSet, e_k1 h A Ss hS hl]
    rfl
  refine run_ret (ρ1 := [some (erD n), some (.list (kdL n ["InvalidFrame", "InvalidTable", "InvalidRing", "NoTable", "InvalidCounts", "InvalidLine", "InvalidHeights", "InvalidBoard", "InvalidPlacing", "InvalidMove", "NoPlacing", "InvalidCosts", "InvalidPrices", "InvalidWeeks", "InvalidBenches", "InvalidPairs", "InvalidFractions", "InvalidGroups", "NoLine", "InvalidShares", "InvalidPromises", "InvalidWeights", "InvalidCuts", "InvalidNumber", "TooMany"]))]) ?_ rfl
  show sSeq (sSet 1 (fLst (aE ["InvalidFrame", "InvalidTable", "InvalidRing", "NoTable"]))) _ [some (erD n), none] = _
  refine (seq_nx (e_k0 h ["InvalidFrame", "InvalidTable", "InvalidRing", "NoTable"] (by decide +kernel) (by decide))).trans ?_
  refine (seq_nx (st ["InvalidFrame", "InvalidTable", "InvalidRing", "NoTable"] ["InvalidCounts", "InvalidLine", "InvalidHeights"] (by decide +kernel) (by decide))).trans ?_
  refine (seq_nx (st ["InvalidFrame", "InvalidTable", "InvalidRing", "NoTable", "InvalidCounts", "InvalidLine", "InvalidHeights"] ["InvalidBoard", "InvalidPlacing", "InvalidMove"] (by decide +kernel) (by decide))).trans ?_
  refine (seq_nx (st ["InvalidFrame", "InvalidTable", "InvalidRing", "NoTable", "InvalidCounts", "InvalidLine", "InvalidHeights", "InvalidBoard", "InvalidPlacing", "InvalidMove"] ["NoPlacing", "InvalidCosts", "InvalidPrices"] (by decide +kernel) (by decide))).trans ?_
  refine (seq_nx (st ["InvalidFrame", "InvalidTable", "InvalidRing", "NoTable", "InvalidCounts", "InvalidLine", "InvalidHeights", "InvalidBoard", "InvalidPlacing", "InvalidMove", "NoPlacing", "InvalidCosts", "InvalidPrices"] ["InvalidWeeks", "InvalidBenches", "InvalidPairs"] (by decide +kernel) (by decide))).trans ?_
  refine (seq_nx (st ["InvalidFrame", "InvalidTable", "InvalidRing", "NoTable", "InvalidCounts", "InvalidLine", "InvalidHeights", "InvalidBoard", "InvalidPlacing", "InvalidMove", "NoPlacing", "InvalidCosts", "InvalidPrices", "InvalidWeeks", "InvalidBenches", "InvalidPairs"] ["InvalidFractions", "InvalidGroups", "NoLine"] (by decide +kernel) (by decide))).trans ?_
  refine (seq_nx (st ["InvalidFrame", "InvalidTable", "InvalidRing", "NoTable", "InvalidCounts", "InvalidLine", "InvalidHeights", "InvalidBoard", "InvalidPlacing", "InvalidMove", "NoPlacing", "InvalidCosts", "InvalidPrices", "InvalidWeeks", "InvalidBenches", "InvalidPairs", "InvalidFractions", "InvalidGroups", "NoLine"] ["InvalidShares", "InvalidPromises", "InvalidWeights"] (by decide +kernel) (by decide))).trans ?_
  refine (seq_nx (st ["InvalidFrame", "InvalidTable", "InvalidRing", "NoTable", "InvalidCounts", "InvalidLine", "InvalidHeights", "InvalidBoard", "InvalidPlacing", "InvalidMove", "NoPlacing", "InvalidCosts", "InvalidPrices", "InvalidWeeks", "InvalidBenches", "InvalidPairs", "InvalidFractions", "InvalidGroups", "NoLine", "InvalidShares", "InvalidPromises", "InvalidWeights"] ["InvalidCuts", "InvalidNumber", "TooMany"] (by decide +kernel) (by decide))).trans ?_
  show bnd (f2 (.t (.v true)) (.t (.v true)) dAdd (fVar 1) (fLst (aE ["Nothing", "Unreadable", "InvalidCommand", "NotReady"])) [some (erD n), some (.list (kdL n ["InvalidFrame", "InvalidTable", "InvalidRing", "NoTable", "InvalidCounts", "InvalidLine", "InvalidHeights", "InvalidBoard", "InvalidPlacing", "InvalidMove", "NoPlacing", "InvalidCosts", "InvalidPrices", "InvalidWeeks", "InvalidBenches", "InvalidPairs", "InvalidFractions", "InvalidGroups", "NoLine", "InvalidShares", "InvalidPromises", "InvalidWeights", "InvalidCuts", "InvalidNumber", "TooMany"]))]) _ _ = _
  rw [e_k1 h ["InvalidFrame", "InvalidTable", "InvalidRing", "NoTable", "InvalidCounts", "InvalidLine", "InvalidHeights", "InvalidBoard", "InvalidPlacing", "InvalidMove", "NoPlacing", "InvalidCosts", "InvalidPrices", "InvalidWeeks", "InvalidBenches", "InvalidPairs", "InvalidFractions", "InvalidGroups", "NoLine", "InvalidShares", "InvalidPromises", "InvalidWeights", "InvalidCuts", "InvalidNumber", "TooMany"] ["Nothing", "Unreadable", "InvalidCommand", "NotReady"] (by decide +kernel) (by decide)]
  rfl
end K98
set_option Elab.async false
set_option linter.all false
set_option maxRecDepth 100000
set_option maxHeartbeats 4000000
/-! K98o: the law's test of sameness, of caught errors. -/
namespace K98
open PySem PySem.Spec PyProof.Rows L2 FN
open PySem.PyData (strOk)
theorem same_lc {g : M FN.D} {X : FN.D} {ds : List FN.D} (hX : X = .list ds ∨ X = .tuple ds) (hl : ds.length ≤ 1000000) (h : ∀ d ∈ ds, g [some d, some d] = some (.ok (.bool true) [none, none])) :
    fLc [2] (iRg1 (.t (.v true)) (f1 (.t (.v true)) dLen (fVar 1))) (gNm 2) tYesF (fCall [.t (.v true), .t (.v true)] (noErr g) (aCons (f2 (.t (.v true)) (.t (.v true)) dIx (fVar 0) (fVar 2)) (aCons (f2 (.t (.v true)) (.t (.v true)) dIx (fVar 1) (fVar 2)) aNil))) [some X, some X, none] = some (.ok (.list ((rgD 0 ds.length).map fun _ => .bool true)) [some X, some X, none]) := by
  have dl : dLen X = some (.int ds.length) := by rcases hX with rfl | rfl <;> rfl
  have ok : okR (ds.length : Int) = true := okR_of (by omega) (by omega)
  refine lc_all (fun _ => .bool true) (by rw [rgD_len, sizeLine_eq]; omega) (ρw := [some X, some X, none]) (by simp [dl, ok]) rfl fun d hd => ?_
  obtain ⟨k, hk⟩ := List.mem_iff_getElem?.mp hd
  obtain ⟨rfl, hk2⟩ := rgD_get hk
  have hk3 : k < ds.length := by omega
  have ix : dIx X (.int ((k : Nat) : Int)) = some ds[k] := by
    rcases hX with rfl | rfl
    · rw [dIx_l, FN.atI_nat, List.getElem?_eq_getElem hk3]
    · rw [dIx_t, FN.atI_nat, List.getElem?_eq_getElem hk3]
  refine ⟨[some X, some X, some (.int (0 + (k : Nat)))], [some X, some X, some (.int (0 + (k : Nat)))], rfl, ?_, rfl⟩
  exact call_t2 (x := ds[k]) (y := ds[k]) (by simp [ix]) (by simp [ix]) (h _ (List.getElem_mem hk3))
theorem e_same : ∀ (n : Nat) (d : FN.D), FNL.smD n d = true → m_L_same (n + 1) [some d, some d] = some (.ok (.bool true) [none, none])
  | n, .none, _ => by simp [m_L_same, u_runF, b_L_same, isTuple, FN.isList, dIs, isNone, isBool, FN.isInt, isStr]
  | n, .bool c, _ => by cases c <;> simp [m_L_same, u_runF, b_L_same, isTuple, FN.isList, dIs, isNone, isBool, FN.isInt, isStr]
  | n, .int i, _ => by simp [m_L_same, u_runF, b_L_same, isTuple, FN.isList, dIs, isNone, isBool, FN.isInt, isStr]
  | n, .str x, h => by
    have hx : strOk x = true := by unfold FNL.smD at h; exact h
    simp [m_L_same, u_runF, b_L_same, isTuple, FN.isList, dIs, isNone, isBool, FN.isInt, isStr, dEq_ss hx hx]
  | n + 1, .list ds, h => by
    unfold FNL.smD at h
    rw [Bool.and_eq_true, List.all_eq_true] at h
    have lc := same_lc (X := .list ds) (g := m_L_same (n + 1)) (.inl rfl) (of_decide_eq_true h.1) fun d hd => e_same n d (h.2 d hd)
    rw [m_L_same, u_runF, b_L_same]
    simp [isTuple, FN.isList, dIs, isNone, isBool, FN.isInt, isStr, dLen, lc, FNL.dAll_true]
  | n + 1, .tuple ds, h => by
    unfold FNL.smD at h
    rw [Bool.and_eq_true, List.all_eq_true] at h
    have lc := same_lc (X := .tuple ds) (g := m_L_same (n + 1)) (.inr rfl) (of_decide_eq_true h.1) fun d hd => e_same n d (h.2 d hd)
    rw [m_L_same, u_runF, b_L_same]
    simp [isTuple, FN.isList, dIs, isNone, isBool, FN.isInt, isStr, dLen, lc, FNL.dAll_true]
  | 0, .list ds, h => by unfold FNL.smD at h; cases h
  | 0, .tuple ds, h => by unfold FNL.smD at h; cases h
  | n, .dict _, h => by unfold FNL.smD at h; cases h
theorem e_caught (t : FN.D) : m_L_caught [some t] = some (.ok (.list [t, t]) [none]) := by
  refine run_ret (ρ1 := [some t, none, some t, some t]) ?_ rfl
  refine (seq_nx (ρ1 := [some t, none, some .none, some .none]) ?_).trans ?_
  · simp [sizeLine_eq]
    rfl
  refine (seq_nx (ρ1 := [some t, none, some t, some .none]) ?_).trans ?_
  · rw [u_try_err (n := "InvalidNumber") (d := t) (ρ' := [some t, none, some .none, some .none]) (by rfl) (by decide +kernel)]
    simp
  refine (seq_nx (ρ1 := [some t, none, some t, some t]) ?_).trans ?_
  · rw [u_try_err (n := "NoLine") (d := t) (ρ' := [some t, none, some t, some .none]) (by rfl) (by decide +kernel)]
    simp
  simp [sizeLine_eq]
end K98
set_option Elab.async false
set_option linter.all false
set_option maxRecDepth 100000
set_option maxHeartbeats 4000000
/-! K98p: one turn of the inner loop. -/
namespace K98
open PySem PySem.Spec PyProof.Rows L2 FN
open PySem.PyData (strOk eqv eqvAll)
theorem eqvA_me {p : FN.D → Prop} : ∀ {ds : List FN.D}, (∀ d ∈ ds, eqv d d = true) → eqvAll ds ds = true
  | [], _ => eqvA_nn
  | d :: ds, h => by
    rw [eqvA_cc, h d List.mem_cons_self, Bool.true_and]
    exact eqvA_me (p := p) fun x hx => h x (List.mem_cons_of_mem _ hx)
theorem eqv_me : ∀ (n : Nat) (d : FN.D), okD n d = true → eqv d d = true
  | _, .none, _ => eqv_nn
  | _, .bool b, _ => by simp
  | _, .int i, _ => by simp
  | _, .str x, _ => by simp
  | n + 1, .list ds, h => by
    unfold okD at h
    rw [List.all_eq_true] at h
    rw [eqv_ll]
    exact eqvA_me (p := fun _ => True) fun d hd => eqv_me n d (h d hd)
  | n + 1, .tuple ds, h => by
    unfold okD at h
    rw [List.all_eq_true] at h
    rw [eqv_tt]
    exact eqvA_me (p := fun _ => True) fun d hd => eqv_me n d (h d hd)
  | 0, .list ds, h => by unfold okD at h; cases h
  | 0, .tuple ds, h => by unfold okD at h; cases h
  | n, .dict _, h => by unfold okD at h; cases h
theorem dNe_me {n : Nat} {d : FN.D} (h : okD n d = true) (hn : n ≤ 64 := by omega) : dNe d d = some (.bool false) := by
  unfold dNe
  rw [shaped_ok h hn, eqv_me n d h]
  rfl
def bl (l : List Bool) : FN.D := .list (l.map PyData.bool)
theorem okD_bl (l : List Bool) : okD 1 (bl l) = true := by
  unfold bl okD
  rw [List.all_eq_true]
  intro d hd
  obtain ⟨b, _, rfl⟩ := List.mem_map.mp hd
  rfl
theorem okD_il (l : List Int) : okD 1 (.list (l.map PyData.int)) = true := by
  unfold okD
  rw [List.all_eq_true]
  intro d hd
  obtain ⟨b, _, rfl⟩ := List.mem_map.mp hd
  rfl
theorem kd_bl (n : Str) (Ss : List Str) : PyData.list (kdL n Ss) = bl (Ss.map fun S => decide (n = S)) := by
  unfold kdL bl
  rw [List.map_map]
  rfl
/-- which error is whose -/
theorem kinds_at : ∀ i < 29, (ernT.map fun S => decide (ernT.getD i "" = S)) = (List.range 29).map fun k => decide (k = i) := by decide +kernel
theorem ern_at : ∀ i < 29, ernT.getD i "" ∈ ern := by decide +kernel
theorem kinds_base : (ernT.map fun S => decide (("StandError" : Str) = S)) = List.replicate 29 false := by decide +kernel
theorem call_r0 {i : Nat} {g : M FN.D} {ρ : FN.Env} {b' : Option FN.D} {bv v : FN.D} (h0 : ρ[i]? = some (some bv)) (hg : g [some bv] = some (.ok v [b'])) : fCall [.r i] (noErr g) (aCons (fRef i) aNil) ρ = some (.ok v (ρ.set i b')) := by
  rw [u_fCall]
  simp [h0, u_noErr, hg]
/-- the due answers -/
def due (i : Nat) : FN.D := bl ((List.range 29).map fun k => decide (k = i))
theorem e_due {i : Nat} {ρ ρw : FN.Env} (h3 : ρw[3]? = some (some (.int i))) (hw : ρ.set 8 none = ρw) (hl : 8 < ρ.length) : fLc [8] (iRg1 (.t (.v true)) (fC (.int 29))) (gNm 8) tYesF (f2 (.t (.v true)) (.t (.v true)) dEq (fVar 8) (fVar 3)) ρ = some (.ok (due i) ρw) := by
  have wp : wipeE ρw [8] = ρw := by
    show ρw.set 8 none = ρw
    rw [← hw, List.set_set]
  have e := lc_all' (vs := [8]) (ft := gNm 8) (fe := f2 (.t (.v true)) (.t (.v true)) dEq (fVar 8) (fVar 3)) (fi := iRg1 (.t (.v true)) (fC (.int 29))) (ρ := ρ) (ρ1 := ρ) (ρw := ρw) (ds := rgD 0 29) (fun d => match d with | .int a => .bool (decide (a = i)) | d => d) (by rw [rgD_len, sizeLine_eq]; omega) (by simp [okR_of]) hw wp fun d hd => by
    obtain ⟨k, hk⟩ := List.mem_iff_getElem?.mp hd
    obtain ⟨rfl, _⟩ := rgD_get hk
    refine ⟨ρw.set 8 (some (.int (0 + (k : Nat)))), ρw.set 8 (some (.int (0 + (k : Nat)))), rfl, ?_, ?_⟩
    · have h8 : (ρw.set 8 (some (PyData.int (0 + (k : Nat)))))[8]? = some (some (.int (0 + (k : Nat)))) := List.getElem?_set_self (by rw [← hw, List.length_set]; exact hl)
      have h3' : (ρw.set 8 (some (PyData.int (0 + (k : Nat)))))[3]? = some (some (.int i)) := by rw [List.getElem?_set_ne (by decide)]; exact h3
      rw [u_f2, u_fVar, h8]
      simp only [u_ok]
      rw [u_fVar, h3']
      simp
    · show (ρw.set 8 _).set 8 none = ρw
      rw [List.set_set]
      exact wp
  rw [e]
  have z : (rgD 0 29).map (fun d => match d with | .int a => PyData.bool (decide (a = (i : Int))) | d => d) = ((List.range 29).map fun k => decide (k = i)).map PyData.bool := by
    unfold rgD
    rw [List.map_map, List.map_map]
    refine List.map_congr_left fun k _ => ?_
    simp
    omega
  rw [z]
  rfl
theorem ret_false {ρ : FN.Env} {t : M Bool} {ρ1 : FN.Env} (h : t ρ = some (.ok false ρ1)) : sIf t (sRet (fC (.bool false))) sNx ρ = some (.nx ρ1) := by
  rw [u_sIf, h]
  rfl
theorem selv_at {n : Str} (h : n ∈ ern) : selV ern n = some true := by
  unfold selV
  rw [if_pos h]
theorem sels_at {n : Str} (h : n ∈ ern) : selL "StandError" ern "StandError" n = some true := by
  unfold selL
  rw [if_pos h]
  simp
theorem nm_at {n : Str} (h : n ∈ ern) : nmL ern n = true := decide_eq_true h
section
variable {S K wl : FN.D} {d : FN.D} {i : Nat} {o5 o8 : Option FN.D}
/-- the classes are as due -/
theorem t_kinds {n : Str} {e : Nat} {ρ : FN.Env} {L : FN.D} {fl : M FN.D} {rest : M Bool} (hn : n ∈ ern) (he : ρ[e]? = some (some (erD n))) (hL : fl ρ = some (.ok L ρ)) (hd : L = .list (kdL n ernT)) (hr : rest ρ = some (.ok false ρ)) : tOrF (fTst (f2 (.t (.v true)) (.t (.v true)) dNe (fCall [.r e] (noErr m_L_kinds) (aCons (fRef e) aNil)) fl)) rest ρ = some (.ok false ρ) := by
  have ck := call_r0 he (e_kinds hn)
  rw [set_same he] at ck
  have dn : dNe (.list (kdL n ernT)) (.list (kdL n ernT)) = some (.bool false) := by
    rw [kd_bl]
    exact dNe_me (okD_bl _)
  rw [u_tOr, u_fTst, u_f2, ck, u_ok, hL, u_ok, u_rdv, u_rdv, hd]
  simp only [dn, Option.map_some, u_ok]
  exact hr
theorem t_class {n : Str} {e : Nat} {ρ : FN.Env} {sel : Str → Option Bool} (he : ρ[e]? = some (some (erD n))) (hs : sel n = some true) : tNotF (fTru (.t (.v true)) (fIsE e sel)) ρ = some (.ok false ρ) := by
  have e1 : fIsE e sel ρ = some (.ok (.bool true) ρ) := by
    rw [u_fIsE, he]
    show (sel n).map _ = _
    rw [hs]
    rfl
  rw [u_tNot, u_fTru, e1]
  rfl
theorem or_ff {a b : M Bool} {ρ : FN.Env} (h1 : a ρ = some (.ok false ρ)) (h2 : b ρ = some (.ok false ρ)) : tOrF a b ρ = some (.ok false ρ) := by
  rw [u_tOr, h1]
  exact h2
theorem erv_at {n : Str} {e t : Nat} {ρ : FN.Env} {x : FN.D} (hn : n ∈ ern) (he : ρ[e]? = some (some (erD n))) (ht : ρ[t]? = some (some x)) : fErv e t (nmL ern) ρ = some (.ok .none ρ) := by
  rw [u_fErv, he]
  show (if nmL ern n = true then _ else none) = _
  rw [if_pos (nm_at hn), ht]
/-- a list that grew -/
theorem e_list {ds : List FN.D} {n : Str} (hd : ds = [] ∨ ∃ x : Int, ds = [.int x]) (hn : n ∈ ern) (r7 : Option FN.D) : (sSeq (sDrop (fMt 4 oApp (fVar 3)))
  (sIf (tOrF (fTst (f2 (.r 4) (.r 4) dNe (fErv 6 4 (nmL ern)) (fRef 4))) (fTst (f2 (.t (.v true)) (.t (.v true)) dNe (f2 (.r 4) (.t (.v true)) dIx (fErv 6 4 (nmL ern)) (f1 (.t (.v true)) dNeg (fC (.int 1)))) (fVar 3))))
  (sRet (fC (.bool false)))
  sNx)) [some S, some K, some wl, some (.int i), some (.list ds), o5, some (erD n), r7, none] = some (.nx [some S, some K, some wl, some (.int i), some (.list (ds ++ [.int i])), o5, some (erD n), r7, none]) := by
  have hl : ds.length < sizeLine := by
    rw [sizeLine_eq]
    rcases hd with rfl | ⟨x, rfl⟩ <;> simp
  have e4 := erv_at (e := 6) (t := 4) (ρ := [some S, some K, some wl, some (.int i), some (.list (ds ++ [.int i])), o5, some (erD n), r7, none]) hn rfl rfl
  have dn : dNe (.list (ds ++ [.int (i : Int)])) (.list (ds ++ [.int (i : Int)])) = some (.bool false) := by
    rcases hd with rfl | ⟨x, rfl⟩
    · exact dNe_me (okD_il [(i : Int)])
    · exact dNe_me (okD_il [x, (i : Int)])
  have ix : atI (ds ++ [PyData.int (i : Int)]) (-1) = some (.int i) := by
    rcases hd with rfl | ⟨x, rfl⟩ <;> rfl
  refine (seq_nx (ρ1 := [some S, some K, some wl, some (.int i), some (.list (ds ++ [.int i])), o5, some (erD n), r7, none]) ?_).trans ?_
  · simp [oApp, hl]
  refine ret_false (or_ff ?_ ?_)
  · rw [u_fTst, u_f2, e4]
    simp [dn]
  · rw [u_fTst, u_f2, u_f2, e4]
    simp [ix]
theorem clr2 {f : FN.Env → Option Fl} {ρ : FN.Env} {a b c e o5 o6 o7 o8 : Option FN.D} (h : ∃ d', f ρ = some (.nx [a, b, c, e, d', o5, o6, o7, o8])) : sClr 4 (sClr 6 f) ρ = some (.nx [a, b, c, e, none, o5, none, o7, o8]) := by
  obtain ⟨d', h⟩ := h
  exact clr_nx (clr_nx h)
theorem exi_seq {f g : FN.Env → Option Fl} {ρ ρ1 : FN.Env} {r : Option FN.D → Option Fl} (h : f ρ = some (.nx ρ1)) (h2 : ∃ d', g ρ1 = r d') : ∃ d', sSeq f g ρ = r d' := by
  obtain ⟨d', h2⟩ := h2
  exact ⟨d', (seq_nx h).trans h2⟩
theorem list_thing {ds : List FN.D} (h : IsThing (.list ds)) : ds = [] ∨ ∃ x : Int, ds = [.int x] := by
  obtain ⟨x, _, _, h⟩ := h
  unfold things at h
  simp only [List.mem_cons, List.not_mem_nil, or_false] at h
  rcases h with h | h | h | h | h | h | h | h | h | h <;> cases h
  · exact .inr ⟨x, rfl⟩
  · exact .inl rfl
theorem e_turn (hi : i < 29) (hd : IsThing d) : sClr 4 (sClr 6 (sSeq (sSet 6 (fIf (fTst (f2 (.t (.v true)) (.t (.v true)) dLt (fVar 3) (fC (.int 15)))) (fCall [.t (.v true), .t (.tok .non)] (noErr m_L_first) (aCons (fVar 3) (aCons (fTokR 4) aNil))) (fCall [.t (.v true), .t (.tok .non)] (noErr m_L_second) (aCons (f2 (.t (.v true)) (.t (.v true)) dSub (fVar 3) (fC (.int 15))) (aCons (fTokR 4) aNil)))))
  (sSeq (sSet 7 (fLc [8] (iRg1 (.t (.v true)) (fC (.int 29))) (gNm 8) tYesF (f2 (.t (.v true)) (.t (.v true)) dEq (fVar 8) (fVar 3))))
  (sSeq (sIf (tOrF (fTst (f2 (.t (.v true)) (.t (.v true)) dNe (fCall [.r 6] (noErr m_L_kinds) (aCons (fRef 6) aNil)) (fVar 7))) (tOrF (tNotF (fTru (.t (.v true)) (fIsE 6 (selL "StandError" ern ("StandError" : Str))))) (tNotF (fTru (.t (.v true)) (fIsE 6 (selV ern))))))
  (sRet (fC (.bool false)))
  sNx)
  (sSeq (sIf (fRpNe 4 (fErv 6 4 (nmL ern)))
  (sRet (fC (.bool false)))
  sNx)
  (sIfL 4
  (sSeq (sDrop (fMt 4 oApp (fVar 3)))
  (sIf (tOrF (fTst (f2 (.r 4) (.r 4) dNe (fErv 6 4 (nmL ern)) (fRef 4))) (fTst (f2 (.t (.v true)) (.t (.v true)) dNe (f2 (.r 4) (.t (.v true)) dIx (fErv 6 4 (nmL ern)) (f1 (.t (.v true)) dNeg (fC (.int 1)))) (fVar 3))))
  (sRet (fC (.bool false)))
  sNx)))))))) [some S, some K, some wl, some (.int i), some d, o5, o6, o7, o8] = some (.nx [some S, some K, some wl, some (.int i), none, o5, none, some (due i), none]) := by
  have hn := ern_at i hi
  generalize en : ernT.getD i "" = n at hn
  refine clr2 (o6 := some (erD n)) ?_
  have nb : ∀ j : Nat, j = i → (PyData.int (j : Int)) = .int (i : Int) := fun j e => by rw [e]
  -- the error
  refine exi_seq (ρ1 := [some S, some K, some wl, some (.int i), some d, o5, some (erD n), o7, o8]) ?_ ?_
  · by_cases h : i < 15
    · have e1 : fCall [.t (.v true), .t (.tok .non)] (noErr m_L_first) (aCons (fVar 3) (aCons (fTokR 4) aNil)) [some S, some K, some wl, some (.int i), some d, o5, o6, o7, o8] = some (.ok (erD n) [some S, some K, some wl, some (.int i), some d, o5, o6, o7, o8]) := by
        rw [← en]
        exact call_t2 (x := .int i) (y := .dict []) rfl rfl (e_first i h _)
      have hc : ((i : Nat) : Int) < 15 := by omega
      rw [u_sSet, u_fIf, u_fTst, u_f2]
      simp [hc, e1]
    · have e1 : fCall [.t (.v true), .t (.tok .non)] (noErr m_L_second) (aCons (f2 (.t (.v true)) (.t (.v true)) dSub (fVar 3) (fC (.int 15))) (aCons (fTokR 4) aNil)) [some S, some K, some wl, some (.int i), some d, o5, o6, o7, o8] = some (.ok (erD n) [some S, some K, some wl, some (.int i), some d, o5, o6, o7, o8]) := by
        have e2 := e_second (i - 15) (by omega) (.dict [])
        rw [show i - 15 + 15 = i by omega, en, show ((i - 15 : Nat) : Int) = (i : Int) - 15 by omega] at e2
        exact call_t2 (x := .int ((i : Int) - 15)) (y := .dict []) rfl rfl e2
      have hc : ¬ ((i : Nat) : Int) < 15 := by omega
      rw [u_sSet, u_fIf, u_fTst, u_f2]
      simp [hc, e1]
  -- what is due
  refine exi_seq (ρ1 := [some S, some K, some wl, some (.int i), some d, o5, some (erD n), some (due i), none]) ?_ ?_
  · rw [u_sSet, e_due (i := i) (ρ := [some S, some K, some wl, some (.int i), some d, o5, some (erD n), o7, o8]) (ρw := [some S, some K, some wl, some (.int i), some d, o5, some (erD n), o7, none]) rfl rfl (show 8 < 9 by decide)]
    rfl
  refine exi_seq (ρ1 := [some S, some K, some wl, some (.int i), some d, o5, some (erD n), some (due i), none]) ?_ ?_
  · refine ret_false (t_kinds (L := due i) hn rfl rfl ?_ (or_ff (t_class (n := n) rfl (sels_at hn)) (t_class (n := n) rfl (selv_at hn))))
    rw [kd_bl, ← en, kinds_at i hi]
    rfl
  refine exi_seq (ρ1 := [some S, some K, some wl, some (.int i), some d, o5, some (erD n), some (due i), none]) ?_ ?_
  · refine ret_false ?_
    rw [u_fRpNe, erv_at (x := d) hn rfl rfl]
    show (if FXR.rpOk d = true then _ else none) = _
    rw [if_pos (rp_thing hd)]
  -- a list grows
  by_cases hl : ∃ ds, d = .list ds
  · obtain ⟨ds, rfl⟩ := hl
    refine ⟨some (.list (ds ++ [.int i])), ?_⟩
    rw [u_sIfL]
    refine e_list (list_thing hd) hn _
  · refine ⟨some d, ?_⟩
    rw [u_sIfL]
    show (match (some (some d) : Option (Option FN.D)) with | some (some (.list _)) => _ | some (some _) => _ | _ => none) = _
    cases d with
    | list ds => exact absurd ⟨ds, rfl⟩ hl
    | _ => rfl
end
end K98
set_option Elab.async false
set_option linter.all false
set_option maxRecDepth 100000
set_option maxHeartbeats 4000000
/-! K98i: law_true. -/
namespace K98
open PySem PySem.Spec PyProof.Rows L2 FN
open PySem.PyData (strOk eqv eqvAll)
theorem clr45 {f : FN.Env → Option Fl} {ρ : FN.Env} {a b c e o4 o5 o6 o7 o8 : Option FN.D} (h : f ρ = some (.nx [a, b, c, e, o4, o5, o6, o7, o8])) : sClr 4 (sClr 5 f) ρ = some (.nx [a, b, c, e, none, none, o6, o7, o8]) := clr_nx (clr_nx h)
section
variable {S K wl : FN.D} {o3 o5 o6 o7 o8 : Option FN.D} {x : Int}
theorem e_base : sClr 4 (sClr 5 (sSeq (sSet 5 (fMk ("StandError" : Str) (fTokR 4)))
  (sSeq (sIf (tOrF (fTst (f2 (.t (.v true)) (.t (.v true)) dNe (fCall [.r 5] (noErr m_L_kinds) (aCons (fRef 5) aNil)) (f2 (.t (.v true)) (.t (.v true)) dMul (fLst (aCons (fC (.bool false)) aNil)) (fC (.int 29))))) (tOrF (tNotF (fTru (.t (.v true)) (fIsE 5 (selV ern)))) (tNotF (fTru (.t (.v true)) (fCall [.t (.v true), .t (.v true)] (noErr (m_L_same 8)) (aCons (fLst (aCons (fDer 4 (fErv 5 4 (nmL ern))) (aCons (fDer 4 (fErvT 4 (nmL ern) (fMk ("StandError" : Str) (fTokR 4)))) aNil))) (aCons (fLst (aCons (fDer 4 (fRef 4)) (aCons (fDer 4 (fRef 4)) aNil))) aNil)))))))
  (sRet (fC (.bool false)))
  sNx)
  (sIf (tNotF (fTru (.t (.v true)) (fCall [.t (.v true), .t (.v true)] (noErr (m_L_same 8)) (aCons (fCall [.t (.v true)] (noErr m_L_caught) (aCons (fDer 4 (fRef 4)) aNil)) (aCons (f2 (.t (.v true)) (.t (.v true)) dMul (fLst (aCons (fDer 4 (fRef 4)) aNil)) (fC (.int 2))) aNil)))))
  (sRet (fC (.bool false)))
  sNx)))) [some S, some K, some wl, o3, some (.tuple [.int x, .str "b"]), o5, o6, o7, o8] = some (.nx [some S, some K, some wl, o3, none, none, o6, o7, o8]) := by
  have hn : ("StandError" : Str) ∈ ern := by decide +kernel
  generalize hT : PyData.tuple [.int x, .str "b"] = T
  have hsm : FNL.smD 7 (.list [T, T]) = true := by
    subst hT
    simp [FNL.smD]
    decide +kernel
  have sm := e_same 7 _ hsm
  refine clr45 (o4 := some T) (o5 := some (erD "StandError")) ?_
  refine (seq_nx (ρ1 := [some S, some K, some wl, o3, some T, some (erD "StandError"), o6, o7, o8]) ?_).trans ?_
  · rfl
  have ev : fErv 5 4 (nmL ern) [some S, some K, some wl, o3, some T, some (erD "StandError"), o6, o7, o8] = some (.ok .none [some S, some K, some wl, o3, some T, some (erD "StandError"), o6, o7, o8]) := erv_at (e := 5) (t := 4) (x := T) hn rfl rfl
  have d0 : fDer 4 (fRef 4) [some S, some K, some wl, o3, some T, some (erD "StandError"), o6, o7, o8] = some (.ok T [some S, some K, some wl, o3, some T, some (erD "StandError"), o6, o7, o8]) := rfl
  have d1 : fDer 4 (fErv 5 4 (nmL ern)) [some S, some K, some wl, o3, some T, some (erD "StandError"), o6, o7, o8] = some (.ok T [some S, some K, some wl, o3, some T, some (erD "StandError"), o6, o7, o8]) := by
    rw [u_fDer, ev]
    rfl
  have d2 : fDer 4 (fErvT 4 (nmL ern) (fMk ("StandError" : Str) (fTokR 4))) [some S, some K, some wl, o3, some T, some (erD "StandError"), o6, o7, o8] = some (.ok T [some S, some K, some wl, o3, some T, some (erD "StandError"), o6, o7, o8]) := by
    have e : fErvT 4 (nmL ern) (fMk ("StandError" : Str) (fTokR 4)) [some S, some K, some wl, o3, some T, some (erD "StandError"), o6, o7, o8] = some (.ok .none [some S, some K, some wl, o3, some T, some (erD "StandError"), o6, o7, o8]) := by
      rw [u_fErvT]
      show (if nmL ern "StandError" = true then _ else none) = _
      rw [if_pos (nm_at hn)]
      rfl
    rw [u_fDer, e]
    rfl
  refine (seq_nx (ρ1 := [some S, some K, some wl, o3, some T, some (erD "StandError"), o6, o7, o8]) ?_).trans ?_
  · refine ret_false (t_kinds (L := .list (kdL "StandError" ernT)) hn rfl ?_ rfl (or_ff (t_class (n := "StandError") rfl (selv_at hn)) ?_))
    · rw [kd_bl, kinds_base]
      rfl
    · rw [u_tNot, u_fTru, call_t2 (x := .list [T, T]) (y := .list [T, T]) ?_ ?_ sm]
      · rfl
      · rw [u_fLst, u_aCons, d1, u_ok, u_aCons, d2]
        simp [sizeLine_eq]
      · rw [u_fLst, u_aCons, d0, u_ok, u_aCons, d0]
        simp [sizeLine_eq]
  · refine ret_false ?_
    rw [u_tNot, u_fTru, call_t2 (x := .list [T, T]) (y := .list [T, T]) ?_ ?_ sm]
    · rfl
    · exact call_t1 d0 (e_caught T)
    · rw [u_f2, u_fLst, u_aCons, d0]
      simp [sizeLine_eq, dMul]
end
noncomputable def b_in : FN.Env → Option Fl := (sSeq (sSet 4 (fCall [.r 2] (noErr m_L_thing) (aCons (fRef 2) aNil)))
  (sFix 4 (sClr 4 (sClr 6 (sSeq (sSet 6 (fIf (fTst (f2 (.t (.v true)) (.t (.v true)) dLt (fVar 3) (fC (.int 15)))) (fCall [.t (.v true), .t (.tok .non)] (noErr m_L_first) (aCons (fVar 3) (aCons (fTokR 4) aNil))) (fCall [.t (.v true), .t (.tok .non)] (noErr m_L_second) (aCons (f2 (.t (.v true)) (.t (.v true)) dSub (fVar 3) (fC (.int 15))) (aCons (fTokR 4) aNil)))))
  (sSeq (sSet 7 (fLc [8] (iRg1 (.t (.v true)) (fC (.int 29))) (gNm 8) tYesF (f2 (.t (.v true)) (.t (.v true)) dEq (fVar 8) (fVar 3))))
  (sSeq (sIf (tOrF (fTst (f2 (.t (.v true)) (.t (.v true)) dNe (fCall [.r 6] (noErr m_L_kinds) (aCons (fRef 6) aNil)) (fVar 7))) (tOrF (tNotF (fTru (.t (.v true)) (fIsE 6 (selL "StandError" ern ("StandError" : Str))))) (tNotF (fTru (.t (.v true)) (fIsE 6 (selV ern))))))
  (sRet (fC (.bool false)))
  sNx)
  (sSeq (sIf (fRpNe 4 (fErv 6 4 (nmL ern)))
  (sRet (fC (.bool false)))
  sNx)
  (sIfL 4
  (sSeq (sDrop (fMt 4 oApp (fVar 3)))
  (sIf (tOrF (fTst (f2 (.r 4) (.r 4) dNe (fErv 6 4 (nmL ern)) (fRef 4))) (fTst (f2 (.t (.v true)) (.t (.v true)) dNe (f2 (.r 4) (.t (.v true)) dIx (fErv 6 4 (nmL ern)) (f1 (.t (.v true)) dNeg (fC (.int 1)))) (fVar 3))))
  (sRet (fC (.bool false)))
  sNx)))))))))))
noncomputable def b_out : FN.Env → Option Fl := (sSeq (sSet 2 (fCall [.r 0, .t (.v true)] (noErr m_L_well) (aCons (fRef 0) (aCons (fVar 1) aNil))))
  (sSeq (sFor (iRg1 (.t (.v true)) (fC (.int 29))) (gNm 3) b_in)
  (sSeq (sSet 4 (fTup (aCons (fCall [.r 2, .t (.v true)] (noErr m_L_draw) (aCons (fRef 2) (aCons (f2 (.t (.v true)) (.t (.v true)) dPow (fC (.int 10)) (fC (.int 9))) aNil))) (aCons (fC (.str ("b" : Str))) aNil))))
  (sFix 4 (sClr 4 (sClr 5 (sSeq (sSet 5 (fMk ("StandError" : Str) (fTokR 4)))
  (sSeq (sIf (tOrF (fTst (f2 (.t (.v true)) (.t (.v true)) dNe (fCall [.r 5] (noErr m_L_kinds) (aCons (fRef 5) aNil)) (f2 (.t (.v true)) (.t (.v true)) dMul (fLst (aCons (fC (.bool false)) aNil)) (fC (.int 29))))) (tOrF (tNotF (fTru (.t (.v true)) (fIsE 5 (selV ern)))) (tNotF (fTru (.t (.v true)) (fCall [.t (.v true), .t (.v true)] (noErr (m_L_same 8)) (aCons (fLst (aCons (fDer 4 (fErv 5 4 (nmL ern))) (aCons (fDer 4 (fErvT 4 (nmL ern) (fMk ("StandError" : Str) (fTokR 4)))) aNil))) (aCons (fLst (aCons (fDer 4 (fRef 4)) (aCons (fDer 4 (fRef 4)) aNil))) aNil)))))))
  (sRet (fC (.bool false)))
  sNx)
  (sIf (tNotF (fTru (.t (.v true)) (fCall [.t (.v true), .t (.v true)] (noErr (m_L_same 8)) (aCons (fCall [.t (.v true)] (noErr m_L_caught) (aCons (fDer 4 (fRef 4)) aNil)) (aCons (f2 (.t (.v true)) (.t (.v true)) dMul (fLst (aCons (fDer 4 (fRef 4)) aNil)) (fC (.int 2))) aNil)))))
  (sRet (fC (.bool false)))
  sNx)))))))))
theorem law_eq : b_law = sSeq (sFor (iRg1 (.t (.v true)) (f2 (.t (.v true)) (.t (.v true)) dMax2 (fC (.int 1)) (f2 (.t (.v true)) (.t (.v true)) dMin2 (fC (.int 5)) (f1 (.r 0) dLen (fRef 0))))) (gNm 1) b_out) (sRet (fC (.bool true))) := rfl
theorem e_in {n : Nat} {S K wl d0 : FN.D} {i : Nat} {o4 o5 o6 o7 o8 : Option FN.D} (hi : i < 29) (hw : Well n wl) (hn : n ≤ 10000) : ∃ wl' r7, b_in [some S, some K, some wl, some (.int i), o4, o5, o6, o7, o8] = some (.nx [some S, some K, some wl', some (.int i), none, o5, none, r7, none]) ∧ Well (n + 2) wl' := by
  obtain ⟨d, w2, e1, hw2, hd⟩ := e_thing hw (by omega)
  refine ⟨w2, some (due i), ?_, hw2⟩
  refine (seq_nx (ρ1 := [some S, some K, some w2, some (.int i), some d, o5, o6, o7, o8]) ?_).trans ?_
  · rw [u_sSet, call_r0 (bv := wl) rfl e1]
    rfl
  · rw [u_sFix]
    exact e_turn hi hd
theorem e_out {S : FN.D} {ns : List Int} (hS : S = .list (ns.map .int)) (hl : ns.length ≤ 63) {k : Nat} (hk : k ≤ 10) {o2 o3 o4 o5 o6 o7 o8 : Option FN.D} : ∃ r2 r3 r6 r7 r8, b_out [some S, some (.int k), o2, o3, o4, o5, o6, o7, o8] = some (.nx [some S, some (.int k), r2, r3, none, none, r6, r7, r8]) := by
  subst hS
  obtain ⟨wl, ew, hw⟩ := e_well ns k (by omega) (by omega) hl
  have lp : ∃ ρ', sFor (iRg1 (.t (.v true)) (fC (.int 29))) (gNm 3) b_in [some (.list (ns.map .int)), some (.int k), some wl, o3, o4, o5, o6, o7, o8] = some (.nx ρ') ∧ ∃ wl' r3 r4 r5 r6 r7 r8, ρ' = [some (.list (ns.map .int)), some (.int k), some wl', r3, r4, r5, r6, r7, r8] ∧ Well (2 * 29) wl' := by
    have h := for_inv (fi := iRg1 (.t (.v true)) (fC (.int 29))) (ft := gNm 3) (f := b_in) (ρ := [some (.list (ns.map .int)), some (.int k), some wl, o3, o4, o5, o6, o7, o8]) (ρ1 := [some (.list (ns.map .int)), some (.int k), some wl, o3, o4, o5, o6, o7, o8]) (ds := rgD 0 29) (fun m ρ => ∃ wl' r3 r4 r5 r6 r7 r8, ρ = [some (.list (ns.map .int)), some (.int k), some wl', r3, r4, r5, r6, r7, r8] ∧ Well (2 * m) wl') (by simp [okR_of]) ⟨wl, o3, o4, o5, o6, o7, o8, rfl, hw⟩ (by
      rintro m d ρ hd ⟨wl', r3, r4, r5, r6, r7, r8, rfl, hw'⟩
      obtain ⟨rfl, hm⟩ := rgD_get hd
      have hm2 : m < 29 := by omega
      obtain ⟨w2, r7', e, hw2⟩ := e_in (S := .list (ns.map .int)) (K := .int k) (i := m) (o4 := r4) (o5 := r5) (o6 := r6) (o7 := r7) (o8 := r8) (d0 := .none) hm2 hw' (by omega)
      refine ⟨[some (.list (ns.map .int)), some (.int k), some wl', some (.int m), r4, r5, r6, r7, r8], _, by rw [Int.zero_add]; rfl, .inl e, w2, _, _, _, _, _, _, rfl, ?_⟩
      rw [show 2 * (m + 1) = 2 * m + 2 by omega]
      exact hw2)
    obtain ⟨ρ', e, h⟩ := h
    rw [rgD_len] at h
    exact ⟨ρ', e, h⟩
  obtain ⟨ρ', el, wl', r3, r4, r5, r6, r7, r8, rfl, hw'⟩ := lp
  obtain ⟨x, w3, ed, hw3, x0, x1⟩ := e_draw (many := 10 ^ 9) hw' (by omega) (by omega) (by omega)
  refine ⟨some w3, r3, r6, r7, r8, ?_⟩
  refine (seq_nx (ρ1 := [some (.list (ns.map .int)), some (.int k), some wl, o3, o4, o5, o6, o7, o8]) ?_).trans ?_
  · rw [u_sSet, call_r1 (bv := .list (ns.map .int)) (x := .int k) rfl rfl ew]
    rfl
  refine (seq_nx el).trans ?_
  refine (seq_nx (ρ1 := [some (.list (ns.map .int)), some (.int k), some w3, r3, some (.tuple [.int x, .str "b"]), r5, r6, r7, r8]) ?_).trans ?_
  · have p9 : dPow (.int 10) (.int 9) = some (.int (10 ^ 9)) := by simp [dPow, oI]
    rw [u_sSet, u_fTup, u_aCons, call_r1 (bv := wl') (x := .int (10 ^ 9)) rfl (by simp [p9]) ed]
    simp [sizeLine_eq]
  · rw [u_sFix]
    exact e_base
theorem law_true : ∀ ns : List Int, ns.length ≤ 63 → ∃ ρ', (noErr m_law) [some (.list (ns.map .int))] = some (.ok (.bool true) ρ') := by
  intro ns hl
  have hm : ∃ m : Nat, m ≤ 5 ∧ iRg1 (.t (.v true)) (f2 (.t (.v true)) (.t (.v true)) dMax2 (fC (.int 1)) (f2 (.t (.v true)) (.t (.v true)) dMin2 (fC (.int 5)) (f1 (.r 0) dLen (fRef 0)))) [some (.list (ns.map .int)), none, none, none, none, none, none, none, none] = some (.ok (rgD 0 m) [some (.list (ns.map .int)), none, none, none, none, none, none, none, none]) := by
    refine ⟨(if (if (ns.length : Int) < 5 then (ns.length : Int) else 5) > 1 then (if (ns.length : Int) < 5 then (ns.length : Int) else 5) else 1).toNat, by split <;> split <;> omega, ?_⟩
    have e : ((((if (if (ns.length : Int) < 5 then (ns.length : Int) else 5) > 1 then (if (ns.length : Int) < 5 then (ns.length : Int) else 5) else 1).toNat : Nat) : Int)) = (if (if (ns.length : Int) < 5 then (ns.length : Int) else 5) > 1 then (if (ns.length : Int) < 5 then (ns.length : Int) else 5) else 1) := by split <;> split <;> omega
    rw [e]
    have ok : okR (if (if (ns.length : Int) < 5 then (ns.length : Int) else 5) > 1 then (if (ns.length : Int) < 5 then (ns.length : Int) else 5) else 1) = true := okR_of (by split <;> split <;> omega) (by split <;> split <;> omega)
    rw [u_iRg1]
    simp [ok]
  obtain ⟨m, m5, em⟩ := hm
  obtain ⟨ρ', e, _⟩ := for_inv (ft := gNm 1) (f := b_out) (ρ1 := [some (.list (ns.map .int)), none, none, none, none, none, none, none, none]) (fun _ ρ => ∃ a b c d e f g h, ρ = [some (.list (ns.map .int)), a, b, c, d, e, f, g, h]) em ⟨_, _, _, _, _, _, _, _, rfl⟩ (by
    rintro k d ρ hd ⟨a, b, c, d', e, f, g, h, rfl⟩
    obtain ⟨rfl, hk⟩ := rgD_get hd
    obtain ⟨r2, r3, r6, r7, r8, eo⟩ := e_out (S := .list (ns.map .int)) (ns := ns) rfl hl (k := k) (by omega) (o2 := b) (o3 := c) (o4 := d') (o5 := e) (o6 := f) (o7 := g) (o8 := h)
    exact ⟨[some (.list (ns.map .int)), some (.int k), b, c, d', e, f, g, h], _, by rw [Int.zero_add]; rfl, .inl eo, _, _, _, _, _, _, _, _, rfl⟩)
  refine ⟨outs [.scr] ρ', ?_⟩
  have run : m_law [some (.list (ns.map .int))] = some (.ok (.bool true) (outs [.scr] ρ')) := by
    refine run_ret (ρ1 := ρ') ?_ rfl
    rw [law_eq]
    exact (seq_nx e).trans rfl
  unfold noErr
  rw [run]
end K98
set_option Elab.async false
set_option linter.all false
set_option maxRecDepth 100000
set_option maxHeartbeats 8000000
namespace K98
open PySem PySem.Spec PyProof.Rows L2 FN
structure Facts (P : Program) (K : PySem.W.Frag) (mg : Str → Option Value) : Prop where
  B : Bt mg
  ER : ∃ DE fI C_StandError C_InvalidFrame C_InvalidTable C_InvalidRing C_NoTable C_InvalidCounts C_InvalidLine C_InvalidHeights C_InvalidBoard C_InvalidPlacing C_InvalidMove C_NoPlacing C_InvalidCosts C_InvalidPrices C_InvalidWeeks C_InvalidBenches C_InvalidPairs C_InvalidFractions C_InvalidGroups C_NoLine C_InvalidShares C_InvalidPromises C_InvalidWeights C_InvalidCuts C_InvalidNumber C_TooMany C_Nothing C_Unreadable C_InvalidCommand C_NotReady : Addr, Er P K mg DE fI C_StandError C_InvalidFrame C_InvalidTable C_InvalidRing C_NoTable C_InvalidCounts C_InvalidLine C_InvalidHeights C_InvalidBoard C_InvalidPlacing C_InvalidMove C_NoPlacing C_InvalidCosts C_InvalidPrices C_InvalidWeeks C_InvalidBenches C_InvalidPairs C_InvalidFractions C_InvalidGroups C_NoLine C_InvalidShares C_InvalidPromises C_InvalidWeights C_InvalidCuts C_InvalidNumber C_TooMany C_Nothing C_Unreadable C_InvalidCommand C_NotReady
  A__law_well : At K mg "_law_well" s_L_well ["script", "k"]
  A__law_draw : At K mg "_law_draw" s_L_draw ["well", "many"]
  A__law_thing : At K mg "_law_thing" s_L_thing ["well"]
  A__law_same : At K mg "_law_same" s_L_same ["told", "due"]
  A__law_first : At K mg "_law_first" s_L_first ["which", "thing"]
  A__law_second : At K mg "_law_second" s_L_second ["which", "thing"]
  A__law_kinds : At K mg "_law_kinds" s_L_kinds ["error"]
  A__law_caught : At K mg "_law_caught" s_L_caught ["thing"]
  A_law : At K mg "law" s_law ["script"]
theorem law_kn {P : Program} {w : World} {K : PySem.W.Frag} {mg : Str → Option Value} (F : Facts P K mg) (base : Heap) : Kn P w K mg base CX0 10 "law" ["script"] (spF K mg [.scr] (.v true) (noErr m_law)) := by
  obtain ⟨DE, fI, C_StandError, C_InvalidFrame, C_InvalidTable, C_InvalidRing, C_NoTable, C_InvalidCounts, C_InvalidLine, C_InvalidHeights, C_InvalidBoard, C_InvalidPlacing, C_InvalidMove, C_NoPlacing, C_InvalidCosts, C_InvalidPrices, C_InvalidWeeks, C_InvalidBenches, C_InvalidPairs, C_InvalidFractions, C_InvalidGroups, C_NoLine, C_InvalidShares, C_InvalidPromises, C_InvalidWeights, C_InvalidCuts, C_InvalidNumber, C_TooMany, C_Nothing, C_Unreadable, C_InvalidCommand, C_NotReady, ER⟩ := F.ER
  have G_L_well := ok_L_well (P := P) (w := w) (base := base) F.B F.A__law_well 
  have G_L_draw := ok_L_draw (P := P) (w := w) (base := base) F.B F.A__law_draw 
  have G_L_thing := ok_L_thing (P := P) (w := w) (base := base) F.B F.A__law_thing G_L_draw
  have G_L_same := ok_L_same (P := P) (w := w) (base := base) F.B F.A__law_same  8
  have G_L_first := fun y : V => ok_L_first (P := P) (w := w) (base := base) (y := y) F.B F.A__law_first ER
  have G_L_second := fun y : V => ok_L_second (P := P) (w := w) (base := base) (y := y) F.B F.A__law_second ER
  have G_L_kinds := fun y : V => ok_L_kinds (P := P) (w := w) (base := base) (y := y) F.B F.A__law_kinds ER
  have G_L_caught := ok_L_caught (P := P) (w := w) (base := base) F.B F.A__law_caught ER
  have G_law := ok_law (P := P) (w := w) (base := base) F.B F.A_law ER G_L_caught G_L_draw G_L_first G_L_kinds G_L_same G_L_second G_L_thing G_L_well
  exact G_law
end K98
open PySem PySem.W PyProof.Rows
set_option maxRecDepth 100000 in
set_option maxHeartbeats 0 in
theorem PySem.Challenge.cw_choirstands_k98_errors_of_the_package_holds : PySem.Challenge.rw_choirstands_k98_errors_of_the_package.Holds := by
  w_on; o_law; k_head; (case hw => w_witness2)
  k_fill
  refine L2.walk_of (l := PySem.Challenge.rw_choirstands_k98_errors_of_the_package) (n := 63) (k := 10) (x := "script") (CX := fun _ => L2.CX0) (sp := fun w => FN.spLaw 63 _) rfl (by decide) rfl ⟨rfl, by decide, by decide⟩ (fun w h Y => PySem.W.kIn_of Y) ?F (fun _ _ a ns hl _ hS => ⟨a, ns, rfl, hS, hl, fun _ => rfl⟩) (fun _ _ _ _ _ h => h)
  case F =>
    intro w mg fa h KX G hmg
    refine' FN.use (FN.at_mk (x := "_law_well") (st := K98.s_L_well) (ps := ["script", "k"]) KX G ?a ?l ?c ?k (fun _ _ _ _ _ _ us hl => match us, hl with | [_, _], _ => rfl)) (fun A__law_well => ?_)
    (case a => k_is); (case l => k_is); (case c => k_is); (case k => k_is)
    refine' FN.use (FN.at_mk (x := "_law_draw") (st := K98.s_L_draw) (ps := ["well", "many"]) KX G ?a ?l ?c ?k (fun _ _ _ _ _ _ us hl => match us, hl with | [_, _], _ => rfl)) (fun A__law_draw => ?_)
    (case a => k_is); (case l => k_is); (case c => k_is); (case k => k_is)
    refine' FN.use (FN.at_mk (x := "_law_thing") (st := K98.s_L_thing) (ps := ["well"]) KX G ?a ?l ?c ?k (fun _ _ _ _ _ _ us hl => match us, hl with | [_], _ => rfl)) (fun A__law_thing => ?_)
    (case a => k_is); (case l => k_is); (case c => k_is); (case k => k_is)
    refine' FN.use (FN.at_mk (x := "_law_same") (st := K98.s_L_same) (ps := ["told", "due"]) KX G ?a ?l ?c ?k (fun _ _ _ _ _ _ us hl => match us, hl with | [_, _], _ => rfl)) (fun A__law_same => ?_)
    (case a => k_is); (case l => k_is); (case c => k_is); (case k => k_is)
    refine' FN.use (FN.at_mk (x := "_law_first") (st := K98.s_L_first) (ps := ["which", "thing"]) KX G ?a ?l ?c ?k (fun _ _ _ _ _ _ us hl => match us, hl with | [_, _], _ => rfl)) (fun A__law_first => ?_)
    (case a => k_is); (case l => k_is); (case c => k_is); (case k => k_is)
    refine' FN.use (FN.at_mk (x := "_law_second") (st := K98.s_L_second) (ps := ["which", "thing"]) KX G ?a ?l ?c ?k (fun _ _ _ _ _ _ us hl => match us, hl with | [_, _], _ => rfl)) (fun A__law_second => ?_)
    (case a => k_is); (case l => k_is); (case c => k_is); (case k => k_is)
    refine' FN.use (FN.at_mk (x := "_law_kinds") (st := K98.s_L_kinds) (ps := ["error"]) KX G ?a ?l ?c ?k (fun _ _ _ _ _ _ us hl => match us, hl with | [_], _ => rfl)) (fun A__law_kinds => ?_)
    (case a => k_is); (case l => k_is); (case c => k_is); (case k => k_is)
    refine' FN.use (FN.at_mk (x := "_law_caught") (st := K98.s_L_caught) (ps := ["thing"]) KX G ?a ?l ?c ?k (fun _ _ _ _ _ _ us hl => match us, hl with | [_], _ => rfl)) (fun A__law_caught => ?_)
    (case a => k_is); (case l => k_is); (case c => k_is); (case k => k_is)
    refine' FN.use (FN.at_mk (x := "law") (st := K98.s_law) (ps := ["script"]) KX G ?a ?l ?c ?k (fun _ _ _ _ _ _ us hl => match us, hl with | [_], _ => rfl)) (fun A_law => ?_)
    (case a => k_is); (case l => k_is); (case c => k_is); (case k => k_is)
    have Z_ValueError : mg "ValueError" = none := PySem.W.mg_none_of KX G (by k_is)
    have Z_all : mg "all" = none := PySem.W.mg_none_of KX G (by k_is)
    have Z_bool : mg "bool" = none := PySem.W.mg_none_of KX G (by k_is)
    have Z_int : mg "int" = none := PySem.W.mg_none_of KX G (by k_is)
    have Z_isinstance : mg "isinstance" = none := PySem.W.mg_none_of KX G (by k_is)
    have Z_len : mg "len" = none := PySem.W.mg_none_of KX G (by k_is)
    have Z_list : mg "list" = none := PySem.W.mg_none_of KX G (by k_is)
    have Z_max : mg "max" = none := PySem.W.mg_none_of KX G (by k_is)
    have Z_min : mg "min" = none := PySem.W.mg_none_of KX G (by k_is)
    have Z_range : mg "range" = none := PySem.W.mg_none_of KX G (by k_is)
    have Z_repr : mg "repr" = none := PySem.W.mg_none_of KX G (by k_is)
    have Z_str : mg "str" = none := PySem.W.mg_none_of KX G (by k_is)
    have Z_tuple : mg "tuple" = none := PySem.W.mg_none_of KX G (by k_is)
    have B : K98.Bt mg := ⟨Z_ValueError, Z_all, Z_bool, Z_int, Z_isinstance, Z_len, Z_list, Z_max, Z_min, Z_range, Z_repr, Z_str, Z_tuple⟩
    refine' FN.use (⟨_, _, _, _, _, _, _, _, _, _, _, _, _, _, _, _, _, _, _, _, _, _, _, _, _, _, _, _, _, _, _, _, ⟨FN.err_txt KX G ?e1 ?e2 ?e3 ?e4 ?e5 ?e6 ?e7 ?e8 ?e9 ?e10 ?e11, PySem.W.mg_of KX G ?m_StandError, PySem.W.mg_of KX G ?m_InvalidFrame, PySem.W.mg_of KX G ?m_InvalidTable, PySem.W.mg_of KX G ?m_InvalidRing, PySem.W.mg_of KX G ?m_NoTable, PySem.W.mg_of KX G ?m_InvalidCounts, PySem.W.mg_of KX G ?m_InvalidLine, PySem.W.mg_of KX G ?m_InvalidHeights, PySem.W.mg_of KX G ?m_InvalidBoard, PySem.W.mg_of KX G ?m_InvalidPlacing, PySem.W.mg_of KX G ?m_InvalidMove, PySem.W.mg_of KX G ?m_NoPlacing, PySem.W.mg_of KX G ?m_InvalidCosts, PySem.W.mg_of KX G ?m_InvalidPrices, PySem.W.mg_of KX G ?m_InvalidWeeks, PySem.W.mg_of KX G ?m_InvalidBenches, PySem.W.mg_of KX G ?m_InvalidPairs, PySem.W.mg_of KX G ?m_InvalidFractions, PySem.W.mg_of KX G ?m_InvalidGroups, PySem.W.mg_of KX G ?m_NoLine, PySem.W.mg_of KX G ?m_InvalidShares, PySem.W.mg_of KX G ?m_InvalidPromises, PySem.W.mg_of KX G ?m_InvalidWeights, PySem.W.mg_of KX G ?m_InvalidCuts, PySem.W.mg_of KX G ?m_InvalidNumber, PySem.W.mg_of KX G ?m_TooMany, PySem.W.mg_of KX G ?m_Nothing, PySem.W.mg_of KX G ?m_Unreadable, PySem.W.mg_of KX G ?m_InvalidCommand, PySem.W.mg_of KX G ?m_NotReady, ⟨FN.oex_mk ?x_InvalidBenches ?r_InvalidBenches ?sa_InvalidBenches ?ex_InvalidBenches ?ty_InvalidBenches ?kp_InvalidBenches, ?iC_InvalidBenches, ?tI_InvalidBenches, ?no_InvalidBenches, ?su_InvalidBenches, ?sv_InvalidBenches, ?sp_InvalidBenches⟩, ⟨?ga_InvalidBenches, ?gg_InvalidBenches, ?ex2_InvalidBenches, ?hd_InvalidBenches⟩, ⟨?ga2_InvalidBenches, ?gg2_InvalidBenches, ?ex3_InvalidBenches, ?hd2_InvalidBenches, ?ha_InvalidBenches, ?hn_InvalidBenches, ?ht_InvalidBenches, ?hm_InvalidBenches⟩, ?ki_InvalidBenches, ⟨FN.oex_mk ?x_InvalidBoard ?r_InvalidBoard ?sa_InvalidBoard ?ex_InvalidBoard ?ty_InvalidBoard ?kp_InvalidBoard, ?iC_InvalidBoard, ?tI_InvalidBoard, ?no_InvalidBoard, ?su_InvalidBoard, ?sv_InvalidBoard, ?sp_InvalidBoard⟩, ⟨?ga_InvalidBoard, ?gg_InvalidBoard, ?ex2_InvalidBoard, ?hd_InvalidBoard⟩, ⟨?ga2_InvalidBoard, ?gg2_InvalidBoard, ?ex3_InvalidBoard, ?hd2_InvalidBoard, ?ha_InvalidBoard, ?hn_InvalidBoard, ?ht_InvalidBoard, ?hm_InvalidBoard⟩, ?ki_InvalidBoard, ⟨FN.oex_mk ?x_InvalidCommand ?r_InvalidCommand ?sa_InvalidCommand ?ex_InvalidCommand ?ty_InvalidCommand ?kp_InvalidCommand, ?iC_InvalidCommand, ?tI_InvalidCommand, ?no_InvalidCommand, ?su_InvalidCommand, ?sv_InvalidCommand, ?sp_InvalidCommand⟩, ⟨?ga_InvalidCommand, ?gg_InvalidCommand, ?ex2_InvalidCommand, ?hd_InvalidCommand⟩, ⟨?ga2_InvalidCommand, ?gg2_InvalidCommand, ?ex3_InvalidCommand, ?hd2_InvalidCommand, ?ha_InvalidCommand, ?hn_InvalidCommand, ?ht_InvalidCommand, ?hm_InvalidCommand⟩, ?ki_InvalidCommand, ⟨FN.oex_mk ?x_InvalidCosts ?r_InvalidCosts ?sa_InvalidCosts ?ex_InvalidCosts ?ty_InvalidCosts ?kp_InvalidCosts, ?iC_InvalidCosts, ?tI_InvalidCosts, ?no_InvalidCosts, ?su_InvalidCosts, ?sv_InvalidCosts, ?sp_InvalidCosts⟩, ⟨?ga_InvalidCosts, ?gg_InvalidCosts, ?ex2_InvalidCosts, ?hd_InvalidCosts⟩, ⟨?ga2_InvalidCosts, ?gg2_InvalidCosts, ?ex3_InvalidCosts, ?hd2_InvalidCosts, ?ha_InvalidCosts, ?hn_InvalidCosts, ?ht_InvalidCosts, ?hm_InvalidCosts⟩, ?ki_InvalidCosts, ⟨FN.oex_mk ?x_InvalidCounts ?r_InvalidCounts ?sa_InvalidCounts ?ex_InvalidCounts ?ty_InvalidCounts ?kp_InvalidCounts, ?iC_InvalidCounts, ?tI_InvalidCounts, ?no_InvalidCounts, ?su_InvalidCounts, ?sv_InvalidCounts, ?sp_InvalidCounts⟩, ⟨?ga_InvalidCounts, ?gg_InvalidCounts, ?ex2_InvalidCounts, ?hd_InvalidCounts⟩, ⟨?ga2_InvalidCounts, ?gg2_InvalidCounts, ?ex3_InvalidCounts, ?hd2_InvalidCounts, ?ha_InvalidCounts, ?hn_InvalidCounts, ?ht_InvalidCounts, ?hm_InvalidCounts⟩, ?ki_InvalidCounts, ⟨FN.oex_mk ?x_InvalidCuts ?r_InvalidCuts ?sa_InvalidCuts ?ex_InvalidCuts ?ty_InvalidCuts ?kp_InvalidCuts, ?iC_InvalidCuts, ?tI_InvalidCuts, ?no_InvalidCuts, ?su_InvalidCuts, ?sv_InvalidCuts, ?sp_InvalidCuts⟩, ⟨?ga_InvalidCuts, ?gg_InvalidCuts, ?ex2_InvalidCuts, ?hd_InvalidCuts⟩, ⟨?ga2_InvalidCuts, ?gg2_InvalidCuts, ?ex3_InvalidCuts, ?hd2_InvalidCuts, ?ha_InvalidCuts, ?hn_InvalidCuts, ?ht_InvalidCuts, ?hm_InvalidCuts⟩, ?ki_InvalidCuts, ⟨FN.oex_mk ?x_InvalidFractions ?r_InvalidFractions ?sa_InvalidFractions ?ex_InvalidFractions ?ty_InvalidFractions ?kp_InvalidFractions, ?iC_InvalidFractions, ?tI_InvalidFractions, ?no_InvalidFractions, ?su_InvalidFractions, ?sv_InvalidFractions, ?sp_InvalidFractions⟩, ⟨?ga_InvalidFractions, ?gg_InvalidFractions, ?ex2_InvalidFractions, ?hd_InvalidFractions⟩, ⟨?ga2_InvalidFractions, ?gg2_InvalidFractions, ?ex3_InvalidFractions, ?hd2_InvalidFractions, ?ha_InvalidFractions, ?hn_InvalidFractions, ?ht_InvalidFractions, ?hm_InvalidFractions⟩, ?ki_InvalidFractions, ⟨FN.oex_mk ?x_InvalidFrame ?r_InvalidFrame ?sa_InvalidFrame ?ex_InvalidFrame ?ty_InvalidFrame ?kp_InvalidFrame, ?iC_InvalidFrame, ?tI_InvalidFrame, ?no_InvalidFrame, ?su_InvalidFrame, ?sv_InvalidFrame, ?sp_InvalidFrame⟩, ⟨?ga_InvalidFrame, ?gg_InvalidFrame, ?ex2_InvalidFrame, ?hd_InvalidFrame⟩, ⟨?ga2_InvalidFrame, ?gg2_InvalidFrame, ?ex3_InvalidFrame, ?hd2_InvalidFrame, ?ha_InvalidFrame, ?hn_InvalidFrame, ?ht_InvalidFrame, ?hm_InvalidFrame⟩, ?ki_InvalidFrame, ⟨FN.oex_mk ?x_InvalidGroups ?r_InvalidGroups ?sa_InvalidGroups ?ex_InvalidGroups ?ty_InvalidGroups ?kp_InvalidGroups, ?iC_InvalidGroups, ?tI_InvalidGroups, ?no_InvalidGroups, ?su_InvalidGroups, ?sv_InvalidGroups, ?sp_InvalidGroups⟩, ⟨?ga_InvalidGroups, ?gg_InvalidGroups, ?ex2_InvalidGroups, ?hd_InvalidGroups⟩, ⟨?ga2_InvalidGroups, ?gg2_InvalidGroups, ?ex3_InvalidGroups, ?hd2_InvalidGroups, ?ha_InvalidGroups, ?hn_InvalidGroups, ?ht_InvalidGroups, ?hm_InvalidGroups⟩, ?ki_InvalidGroups, ⟨FN.oex_mk ?x_InvalidHeights ?r_InvalidHeights ?sa_InvalidHeights ?ex_InvalidHeights ?ty_InvalidHeights ?kp_InvalidHeights, ?iC_InvalidHeights, ?tI_InvalidHeights, ?no_InvalidHeights, ?su_InvalidHeights, ?sv_InvalidHeights, ?sp_InvalidHeights⟩, ⟨?ga_InvalidHeights, ?gg_InvalidHeights, ?ex2_InvalidHeights, ?hd_InvalidHeights⟩, ⟨?ga2_InvalidHeights, ?gg2_InvalidHeights, ?ex3_InvalidHeights, ?hd2_InvalidHeights, ?ha_InvalidHeights, ?hn_InvalidHeights, ?ht_InvalidHeights, ?hm_InvalidHeights⟩, ?ki_InvalidHeights, ⟨FN.oex_mk ?x_InvalidLine ?r_InvalidLine ?sa_InvalidLine ?ex_InvalidLine ?ty_InvalidLine ?kp_InvalidLine, ?iC_InvalidLine, ?tI_InvalidLine, ?no_InvalidLine, ?su_InvalidLine, ?sv_InvalidLine, ?sp_InvalidLine⟩, ⟨?ga_InvalidLine, ?gg_InvalidLine, ?ex2_InvalidLine, ?hd_InvalidLine⟩, ⟨?ga2_InvalidLine, ?gg2_InvalidLine, ?ex3_InvalidLine, ?hd2_InvalidLine, ?ha_InvalidLine, ?hn_InvalidLine, ?ht_InvalidLine, ?hm_InvalidLine⟩, ?ki_InvalidLine, ⟨FN.oex_mk ?x_InvalidMove ?r_InvalidMove ?sa_InvalidMove ?ex_InvalidMove ?ty_InvalidMove ?kp_InvalidMove, ?iC_InvalidMove, ?tI_InvalidMove, ?no_InvalidMove, ?su_InvalidMove, ?sv_InvalidMove, ?sp_InvalidMove⟩, ⟨?ga_InvalidMove, ?gg_InvalidMove, ?ex2_InvalidMove, ?hd_InvalidMove⟩, ⟨?ga2_InvalidMove, ?gg2_InvalidMove, ?ex3_InvalidMove, ?hd2_InvalidMove, ?ha_InvalidMove, ?hn_InvalidMove, ?ht_InvalidMove, ?hm_InvalidMove⟩, ?ki_InvalidMove, ⟨FN.oex_mk ?x_InvalidNumber ?r_InvalidNumber ?sa_InvalidNumber ?ex_InvalidNumber ?ty_InvalidNumber ?kp_InvalidNumber, ?iC_InvalidNumber, ?tI_InvalidNumber, ?no_InvalidNumber, ?su_InvalidNumber, ?sv_InvalidNumber, ?sp_InvalidNumber⟩, ⟨?ga_InvalidNumber, ?gg_InvalidNumber, ?ex2_InvalidNumber, ?hd_InvalidNumber⟩, ⟨?ga2_InvalidNumber, ?gg2_InvalidNumber, ?ex3_InvalidNumber, ?hd2_InvalidNumber, ?ha_InvalidNumber, ?hn_InvalidNumber, ?ht_InvalidNumber, ?hm_InvalidNumber⟩, ?ki_InvalidNumber, ?xm_InvalidNumber_InvalidNumber, ?xm_InvalidNumber_StandError, ⟨FN.oex_mk ?x_InvalidPairs ?r_InvalidPairs ?sa_InvalidPairs ?ex_InvalidPairs ?ty_InvalidPairs ?kp_InvalidPairs, ?iC_InvalidPairs, ?tI_InvalidPairs, ?no_InvalidPairs, ?su_InvalidPairs, ?sv_InvalidPairs, ?sp_InvalidPairs⟩, ⟨?ga_InvalidPairs, ?gg_InvalidPairs, ?ex2_InvalidPairs, ?hd_InvalidPairs⟩, ⟨?ga2_InvalidPairs, ?gg2_InvalidPairs, ?ex3_InvalidPairs, ?hd2_InvalidPairs, ?ha_InvalidPairs, ?hn_InvalidPairs, ?ht_InvalidPairs, ?hm_InvalidPairs⟩, ?ki_InvalidPairs, ⟨FN.oex_mk ?x_InvalidPlacing ?r_InvalidPlacing ?sa_InvalidPlacing ?ex_InvalidPlacing ?ty_InvalidPlacing ?kp_InvalidPlacing, ?iC_InvalidPlacing, ?tI_InvalidPlacing, ?no_InvalidPlacing, ?su_InvalidPlacing, ?sv_InvalidPlacing, ?sp_InvalidPlacing⟩, ⟨?ga_InvalidPlacing, ?gg_InvalidPlacing, ?ex2_InvalidPlacing, ?hd_InvalidPlacing⟩, ⟨?ga2_InvalidPlacing, ?gg2_InvalidPlacing, ?ex3_InvalidPlacing, ?hd2_InvalidPlacing, ?ha_InvalidPlacing, ?hn_InvalidPlacing, ?ht_InvalidPlacing, ?hm_InvalidPlacing⟩, ?ki_InvalidPlacing, ⟨FN.oex_mk ?x_InvalidPrices ?r_InvalidPrices ?sa_InvalidPrices ?ex_InvalidPrices ?ty_InvalidPrices ?kp_InvalidPrices, ?iC_InvalidPrices, ?tI_InvalidPrices, ?no_InvalidPrices, ?su_InvalidPrices, ?sv_InvalidPrices, ?sp_InvalidPrices⟩, ⟨?ga_InvalidPrices, ?gg_InvalidPrices, ?ex2_InvalidPrices, ?hd_InvalidPrices⟩, ⟨?ga2_InvalidPrices, ?gg2_InvalidPrices, ?ex3_InvalidPrices, ?hd2_InvalidPrices, ?ha_InvalidPrices, ?hn_InvalidPrices, ?ht_InvalidPrices, ?hm_InvalidPrices⟩, ?ki_InvalidPrices, ⟨FN.oex_mk ?x_InvalidPromises ?r_InvalidPromises ?sa_InvalidPromises ?ex_InvalidPromises ?ty_InvalidPromises ?kp_InvalidPromises, ?iC_InvalidPromises, ?tI_InvalidPromises, ?no_InvalidPromises, ?su_InvalidPromises, ?sv_InvalidPromises, ?sp_InvalidPromises⟩, ⟨?ga_InvalidPromises, ?gg_InvalidPromises, ?ex2_InvalidPromises, ?hd_InvalidPromises⟩, ⟨?ga2_InvalidPromises, ?gg2_InvalidPromises, ?ex3_InvalidPromises, ?hd2_InvalidPromises, ?ha_InvalidPromises, ?hn_InvalidPromises, ?ht_InvalidPromises, ?hm_InvalidPromises⟩, ?ki_InvalidPromises, ⟨FN.oex_mk ?x_InvalidRing ?r_InvalidRing ?sa_InvalidRing ?ex_InvalidRing ?ty_InvalidRing ?kp_InvalidRing, ?iC_InvalidRing, ?tI_InvalidRing, ?no_InvalidRing, ?su_InvalidRing, ?sv_InvalidRing, ?sp_InvalidRing⟩, ⟨?ga_InvalidRing, ?gg_InvalidRing, ?ex2_InvalidRing, ?hd_InvalidRing⟩, ⟨?ga2_InvalidRing, ?gg2_InvalidRing, ?ex3_InvalidRing, ?hd2_InvalidRing, ?ha_InvalidRing, ?hn_InvalidRing, ?ht_InvalidRing, ?hm_InvalidRing⟩, ?ki_InvalidRing, ⟨FN.oex_mk ?x_InvalidShares ?r_InvalidShares ?sa_InvalidShares ?ex_InvalidShares ?ty_InvalidShares ?kp_InvalidShares, ?iC_InvalidShares, ?tI_InvalidShares, ?no_InvalidShares, ?su_InvalidShares, ?sv_InvalidShares, ?sp_InvalidShares⟩, ⟨?ga_InvalidShares, ?gg_InvalidShares, ?ex2_InvalidShares, ?hd_InvalidShares⟩, ⟨?ga2_InvalidShares, ?gg2_InvalidShares, ?ex3_InvalidShares, ?hd2_InvalidShares, ?ha_InvalidShares, ?hn_InvalidShares, ?ht_InvalidShares, ?hm_InvalidShares⟩, ?ki_InvalidShares, ⟨FN.oex_mk ?x_InvalidTable ?r_InvalidTable ?sa_InvalidTable ?ex_InvalidTable ?ty_InvalidTable ?kp_InvalidTable, ?iC_InvalidTable, ?tI_InvalidTable, ?no_InvalidTable, ?su_InvalidTable, ?sv_InvalidTable, ?sp_InvalidTable⟩, ⟨?ga_InvalidTable, ?gg_InvalidTable, ?ex2_InvalidTable, ?hd_InvalidTable⟩, ⟨?ga2_InvalidTable, ?gg2_InvalidTable, ?ex3_InvalidTable, ?hd2_InvalidTable, ?ha_InvalidTable, ?hn_InvalidTable, ?ht_InvalidTable, ?hm_InvalidTable⟩, ?ki_InvalidTable, ⟨FN.oex_mk ?x_InvalidWeeks ?r_InvalidWeeks ?sa_InvalidWeeks ?ex_InvalidWeeks ?ty_InvalidWeeks ?kp_InvalidWeeks, ?iC_InvalidWeeks, ?tI_InvalidWeeks, ?no_InvalidWeeks, ?su_InvalidWeeks, ?sv_InvalidWeeks, ?sp_InvalidWeeks⟩, ⟨?ga_InvalidWeeks, ?gg_InvalidWeeks, ?ex2_InvalidWeeks, ?hd_InvalidWeeks⟩, ⟨?ga2_InvalidWeeks, ?gg2_InvalidWeeks, ?ex3_InvalidWeeks, ?hd2_InvalidWeeks, ?ha_InvalidWeeks, ?hn_InvalidWeeks, ?ht_InvalidWeeks, ?hm_InvalidWeeks⟩, ?ki_InvalidWeeks, ⟨FN.oex_mk ?x_InvalidWeights ?r_InvalidWeights ?sa_InvalidWeights ?ex_InvalidWeights ?ty_InvalidWeights ?kp_InvalidWeights, ?iC_InvalidWeights, ?tI_InvalidWeights, ?no_InvalidWeights, ?su_InvalidWeights, ?sv_InvalidWeights, ?sp_InvalidWeights⟩, ⟨?ga_InvalidWeights, ?gg_InvalidWeights, ?ex2_InvalidWeights, ?hd_InvalidWeights⟩, ⟨?ga2_InvalidWeights, ?gg2_InvalidWeights, ?ex3_InvalidWeights, ?hd2_InvalidWeights, ?ha_InvalidWeights, ?hn_InvalidWeights, ?ht_InvalidWeights, ?hm_InvalidWeights⟩, ?ki_InvalidWeights, ⟨FN.oex_mk ?x_NoLine ?r_NoLine ?sa_NoLine ?ex_NoLine ?ty_NoLine ?kp_NoLine, ?iC_NoLine, ?tI_NoLine, ?no_NoLine, ?su_NoLine, ?sv_NoLine, ?sp_NoLine⟩, ⟨?ga_NoLine, ?gg_NoLine, ?ex2_NoLine, ?hd_NoLine⟩, ⟨?ga2_NoLine, ?gg2_NoLine, ?ex3_NoLine, ?hd2_NoLine, ?ha_NoLine, ?hn_NoLine, ?ht_NoLine, ?hm_NoLine⟩, ?ki_NoLine, ?xm_NoLine_InvalidNumber, ?xm_NoLine_StandError, ⟨FN.oex_mk ?x_NoPlacing ?r_NoPlacing ?sa_NoPlacing ?ex_NoPlacing ?ty_NoPlacing ?kp_NoPlacing, ?iC_NoPlacing, ?tI_NoPlacing, ?no_NoPlacing, ?su_NoPlacing, ?sv_NoPlacing, ?sp_NoPlacing⟩, ⟨?ga_NoPlacing, ?gg_NoPlacing, ?ex2_NoPlacing, ?hd_NoPlacing⟩, ⟨?ga2_NoPlacing, ?gg2_NoPlacing, ?ex3_NoPlacing, ?hd2_NoPlacing, ?ha_NoPlacing, ?hn_NoPlacing, ?ht_NoPlacing, ?hm_NoPlacing⟩, ?ki_NoPlacing, ⟨FN.oex_mk ?x_NoTable ?r_NoTable ?sa_NoTable ?ex_NoTable ?ty_NoTable ?kp_NoTable, ?iC_NoTable, ?tI_NoTable, ?no_NoTable, ?su_NoTable, ?sv_NoTable, ?sp_NoTable⟩, ⟨?ga_NoTable, ?gg_NoTable, ?ex2_NoTable, ?hd_NoTable⟩, ⟨?ga2_NoTable, ?gg2_NoTable, ?ex3_NoTable, ?hd2_NoTable, ?ha_NoTable, ?hn_NoTable, ?ht_NoTable, ?hm_NoTable⟩, ?ki_NoTable, ⟨FN.oex_mk ?x_NotReady ?r_NotReady ?sa_NotReady ?ex_NotReady ?ty_NotReady ?kp_NotReady, ?iC_NotReady, ?tI_NotReady, ?no_NotReady, ?su_NotReady, ?sv_NotReady, ?sp_NotReady⟩, ⟨?ga_NotReady, ?gg_NotReady, ?ex2_NotReady, ?hd_NotReady⟩, ⟨?ga2_NotReady, ?gg2_NotReady, ?ex3_NotReady, ?hd2_NotReady, ?ha_NotReady, ?hn_NotReady, ?ht_NotReady, ?hm_NotReady⟩, ?ki_NotReady, ⟨FN.oex_mk ?x_Nothing ?r_Nothing ?sa_Nothing ?ex_Nothing ?ty_Nothing ?kp_Nothing, ?iC_Nothing, ?tI_Nothing, ?no_Nothing, ?su_Nothing, ?sv_Nothing, ?sp_Nothing⟩, ⟨?ga_Nothing, ?gg_Nothing, ?ex2_Nothing, ?hd_Nothing⟩, ⟨?ga2_Nothing, ?gg2_Nothing, ?ex3_Nothing, ?hd2_Nothing, ?ha_Nothing, ?hn_Nothing, ?ht_Nothing, ?hm_Nothing⟩, ?ki_Nothing, ⟨FN.oex_mk ?x_StandError ?r_StandError ?sa_StandError ?ex_StandError ?ty_StandError ?kp_StandError, ?iC_StandError, ?tI_StandError, ?no_StandError, ?su_StandError, ?sv_StandError, ?sp_StandError⟩, ⟨?ga_StandError, ?gg_StandError, ?ex2_StandError, ?hd_StandError⟩, ⟨?ga2_StandError, ?gg2_StandError, ?ex3_StandError, ?hd2_StandError, ?ha_StandError, ?hn_StandError, ?ht_StandError, ?hm_StandError⟩, ?ki_StandError, ⟨FN.oex_mk ?x_TooMany ?r_TooMany ?sa_TooMany ?ex_TooMany ?ty_TooMany ?kp_TooMany, ?iC_TooMany, ?tI_TooMany, ?no_TooMany, ?su_TooMany, ?sv_TooMany, ?sp_TooMany⟩, ⟨?ga_TooMany, ?gg_TooMany, ?ex2_TooMany, ?hd_TooMany⟩, ⟨?ga2_TooMany, ?gg2_TooMany, ?ex3_TooMany, ?hd2_TooMany, ?ha_TooMany, ?hn_TooMany, ?ht_TooMany, ?hm_TooMany⟩, ?ki_TooMany, ⟨FN.oex_mk ?x_Unreadable ?r_Unreadable ?sa_Unreadable ?ex_Unreadable ?ty_Unreadable ?kp_Unreadable, ?iC_Unreadable, ?tI_Unreadable, ?no_Unreadable, ?su_Unreadable, ?sv_Unreadable, ?sp_Unreadable⟩, ⟨?ga_Unreadable, ?gg_Unreadable, ?ex2_Unreadable, ?hd_Unreadable⟩, ⟨?ga2_Unreadable, ?gg2_Unreadable, ?ex3_Unreadable, ?hd2_Unreadable, ?ha_Unreadable, ?hn_Unreadable, ?ht_Unreadable, ?hm_Unreadable⟩, ?ki_Unreadable, ?mr_InvalidBenches, ?mr_InvalidBoard, ?mr_InvalidCommand, ?mr_InvalidCosts, ?mr_InvalidCounts, ?mr_InvalidCuts, ?mr_InvalidFractions, ?mr_InvalidFrame, ?mr_InvalidGroups, ?mr_InvalidHeights, ?mr_InvalidLine, ?mr_InvalidMove, ?mr_InvalidNumber, ?mr_InvalidPairs, ?mr_InvalidPlacing, ?mr_InvalidPrices, ?mr_InvalidPromises, ?mr_InvalidRing, ?mr_InvalidShares, ?mr_InvalidTable, ?mr_InvalidWeeks, ?mr_InvalidWeights, ?mr_NoLine, ?mr_NoPlacing, ?mr_NoTable, ?mr_NotReady, ?mr_Nothing, ?mr_StandError, ?mr_TooMany, ?mr_Unreadable, ?nd⟩⟩ : ∃ DE fI C_StandError C_InvalidFrame C_InvalidTable C_InvalidRing C_NoTable C_InvalidCounts C_InvalidLine C_InvalidHeights C_InvalidBoard C_InvalidPlacing C_InvalidMove C_NoPlacing C_InvalidCosts C_InvalidPrices C_InvalidWeeks C_InvalidBenches C_InvalidPairs C_InvalidFractions C_InvalidGroups C_NoLine C_InvalidShares C_InvalidPromises C_InvalidWeights C_InvalidCuts C_InvalidNumber C_TooMany C_Nothing C_Unreadable C_InvalidCommand C_NotReady : Addr, K98.Er PySem.Challenge.rw_choirstands_k98_errors_of_the_package.prog _ mg DE fI C_StandError C_InvalidFrame C_InvalidTable C_InvalidRing C_NoTable C_InvalidCounts C_InvalidLine C_InvalidHeights C_InvalidBoard C_InvalidPlacing C_InvalidMove C_NoPlacing C_InvalidCosts C_InvalidPrices C_InvalidWeeks C_InvalidBenches C_InvalidPairs C_InvalidFractions C_InvalidGroups C_NoLine C_InvalidShares C_InvalidPromises C_InvalidWeights C_InvalidCuts C_InvalidNumber C_TooMany C_Nothing C_Unreadable C_InvalidCommand C_NotReady) (fun ER => ?_)
    (case m_StandError => k_is)
    (case m_InvalidFrame => k_is)
    (case m_InvalidTable => k_is)
    (case m_InvalidRing => k_is)
    (case m_NoTable => k_is)
    (case m_InvalidCounts => k_is)
    (case m_InvalidLine => k_is)
    (case m_InvalidHeights => k_is)
    (case m_InvalidBoard => k_is)
    (case m_InvalidPlacing => k_is)
    (case m_InvalidMove => k_is)
    (case m_NoPlacing => k_is)
    (case m_InvalidCosts => k_is)
    (case m_InvalidPrices => k_is)
    (case m_InvalidWeeks => k_is)
    (case m_InvalidBenches => k_is)
    (case m_InvalidPairs => k_is)
    (case m_InvalidFractions => k_is)
    (case m_InvalidGroups => k_is)
    (case m_NoLine => k_is)
    (case m_InvalidShares => k_is)
    (case m_InvalidPromises => k_is)
    (case m_InvalidWeights => k_is)
    (case m_InvalidCuts => k_is)
    (case m_InvalidNumber => k_is)
    (case m_TooMany => k_is)
    (case m_Nothing => k_is)
    (case m_Unreadable => k_is)
    (case m_InvalidCommand => k_is)
    (case m_NotReady => k_is)
    (case x_InvalidBenches => first | k_is | rfl | decide)
    (case r_InvalidBenches => first | k_is | rfl | decide)
    (case sa_InvalidBenches => first | k_is | rfl | decide)
    (case ex_InvalidBenches => first | k_is | rfl | decide)
    (case ty_InvalidBenches => first | k_is | rfl | decide)
    (case kp_InvalidBenches => first | k_is | rfl | decide)
    (case iC_InvalidBenches => first | k_is | rfl | decide)
    (case tI_InvalidBenches => first | k_is | rfl | decide)
    (case no_InvalidBenches => first | k_is | rfl | decide)
    (case x_InvalidBoard => first | k_is | rfl | decide)
    (case r_InvalidBoard => first | k_is | rfl | decide)
    (case sa_InvalidBoard => first | k_is | rfl | decide)
    (case ex_InvalidBoard => first | k_is | rfl | decide)
    (case ty_InvalidBoard => first | k_is | rfl | decide)
    (case kp_InvalidBoard => first | k_is | rfl | decide)
    (case iC_InvalidBoard => first | k_is | rfl | decide)
    (case tI_InvalidBoard => first | k_is | rfl | decide)
    (case no_InvalidBoard => first | k_is | rfl | decide)
    (case x_InvalidCommand => first | k_is | rfl | decide)
    (case r_InvalidCommand => first | k_is | rfl | decide)
    (case sa_InvalidCommand => first | k_is | rfl | decide)
    (case ex_InvalidCommand => first | k_is | rfl | decide)
    (case ty_InvalidCommand => first | k_is | rfl | decide)
    (case kp_InvalidCommand => first | k_is | rfl | decide)
    (case iC_InvalidCommand => first | k_is | rfl | decide)
    (case tI_InvalidCommand => first | k_is | rfl | decide)
    (case no_InvalidCommand => first | k_is | rfl | decide)
    (case x_InvalidCosts => first | k_is | rfl | decide)
    (case r_InvalidCosts => first | k_is | rfl | decide)
    (case sa_InvalidCosts => first | k_is | rfl | decide)
    (case ex_InvalidCosts => first | k_is | rfl | decide)
    (case ty_InvalidCosts => first | k_is | rfl | decide)
    (case kp_InvalidCosts => first | k_is | rfl | decide)
    (case iC_InvalidCosts => first | k_is | rfl | decide)
    (case tI_InvalidCosts => first | k_is | rfl | decide)
    (case no_InvalidCosts => first | k_is | rfl | decide)
    (case x_InvalidCounts => first | k_is | rfl | decide)
    (case r_InvalidCounts => first | k_is | rfl | decide)
    (case sa_InvalidCounts => first | k_is | rfl | decide)
    (case ex_InvalidCounts => first | k_is | rfl | decide)
    (case ty_InvalidCounts => first | k_is | rfl | decide)
    (case kp_InvalidCounts => first | k_is | rfl | decide)
    (case iC_InvalidCounts => first | k_is | rfl | decide)
    (case tI_InvalidCounts => first | k_is | rfl | decide)
    (case no_InvalidCounts => first | k_is | rfl | decide)
    (case x_InvalidCuts => first | k_is | rfl | decide)
    (case r_InvalidCuts => first | k_is | rfl | decide)
    (case sa_InvalidCuts => first | k_is | rfl | decide)
    (case ex_InvalidCuts => first | k_is | rfl | decide)
    (case ty_InvalidCuts => first | k_is | rfl | decide)
    (case kp_InvalidCuts => first | k_is | rfl | decide)
    (case iC_InvalidCuts => first | k_is | rfl | decide)
    (case tI_InvalidCuts => first | k_is | rfl | decide)
    (case no_InvalidCuts => first | k_is | rfl | decide)
    (case x_InvalidFractions => first | k_is | rfl | decide)
    (case r_InvalidFractions => first | k_is | rfl | decide)
    (case sa_InvalidFractions => first | k_is | rfl | decide)
    (case ex_InvalidFractions => first | k_is | rfl | decide)
    (case ty_InvalidFractions => first | k_is | rfl | decide)
    (case kp_InvalidFractions => first | k_is | rfl | decide)
    (case iC_InvalidFractions => first | k_is | rfl | decide)
    (case tI_InvalidFractions => first | k_is | rfl | decide)
    (case no_InvalidFractions => first | k_is | rfl | decide)
    (case x_InvalidFrame => first | k_is | rfl | decide)
    (case r_InvalidFrame => first | k_is | rfl | decide)
    (case sa_InvalidFrame => first | k_is | rfl | decide)
    (case ex_InvalidFrame => first | k_is | rfl | decide)
    (case ty_InvalidFrame => first | k_is | rfl | decide)
    (case kp_InvalidFrame => first | k_is | rfl | decide)
    (case iC_InvalidFrame => first | k_is | rfl | decide)
    (case tI_InvalidFrame => first | k_is | rfl | decide)
    (case no_InvalidFrame => first | k_is | rfl | decide)
    (case x_InvalidGroups => first | k_is | rfl | decide)
    (case r_InvalidGroups => first | k_is | rfl | decide)
    (case sa_InvalidGroups => first | k_is | rfl | decide)
    (case ex_InvalidGroups => first | k_is | rfl | decide)
    (case ty_InvalidGroups => first | k_is | rfl | decide)
    (case kp_InvalidGroups => first | k_is | rfl | decide)
    (case iC_InvalidGroups => first | k_is | rfl | decide)
    (case tI_InvalidGroups => first | k_is | rfl | decide)
    (case no_InvalidGroups => first | k_is | rfl | decide)
    (case x_InvalidHeights => first | k_is | rfl | decide)
    (case r_InvalidHeights => first | k_is | rfl | decide)
    (case sa_InvalidHeights => first | k_is | rfl | decide)
    (case ex_InvalidHeights => first | k_is | rfl | decide)
    (case ty_InvalidHeights => first | k_is | rfl | decide)
    (case kp_InvalidHeights => first | k_is | rfl | decide)
    (case iC_InvalidHeights => first | k_is | rfl | decide)
    (case tI_InvalidHeights => first | k_is | rfl | decide)
    (case no_InvalidHeights => first | k_is | rfl | decide)
    (case x_InvalidLine => first | k_is | rfl | decide)
    (case r_InvalidLine => first | k_is | rfl | decide)
    (case sa_InvalidLine => first | k_is | rfl | decide)
    (case ex_InvalidLine => first | k_is | rfl | decide)
    (case ty_InvalidLine => first | k_is | rfl | decide)
    (case kp_InvalidLine => first | k_is | rfl | decide)
    (case iC_InvalidLine => first | k_is | rfl | decide)
    (case tI_InvalidLine => first | k_is | rfl | decide)
    (case no_InvalidLine => first | k_is | rfl | decide)
    (case x_InvalidMove => first | k_is | rfl | decide)
    (case r_InvalidMove => first | k_is | rfl | decide)
    (case sa_InvalidMove => first | k_is | rfl | decide)
    (case ex_InvalidMove => first | k_is | rfl | decide)
    (case ty_InvalidMove => first | k_is | rfl | decide)
    (case kp_InvalidMove => first | k_is | rfl | decide)
    (case iC_InvalidMove => first | k_is | rfl | decide)
    (case tI_InvalidMove => first | k_is | rfl | decide)
    (case no_InvalidMove => first | k_is | rfl | decide)
    (case x_InvalidNumber => first | k_is | rfl | decide)
    (case r_InvalidNumber => first | k_is | rfl | decide)
    (case sa_InvalidNumber => first | k_is | rfl | decide)
    (case ex_InvalidNumber => first | k_is | rfl | decide)
    (case ty_InvalidNumber => first | k_is | rfl | decide)
    (case kp_InvalidNumber => first | k_is | rfl | decide)
    (case iC_InvalidNumber => first | k_is | rfl | decide)
    (case tI_InvalidNumber => first | k_is | rfl | decide)
    (case no_InvalidNumber => first | k_is | rfl | decide)
    (case x_InvalidPairs => first | k_is | rfl | decide)
    (case r_InvalidPairs => first | k_is | rfl | decide)
    (case sa_InvalidPairs => first | k_is | rfl | decide)
    (case ex_InvalidPairs => first | k_is | rfl | decide)
    (case ty_InvalidPairs => first | k_is | rfl | decide)
    (case kp_InvalidPairs => first | k_is | rfl | decide)
    (case iC_InvalidPairs => first | k_is | rfl | decide)
    (case tI_InvalidPairs => first | k_is | rfl | decide)
    (case no_InvalidPairs => first | k_is | rfl | decide)
    (case x_InvalidPlacing => first | k_is | rfl | decide)
    (case r_InvalidPlacing => first | k_is | rfl | decide)
    (case sa_InvalidPlacing => first | k_is | rfl | decide)
    (case ex_InvalidPlacing => first | k_is | rfl | decide)
    (case ty_InvalidPlacing => first | k_is | rfl | decide)
    (case kp_InvalidPlacing => first | k_is | rfl | decide)
    (case iC_InvalidPlacing => first | k_is | rfl | decide)
    (case tI_InvalidPlacing => first | k_is | rfl | decide)
    (case no_InvalidPlacing => first | k_is | rfl | decide)
    (case x_InvalidPrices => first | k_is | rfl | decide)
    (case r_InvalidPrices => first | k_is | rfl | decide)
    (case sa_InvalidPrices => first | k_is | rfl | decide)
    (case ex_InvalidPrices => first | k_is | rfl | decide)
    (case ty_InvalidPrices => first | k_is | rfl | decide)
    (case kp_InvalidPrices => first | k_is | rfl | decide)
    (case iC_InvalidPrices => first | k_is | rfl | decide)
    (case tI_InvalidPrices => first | k_is | rfl | decide)
    (case no_InvalidPrices => first | k_is | rfl | decide)
    (case x_InvalidPromises => first | k_is | rfl | decide)
    (case r_InvalidPromises => first | k_is | rfl | decide)
    (case sa_InvalidPromises => first | k_is | rfl | decide)
    (case ex_InvalidPromises => first | k_is | rfl | decide)
    (case ty_InvalidPromises => first | k_is | rfl | decide)
    (case kp_InvalidPromises => first | k_is | rfl | decide)
    (case iC_InvalidPromises => first | k_is | rfl | decide)
    (case tI_InvalidPromises => first | k_is | rfl | decide)
    (case no_InvalidPromises => first | k_is | rfl | decide)
    (case x_InvalidRing => first | k_is | rfl | decide)
    (case r_InvalidRing => first | k_is | rfl | decide)
    (case sa_InvalidRing => first | k_is | rfl | decide)
    (case ex_InvalidRing => first | k_is | rfl | decide)
    (case ty_InvalidRing => first | k_is | rfl | decide)
    (case kp_InvalidRing => first | k_is | rfl | decide)
    (case iC_InvalidRing => first | k_is | rfl | decide)
    (case tI_InvalidRing => first | k_is | rfl | decide)
    (case no_InvalidRing => first | k_is | rfl | decide)
    (case x_InvalidShares => first | k_is | rfl | decide)
    (case r_InvalidShares => first | k_is | rfl | decide)
    (case sa_InvalidShares => first | k_is | rfl | decide)
    (case ex_InvalidShares => first | k_is | rfl | decide)
    (case ty_InvalidShares => first | k_is | rfl | decide)
    (case kp_InvalidShares => first | k_is | rfl | decide)
    (case iC_InvalidShares => first | k_is | rfl | decide)
    (case tI_InvalidShares => first | k_is | rfl | decide)
    (case no_InvalidShares => first | k_is | rfl | decide)
    (case x_InvalidTable => first | k_is | rfl | decide)
    (case r_InvalidTable => first | k_is | rfl | decide)
    (case sa_InvalidTable => first | k_is | rfl | decide)
    (case ex_InvalidTable => first | k_is | rfl | decide)
    (case ty_InvalidTable => first | k_is | rfl | decide)
    (case kp_InvalidTable => first | k_is | rfl | decide)
    (case iC_InvalidTable => first | k_is | rfl | decide)
    (case tI_InvalidTable => first | k_is | rfl | decide)
    (case no_InvalidTable => first | k_is | rfl | decide)
    (case x_InvalidWeeks => first | k_is | rfl | decide)
    (case r_InvalidWeeks => first | k_is | rfl | decide)
    (case sa_InvalidWeeks => first | k_is | rfl | decide)
    (case ex_InvalidWeeks => first | k_is | rfl | decide)
    (case ty_InvalidWeeks => first | k_is | rfl | decide)
    (case kp_InvalidWeeks => first | k_is | rfl | decide)
    (case iC_InvalidWeeks => first | k_is | rfl | decide)
    (case tI_InvalidWeeks => first | k_is | rfl | decide)
    (case no_InvalidWeeks => first | k_is | rfl | decide)
    (case x_InvalidWeights => first | k_is | rfl | decide)
    (case r_InvalidWeights => first | k_is | rfl | decide)
    (case sa_InvalidWeights => first | k_is | rfl | decide)
    (case ex_InvalidWeights => first | k_is | rfl | decide)
    (case ty_InvalidWeights => first | k_is | rfl | decide)
    (case kp_InvalidWeights => first | k_is | rfl | decide)
    (case iC_InvalidWeights => first | k_is | rfl | decide)
    (case tI_InvalidWeights => first | k_is | rfl | decide)
    (case no_InvalidWeights => first | k_is | rfl | decide)
    (case x_NoLine => first | k_is | rfl | decide)
    (case r_NoLine => first | k_is | rfl | decide)
    (case sa_NoLine => first | k_is | rfl | decide)
    (case ex_NoLine => first | k_is | rfl | decide)
    (case ty_NoLine => first | k_is | rfl | decide)
    (case kp_NoLine => first | k_is | rfl | decide)
    (case iC_NoLine => first | k_is | rfl | decide)
    (case tI_NoLine => first | k_is | rfl | decide)
    (case no_NoLine => first | k_is | rfl | decide)
    (case x_NoPlacing => first | k_is | rfl | decide)
    (case r_NoPlacing => first | k_is | rfl | decide)
    (case sa_NoPlacing => first | k_is | rfl | decide)
    (case ex_NoPlacing => first | k_is | rfl | decide)
    (case ty_NoPlacing => first | k_is | rfl | decide)
    (case kp_NoPlacing => first | k_is | rfl | decide)
    (case iC_NoPlacing => first | k_is | rfl | decide)
    (case tI_NoPlacing => first | k_is | rfl | decide)
    (case no_NoPlacing => first | k_is | rfl | decide)
    (case x_NoTable => first | k_is | rfl | decide)
    (case r_NoTable => first | k_is | rfl | decide)
    (case sa_NoTable => first | k_is | rfl | decide)
    (case ex_NoTable => first | k_is | rfl | decide)
    (case ty_NoTable => first | k_is | rfl | decide)
    (case kp_NoTable => first | k_is | rfl | decide)
    (case iC_NoTable => first | k_is | rfl | decide)
    (case tI_NoTable => first | k_is | rfl | decide)
    (case no_NoTable => first | k_is | rfl | decide)
    (case x_NotReady => first | k_is | rfl | decide)
    (case r_NotReady => first | k_is | rfl | decide)
    (case sa_NotReady => first | k_is | rfl | decide)
    (case ex_NotReady => first | k_is | rfl | decide)
    (case ty_NotReady => first | k_is | rfl | decide)
    (case kp_NotReady => first | k_is | rfl | decide)
    (case iC_NotReady => first | k_is | rfl | decide)
    (case tI_NotReady => first | k_is | rfl | decide)
    (case no_NotReady => first | k_is | rfl | decide)
    (case x_Nothing => first | k_is | rfl | decide)
    (case r_Nothing => first | k_is | rfl | decide)
    (case sa_Nothing => first | k_is | rfl | decide)
    (case ex_Nothing => first | k_is | rfl | decide)
    (case ty_Nothing => first | k_is | rfl | decide)
    (case kp_Nothing => first | k_is | rfl | decide)
    (case iC_Nothing => first | k_is | rfl | decide)
    (case tI_Nothing => first | k_is | rfl | decide)
    (case no_Nothing => first | k_is | rfl | decide)
    (case x_StandError => first | k_is | rfl | decide)
    (case r_StandError => first | k_is | rfl | decide)
    (case sa_StandError => first | k_is | rfl | decide)
    (case ex_StandError => first | k_is | rfl | decide)
    (case ty_StandError => first | k_is | rfl | decide)
    (case kp_StandError => first | k_is | rfl | decide)
    (case iC_StandError => first | k_is | rfl | decide)
    (case tI_StandError => first | k_is | rfl | decide)
    (case no_StandError => first | k_is | rfl | decide)
    (case x_TooMany => first | k_is | rfl | decide)
    (case r_TooMany => first | k_is | rfl | decide)
    (case sa_TooMany => first | k_is | rfl | decide)
    (case ex_TooMany => first | k_is | rfl | decide)
    (case ty_TooMany => first | k_is | rfl | decide)
    (case kp_TooMany => first | k_is | rfl | decide)
    (case iC_TooMany => first | k_is | rfl | decide)
    (case tI_TooMany => first | k_is | rfl | decide)
    (case no_TooMany => first | k_is | rfl | decide)
    (case x_Unreadable => first | k_is | rfl | decide)
    (case r_Unreadable => first | k_is | rfl | decide)
    (case sa_Unreadable => first | k_is | rfl | decide)
    (case ex_Unreadable => first | k_is | rfl | decide)
    (case ty_Unreadable => first | k_is | rfl | decide)
    (case kp_Unreadable => first | k_is | rfl | decide)
    (case iC_Unreadable => first | k_is | rfl | decide)
    (case tI_Unreadable => first | k_is | rfl | decide)
    (case no_Unreadable => first | k_is | rfl | decide)
    (case e1 => first | k_is | rfl | decide)
    (case e2 => first | k_is | rfl | decide)
    (case e3 => first | k_is | rfl | decide)
    (case e4 => first | k_is | rfl | decide)
    (case e5 => first | k_is | rfl | decide)
    (case e6 => first | k_is | rfl | decide)
    (case e7 => first | k_is | rfl | decide)
    (case e8 => first | k_is | rfl | decide)
    (case e9 => first | k_is | rfl | decide)
    (case e10 => first | k_is | rfl | decide)
    (case e11 => first | k_is | rfl | decide)
    (case su_InvalidBenches => first | k_is | rfl | decide)
    (case sv_InvalidBenches => first | k_is | rfl | decide)
    (case sp_InvalidBenches => first | k_is | rfl | decide)
    (case ga_InvalidBenches => first | k_is | rfl | decide)
    (case gg_InvalidBenches => first | k_is | rfl | decide)
    (case ex2_InvalidBenches => first | k_is | rfl | decide)
    (case hd_InvalidBenches => first | k_is | rfl | decide)
    (case ga2_InvalidBenches => first | k_is | rfl | decide)
    (case gg2_InvalidBenches => first | k_is | rfl | decide)
    (case ex3_InvalidBenches => first | k_is | rfl | decide)
    (case hd2_InvalidBenches => first | k_is | rfl | decide)
    (case ha_InvalidBenches => first | k_is | rfl | decide)
    (case hn_InvalidBenches => first | k_is | rfl | decide)
    (case ht_InvalidBenches => first | k_is | rfl | decide)
    (case hm_InvalidBenches => first | k_is | rfl | decide)
    (case ki_InvalidBenches => first | k_is | rfl | decide)
    (case su_InvalidBoard => first | k_is | rfl | decide)
    (case sv_InvalidBoard => first | k_is | rfl | decide)
    (case sp_InvalidBoard => first | k_is | rfl | decide)
    (case ga_InvalidBoard => first | k_is | rfl | decide)
    (case gg_InvalidBoard => first | k_is | rfl | decide)
    (case ex2_InvalidBoard => first | k_is | rfl | decide)
    (case hd_InvalidBoard => first | k_is | rfl | decide)
    (case ga2_InvalidBoard => first | k_is | rfl | decide)
    (case gg2_InvalidBoard => first | k_is | rfl | decide)
    (case ex3_InvalidBoard => first | k_is | rfl | decide)
    (case hd2_InvalidBoard => first | k_is | rfl | decide)
    (case ha_InvalidBoard => first | k_is | rfl | decide)
    (case hn_InvalidBoard => first | k_is | rfl | decide)
    (case ht_InvalidBoard => first | k_is | rfl | decide)
    (case hm_InvalidBoard => first | k_is | rfl | decide)
    (case ki_InvalidBoard => first | k_is | rfl | decide)
    (case su_InvalidCommand => first | k_is | rfl | decide)
    (case sv_InvalidCommand => first | k_is | rfl | decide)
    (case sp_InvalidCommand => first | k_is | rfl | decide)
    (case ga_InvalidCommand => first | k_is | rfl | decide)
    (case gg_InvalidCommand => first | k_is | rfl | decide)
    (case ex2_InvalidCommand => first | k_is | rfl | decide)
    (case hd_InvalidCommand => first | k_is | rfl | decide)
    (case ga2_InvalidCommand => first | k_is | rfl | decide)
    (case gg2_InvalidCommand => first | k_is | rfl | decide)
    (case ex3_InvalidCommand => first | k_is | rfl | decide)
    (case hd2_InvalidCommand => first | k_is | rfl | decide)
    (case ha_InvalidCommand => first | k_is | rfl | decide)
    (case hn_InvalidCommand => first | k_is | rfl | decide)
    (case ht_InvalidCommand => first | k_is | rfl | decide)
    (case hm_InvalidCommand => first | k_is | rfl | decide)
    (case ki_InvalidCommand => first | k_is | rfl | decide)
    (case su_InvalidCosts => first | k_is | rfl | decide)
    (case sv_InvalidCosts => first | k_is | rfl | decide)
    (case sp_InvalidCosts => first | k_is | rfl | decide)
    (case ga_InvalidCosts => first | k_is | rfl | decide)
    (case gg_InvalidCosts => first | k_is | rfl | decide)
    (case ex2_InvalidCosts => first | k_is | rfl | decide)
    (case hd_InvalidCosts => first | k_is | rfl | decide)
    (case ga2_InvalidCosts => first | k_is | rfl | decide)
    (case gg2_InvalidCosts => first | k_is | rfl | decide)
    (case ex3_InvalidCosts => first | k_is | rfl | decide)
    (case hd2_InvalidCosts => first | k_is | rfl | decide)
    (case ha_InvalidCosts => first | k_is | rfl | decide)
    (case hn_InvalidCosts => first | k_is | rfl | decide)
    (case ht_InvalidCosts => first | k_is | rfl | decide)
    (case hm_InvalidCosts => first | k_is | rfl | decide)
    (case ki_InvalidCosts => first | k_is | rfl | decide)
    (case su_InvalidCounts => first | k_is | rfl | decide)
    (case sv_InvalidCounts => first | k_is | rfl | decide)
    (case sp_InvalidCounts => first | k_is | rfl | decide)
    (case ga_InvalidCounts => first | k_is | rfl | decide)
    (case gg_InvalidCounts => first | k_is | rfl | decide)
    (case ex2_InvalidCounts => first | k_is | rfl | decide)
    (case hd_InvalidCounts => first | k_is | rfl | decide)
    (case ga2_InvalidCounts => first | k_is | rfl | decide)
    (case gg2_InvalidCounts => first | k_is | rfl | decide)
    (case ex3_InvalidCounts => first | k_is | rfl | decide)
    (case hd2_InvalidCounts => first | k_is | rfl | decide)
    (case ha_InvalidCounts => first | k_is | rfl | decide)
    (case hn_InvalidCounts => first | k_is | rfl | decide)
    (case ht_InvalidCounts => first | k_is | rfl | decide)
    (case hm_InvalidCounts => first | k_is | rfl | decide)
    (case ki_InvalidCounts => first | k_is | rfl | decide)
    (case su_InvalidCuts => first | k_is | rfl | decide)
    (case sv_InvalidCuts => first | k_is | rfl | decide)
    (case sp_InvalidCuts => first | k_is | rfl | decide)
    (case ga_InvalidCuts => first | k_is | rfl | decide)
    (case gg_InvalidCuts => first | k_is | rfl | decide)
    (case ex2_InvalidCuts => first | k_is | rfl | decide)
    (case hd_InvalidCuts => first | k_is | rfl | decide)
    (case ga2_InvalidCuts => first | k_is | rfl | decide)
    (case gg2_InvalidCuts => first | k_is | rfl | decide)
    (case ex3_InvalidCuts => first | k_is | rfl | decide)
    (case hd2_InvalidCuts => first | k_is | rfl | decide)
    (case ha_InvalidCuts => first | k_is | rfl | decide)
    (case hn_InvalidCuts => first | k_is | rfl | decide)
    (case ht_InvalidCuts => first | k_is | rfl | decide)
    (case hm_InvalidCuts => first | k_is | rfl | decide)
    (case ki_InvalidCuts => first | k_is | rfl | decide)
    (case su_InvalidFractions => first | k_is | rfl | decide)
    (case sv_InvalidFractions => first | k_is | rfl | decide)
    (case sp_InvalidFractions => first | k_is | rfl | decide)
    (case ga_InvalidFractions => first | k_is | rfl | decide)
    (case gg_InvalidFractions => first | k_is | rfl | decide)
    (case ex2_InvalidFractions => first | k_is | rfl | decide)
    (case hd_InvalidFractions => first | k_is | rfl | decide)
    (case ga2_InvalidFractions => first | k_is | rfl | decide)
    (case gg2_InvalidFractions => first | k_is | rfl | decide)
    (case ex3_InvalidFractions => first | k_is | rfl | decide)
    (case hd2_InvalidFractions => first | k_is | rfl | decide)
    (case ha_InvalidFractions => first | k_is | rfl | decide)
    (case hn_InvalidFractions => first | k_is | rfl | decide)
    (case ht_InvalidFractions => first | k_is | rfl | decide)
    (case hm_InvalidFractions => first | k_is | rfl | decide)
    (case ki_InvalidFractions => first | k_is | rfl | decide)
    (case su_InvalidFrame => first | k_is | rfl | decide)
    (case sv_InvalidFrame => first | k_is | rfl | decide)
    (case sp_InvalidFrame => first | k_is | rfl | decide)
    (case ga_InvalidFrame => first | k_is | rfl | decide)
    (case gg_InvalidFrame => first | k_is | rfl | decide)
    (case ex2_InvalidFrame => first | k_is | rfl | decide)
    (case hd_InvalidFrame => first | k_is | rfl | decide)
    (case ga2_InvalidFrame => first | k_is | rfl | decide)
    (case gg2_InvalidFrame => first | k_is | rfl | decide)
    (case ex3_InvalidFrame => first | k_is | rfl | decide)
    (case hd2_InvalidFrame => first | k_is | rfl | decide)
    (case ha_InvalidFrame => first | k_is | rfl | decide)
    (case hn_InvalidFrame => first | k_is | rfl | decide)
    (case ht_InvalidFrame => first | k_is | rfl | decide)
    (case hm_InvalidFrame => first | k_is | rfl | decide)
    (case ki_InvalidFrame => first | k_is | rfl | decide)
    (case su_InvalidGroups => first | k_is | rfl | decide)
    (case sv_InvalidGroups => first | k_is | rfl | decide)
    (case sp_InvalidGroups => first | k_is | rfl | decide)
    (case ga_InvalidGroups => first | k_is | rfl | decide)
    (case gg_InvalidGroups => first | k_is | rfl | decide)
    (case ex2_InvalidGroups => first | k_is | rfl | decide)
    (case hd_InvalidGroups => first | k_is | rfl | decide)
    (case ga2_InvalidGroups => first | k_is | rfl | decide)
    (case gg2_InvalidGroups => first | k_is | rfl | decide)
    (case ex3_InvalidGroups => first | k_is | rfl | decide)
    (case hd2_InvalidGroups => first | k_is | rfl | decide)
    (case ha_InvalidGroups => first | k_is | rfl | decide)
    (case hn_InvalidGroups => first | k_is | rfl | decide)
    (case ht_InvalidGroups => first | k_is | rfl | decide)
    (case hm_InvalidGroups => first | k_is | rfl | decide)
    (case ki_InvalidGroups => first | k_is | rfl | decide)
    (case su_InvalidHeights => first | k_is | rfl | decide)
    (case sv_InvalidHeights => first | k_is | rfl | decide)
    (case sp_InvalidHeights => first | k_is | rfl | decide)
    (case ga_InvalidHeights => first | k_is | rfl | decide)
    (case gg_InvalidHeights => first | k_is | rfl | decide)
    (case ex2_InvalidHeights => first | k_is | rfl | decide)
    (case hd_InvalidHeights => first | k_is | rfl | decide)
    (case ga2_InvalidHeights => first | k_is | rfl | decide)
    (case gg2_InvalidHeights => first | k_is | rfl | decide)
    (case ex3_InvalidHeights => first | k_is | rfl | decide)
    (case hd2_InvalidHeights => first | k_is | rfl | decide)
    (case ha_InvalidHeights => first | k_is | rfl | decide)
    (case hn_InvalidHeights => first | k_is | rfl | decide)
    (case ht_InvalidHeights => first | k_is | rfl | decide)
    (case hm_InvalidHeights => first | k_is | rfl | decide)
    (case ki_InvalidHeights => first | k_is | rfl | decide)
    (case su_InvalidLine => first | k_is | rfl | decide)
    (case sv_InvalidLine => first | k_is | rfl | decide)
    (case sp_InvalidLine => first | k_is | rfl | decide)
    (case ga_InvalidLine => first | k_is | rfl | decide)
    (case gg_InvalidLine => first | k_is | rfl | decide)
    (case ex2_InvalidLine => first | k_is | rfl | decide)
    (case hd_InvalidLine => first | k_is | rfl | decide)
    (case ga2_InvalidLine => first | k_is | rfl | decide)
    (case gg2_InvalidLine => first | k_is | rfl | decide)
    (case ex3_InvalidLine => first | k_is | rfl | decide)
    (case hd2_InvalidLine => first | k_is | rfl | decide)
    (case ha_InvalidLine => first | k_is | rfl | decide)
    (case hn_InvalidLine => first | k_is | rfl | decide)
    (case ht_InvalidLine => first | k_is | rfl | decide)
    (case hm_InvalidLine => first | k_is | rfl | decide)
    (case ki_InvalidLine => first | k_is | rfl | decide)
    (case su_InvalidMove => first | k_is | rfl | decide)
    (case sv_InvalidMove => first | k_is | rfl | decide)
    (case sp_InvalidMove => first | k_is | rfl | decide)
    (case ga_InvalidMove => first | k_is | rfl | decide)
    (case gg_InvalidMove => first | k_is | rfl | decide)
    (case ex2_InvalidMove => first | k_is | rfl | decide)
    (case hd_InvalidMove => first | k_is | rfl | decide)
    (case ga2_InvalidMove => first | k_is | rfl | decide)
    (case gg2_InvalidMove => first | k_is | rfl | decide)
    (case ex3_InvalidMove => first | k_is | rfl | decide)
    (case hd2_InvalidMove => first | k_is | rfl | decide)
    (case ha_InvalidMove => first | k_is | rfl | decide)
    (case hn_InvalidMove => first | k_is | rfl | decide)
    (case ht_InvalidMove => first | k_is | rfl | decide)
    (case hm_InvalidMove => first | k_is | rfl | decide)
    (case ki_InvalidMove => first | k_is | rfl | decide)
    (case su_InvalidNumber => first | k_is | rfl | decide)
    (case sv_InvalidNumber => first | k_is | rfl | decide)
    (case sp_InvalidNumber => first | k_is | rfl | decide)
    (case ga_InvalidNumber => first | k_is | rfl | decide)
    (case gg_InvalidNumber => first | k_is | rfl | decide)
    (case ex2_InvalidNumber => first | k_is | rfl | decide)
    (case hd_InvalidNumber => first | k_is | rfl | decide)
    (case ga2_InvalidNumber => first | k_is | rfl | decide)
    (case gg2_InvalidNumber => first | k_is | rfl | decide)
    (case ex3_InvalidNumber => first | k_is | rfl | decide)
    (case hd2_InvalidNumber => first | k_is | rfl | decide)
    (case ha_InvalidNumber => first | k_is | rfl | decide)
    (case hn_InvalidNumber => first | k_is | rfl | decide)
    (case ht_InvalidNumber => first | k_is | rfl | decide)
    (case hm_InvalidNumber => first | k_is | rfl | decide)
    (case ki_InvalidNumber => first | k_is | rfl | decide)
    (case xm_InvalidNumber_InvalidNumber => first | k_is | rfl | decide)
    (case xm_InvalidNumber_StandError => first | k_is | rfl | decide)
    (case su_InvalidPairs => first | k_is | rfl | decide)
    (case sv_InvalidPairs => first | k_is | rfl | decide)
    (case sp_InvalidPairs => first | k_is | rfl | decide)
    (case ga_InvalidPairs => first | k_is | rfl | decide)
    (case gg_InvalidPairs => first | k_is | rfl | decide)
    (case ex2_InvalidPairs => first | k_is | rfl | decide)
    (case hd_InvalidPairs => first | k_is | rfl | decide)
    (case ga2_InvalidPairs => first | k_is | rfl | decide)
    (case gg2_InvalidPairs => first | k_is | rfl | decide)
    (case ex3_InvalidPairs => first | k_is | rfl | decide)
    (case hd2_InvalidPairs => first | k_is | rfl | decide)
    (case ha_InvalidPairs => first | k_is | rfl | decide)
    (case hn_InvalidPairs => first | k_is | rfl | decide)
    (case ht_InvalidPairs => first | k_is | rfl | decide)
    (case hm_InvalidPairs => first | k_is | rfl | decide)
    (case ki_InvalidPairs => first | k_is | rfl | decide)
    (case su_InvalidPlacing => first | k_is | rfl | decide)
    (case sv_InvalidPlacing => first | k_is | rfl | decide)
    (case sp_InvalidPlacing => first | k_is | rfl | decide)
    (case ga_InvalidPlacing => first | k_is | rfl | decide)
    (case gg_InvalidPlacing => first | k_is | rfl | decide)
    (case ex2_InvalidPlacing => first | k_is | rfl | decide)
    (case hd_InvalidPlacing => first | k_is | rfl | decide)
    (case ga2_InvalidPlacing => first | k_is | rfl | decide)
    (case gg2_InvalidPlacing => first | k_is | rfl | decide)
    (case ex3_InvalidPlacing => first | k_is | rfl | decide)
    (case hd2_InvalidPlacing => first | k_is | rfl | decide)
    (case ha_InvalidPlacing => first | k_is | rfl | decide)
    (case hn_InvalidPlacing => first | k_is | rfl | decide)
    (case ht_InvalidPlacing => first | k_is | rfl | decide)
    (case hm_InvalidPlacing => first | k_is | rfl | decide)
    (case ki_InvalidPlacing => first | k_is | rfl | decide)
    (case su_InvalidPrices => first | k_is | rfl | decide)
    (case sv_InvalidPrices => first | k_is | rfl | decide)
    (case sp_InvalidPrices => first | k_is | rfl | decide)
    (case ga_InvalidPrices => first | k_is | rfl | decide)
    (case gg_InvalidPrices => first | k_is | rfl | decide)
    (case ex2_InvalidPrices => first | k_is | rfl | decide)
    (case hd_InvalidPrices => first | k_is | rfl | decide)
    (case ga2_InvalidPrices => first | k_is | rfl | decide)
    (case gg2_InvalidPrices => first | k_is | rfl | decide)
    (case ex3_InvalidPrices => first | k_is | rfl | decide)
    (case hd2_InvalidPrices => first | k_is | rfl | decide)
    (case ha_InvalidPrices => first | k_is | rfl | decide)
    (case hn_InvalidPrices => first | k_is | rfl | decide)
    (case ht_InvalidPrices => first | k_is | rfl | decide)
    (case hm_InvalidPrices => first | k_is | rfl | decide)
    (case ki_InvalidPrices => first | k_is | rfl | decide)
    (case su_InvalidPromises => first | k_is | rfl | decide)
    (case sv_InvalidPromises => first | k_is | rfl | decide)
    (case sp_InvalidPromises => first | k_is | rfl | decide)
    (case ga_InvalidPromises => first | k_is | rfl | decide)
    (case gg_InvalidPromises => first | k_is | rfl | decide)
    (case ex2_InvalidPromises => first | k_is | rfl | decide)
    (case hd_InvalidPromises => first | k_is | rfl | decide)
    (case ga2_InvalidPromises => first | k_is | rfl | decide)
    (case gg2_InvalidPromises => first | k_is | rfl | decide)
    (case ex3_InvalidPromises => first | k_is | rfl | decide)
    (case hd2_InvalidPromises => first | k_is | rfl | decide)
    (case ha_InvalidPromises => first | k_is | rfl | decide)
    (case hn_InvalidPromises => first | k_is | rfl | decide)
    (case ht_InvalidPromises => first | k_is | rfl | decide)
    (case hm_InvalidPromises => first | k_is | rfl | decide)
    (case ki_InvalidPromises => first | k_is | rfl | decide)
    (case su_InvalidRing => first | k_is | rfl | decide)
    (case sv_InvalidRing => first | k_is | rfl | decide)
    (case sp_InvalidRing => first | k_is | rfl | decide)
    (case ga_InvalidRing => first | k_is | rfl | decide)
    (case gg_InvalidRing => first | k_is | rfl | decide)
    (case ex2_InvalidRing => first | k_is | rfl | decide)
    (case hd_InvalidRing => first | k_is | rfl | decide)
    (case ga2_InvalidRing => first | k_is | rfl | decide)
    (case gg2_InvalidRing => first | k_is | rfl | decide)
    (case ex3_InvalidRing => first | k_is | rfl | decide)
    (case hd2_InvalidRing => first | k_is | rfl | decide)
    (case ha_InvalidRing => first | k_is | rfl | decide)
    (case hn_InvalidRing => first | k_is | rfl | decide)
    (case ht_InvalidRing => first | k_is | rfl | decide)
    (case hm_InvalidRing => first | k_is | rfl | decide)
    (case ki_InvalidRing => first | k_is | rfl | decide)
    (case su_InvalidShares => first | k_is | rfl | decide)
    (case sv_InvalidShares => first | k_is | rfl | decide)
    (case sp_InvalidShares => first | k_is | rfl | decide)
    (case ga_InvalidShares => first | k_is | rfl | decide)
    (case gg_InvalidShares => first | k_is | rfl | decide)
    (case ex2_InvalidShares => first | k_is | rfl | decide)
    (case hd_InvalidShares => first | k_is | rfl | decide)
    (case ga2_InvalidShares => first | k_is | rfl | decide)
    (case gg2_InvalidShares => first | k_is | rfl | decide)
    (case ex3_InvalidShares => first | k_is | rfl | decide)
    (case hd2_InvalidShares => first | k_is | rfl | decide)
    (case ha_InvalidShares => first | k_is | rfl | decide)
    (case hn_InvalidShares => first | k_is | rfl | decide)
    (case ht_InvalidShares => first | k_is | rfl | decide)
    (case hm_InvalidShares => first | k_is | rfl | decide)
    (case ki_InvalidShares => first | k_is | rfl | decide)
    (case su_InvalidTable => first | k_is | rfl | decide)
    (case sv_InvalidTable => first | k_is | rfl | decide)
    (case sp_InvalidTable => first | k_is | rfl | decide)
    (case ga_InvalidTable => first | k_is | rfl | decide)
    (case gg_InvalidTable => first | k_is | rfl | decide)
    (case ex2_InvalidTable => first | k_is | rfl | decide)
    (case hd_InvalidTable => first | k_is | rfl | decide)
    (case ga2_InvalidTable => first | k_is | rfl | decide)
    (case gg2_InvalidTable => first | k_is | rfl | decide)
    (case ex3_InvalidTable => first | k_is | rfl | decide)
    (case hd2_InvalidTable => first | k_is | rfl | decide)
    (case ha_InvalidTable => first | k_is | rfl | decide)
    (case hn_InvalidTable => first | k_is | rfl | decide)
    (case ht_InvalidTable => first | k_is | rfl | decide)
    (case hm_InvalidTable => first | k_is | rfl | decide)
    (case ki_InvalidTable => first | k_is | rfl | decide)
    (case su_InvalidWeeks => first | k_is | rfl | decide)
    (case sv_InvalidWeeks => first | k_is | rfl | decide)
    (case sp_InvalidWeeks => first | k_is | rfl | decide)
    (case ga_InvalidWeeks => first | k_is | rfl | decide)
    (case gg_InvalidWeeks => first | k_is | rfl | decide)
    (case ex2_InvalidWeeks => first | k_is | rfl | decide)
    (case hd_InvalidWeeks => first | k_is | rfl | decide)
    (case ga2_InvalidWeeks => first | k_is | rfl | decide)
    (case gg2_InvalidWeeks => first | k_is | rfl | decide)
    (case ex3_InvalidWeeks => first | k_is | rfl | decide)
    (case hd2_InvalidWeeks => first | k_is | rfl | decide)
    (case ha_InvalidWeeks => first | k_is | rfl | decide)
    (case hn_InvalidWeeks => first | k_is | rfl | decide)
    (case ht_InvalidWeeks => first | k_is | rfl | decide)
    (case hm_InvalidWeeks => first | k_is | rfl | decide)
    (case ki_InvalidWeeks => first | k_is | rfl | decide)
    (case su_InvalidWeights => first | k_is | rfl | decide)
    (case sv_InvalidWeights => first | k_is | rfl | decide)
    (case sp_InvalidWeights => first | k_is | rfl | decide)
    (case ga_InvalidWeights => first | k_is | rfl | decide)
    (case gg_InvalidWeights => first | k_is | rfl | decide)
    (case ex2_InvalidWeights => first | k_is | rfl | decide)
    (case hd_InvalidWeights => first | k_is | rfl | decide)
    (case ga2_InvalidWeights => first | k_is | rfl | decide)
    (case gg2_InvalidWeights => first | k_is | rfl | decide)
    (case ex3_InvalidWeights => first | k_is | rfl | decide)
    (case hd2_InvalidWeights => first | k_is | rfl | decide)
    (case ha_InvalidWeights => first | k_is | rfl | decide)
    (case hn_InvalidWeights => first | k_is | rfl | decide)
    (case ht_InvalidWeights => first | k_is | rfl | decide)
    (case hm_InvalidWeights => first | k_is | rfl | decide)
    (case ki_InvalidWeights => first | k_is | rfl | decide)
    (case su_NoLine => first | k_is | rfl | decide)
    (case sv_NoLine => first | k_is | rfl | decide)
    (case sp_NoLine => first | k_is | rfl | decide)
    (case ga_NoLine => first | k_is | rfl | decide)
    (case gg_NoLine => first | k_is | rfl | decide)
    (case ex2_NoLine => first | k_is | rfl | decide)
    (case hd_NoLine => first | k_is | rfl | decide)
    (case ga2_NoLine => first | k_is | rfl | decide)
    (case gg2_NoLine => first | k_is | rfl | decide)
    (case ex3_NoLine => first | k_is | rfl | decide)
    (case hd2_NoLine => first | k_is | rfl | decide)
    (case ha_NoLine => first | k_is | rfl | decide)
    (case hn_NoLine => first | k_is | rfl | decide)
    (case ht_NoLine => first | k_is | rfl | decide)
    (case hm_NoLine => first | k_is | rfl | decide)
    (case ki_NoLine => first | k_is | rfl | decide)
    (case xm_NoLine_InvalidNumber => first | k_is | rfl | decide)
    (case xm_NoLine_StandError => first | k_is | rfl | decide)
    (case su_NoPlacing => first | k_is | rfl | decide)
    (case sv_NoPlacing => first | k_is | rfl | decide)
    (case sp_NoPlacing => first | k_is | rfl | decide)
    (case ga_NoPlacing => first | k_is | rfl | decide)
    (case gg_NoPlacing => first | k_is | rfl | decide)
    (case ex2_NoPlacing => first | k_is | rfl | decide)
    (case hd_NoPlacing => first | k_is | rfl | decide)
    (case ga2_NoPlacing => first | k_is | rfl | decide)
    (case gg2_NoPlacing => first | k_is | rfl | decide)
    (case ex3_NoPlacing => first | k_is | rfl | decide)
    (case hd2_NoPlacing => first | k_is | rfl | decide)
    (case ha_NoPlacing => first | k_is | rfl | decide)
    (case hn_NoPlacing => first | k_is | rfl | decide)
    (case ht_NoPlacing => first | k_is | rfl | decide)
    (case hm_NoPlacing => first | k_is | rfl | decide)
    (case ki_NoPlacing => first | k_is | rfl | decide)
    (case su_NoTable => first | k_is | rfl | decide)
    (case sv_NoTable => first | k_is | rfl | decide)
    (case sp_NoTable => first | k_is | rfl | decide)
    (case ga_NoTable => first | k_is | rfl | decide)
    (case gg_NoTable => first | k_is | rfl | decide)
    (case ex2_NoTable => first | k_is | rfl | decide)
    (case hd_NoTable => first | k_is | rfl | decide)
    (case ga2_NoTable => first | k_is | rfl | decide)
    (case gg2_NoTable => first | k_is | rfl | decide)
    (case ex3_NoTable => first | k_is | rfl | decide)
    (case hd2_NoTable => first | k_is | rfl | decide)
    (case ha_NoTable => first | k_is | rfl | decide)
    (case hn_NoTable => first | k_is | rfl | decide)
    (case ht_NoTable => first | k_is | rfl | decide)
    (case hm_NoTable => first | k_is | rfl | decide)
    (case ki_NoTable => first | k_is | rfl | decide)
    (case su_NotReady => first | k_is | rfl | decide)
    (case sv_NotReady => first | k_is | rfl | decide)
    (case sp_NotReady => first | k_is | rfl | decide)
    (case ga_NotReady => first | k_is | rfl | decide)
    (case gg_NotReady => first | k_is | rfl | decide)
    (case ex2_NotReady => first | k_is | rfl | decide)
    (case hd_NotReady => first | k_is | rfl | decide)
    (case ga2_NotReady => first | k_is | rfl | decide)
    (case gg2_NotReady => first | k_is | rfl | decide)
    (case ex3_NotReady => first | k_is | rfl | decide)
    (case hd2_NotReady => first | k_is | rfl | decide)
    (case ha_NotReady => first | k_is | rfl | decide)
    (case hn_NotReady => first | k_is | rfl | decide)
    (case ht_NotReady => first | k_is | rfl | decide)
    (case hm_NotReady => first | k_is | rfl | decide)
    (case ki_NotReady => first | k_is | rfl | decide)
    (case su_Nothing => first | k_is | rfl | decide)
    (case sv_Nothing => first | k_is | rfl | decide)
    (case sp_Nothing => first | k_is | rfl | decide)
    (case ga_Nothing => first | k_is | rfl | decide)
    (case gg_Nothing => first | k_is | rfl | decide)
    (case ex2_Nothing => first | k_is | rfl | decide)
    (case hd_Nothing => first | k_is | rfl | decide)
    (case ga2_Nothing => first | k_is | rfl | decide)
    (case gg2_Nothing => first | k_is | rfl | decide)
    (case ex3_Nothing => first | k_is | rfl | decide)
    (case hd2_Nothing => first | k_is | rfl | decide)
    (case ha_Nothing => first | k_is | rfl | decide)
    (case hn_Nothing => first | k_is | rfl | decide)
    (case ht_Nothing => first | k_is | rfl | decide)
    (case hm_Nothing => first | k_is | rfl | decide)
    (case ki_Nothing => first | k_is | rfl | decide)
    (case su_StandError => first | k_is | rfl | decide)
    (case sv_StandError => first | k_is | rfl | decide)
    (case sp_StandError => first | k_is | rfl | decide)
    (case ga_StandError => first | k_is | rfl | decide)
    (case gg_StandError => first | k_is | rfl | decide)
    (case ex2_StandError => first | k_is | rfl | decide)
    (case hd_StandError => first | k_is | rfl | decide)
    (case ga2_StandError => first | k_is | rfl | decide)
    (case gg2_StandError => first | k_is | rfl | decide)
    (case ex3_StandError => first | k_is | rfl | decide)
    (case hd2_StandError => first | k_is | rfl | decide)
    (case ha_StandError => first | k_is | rfl | decide)
    (case hn_StandError => first | k_is | rfl | decide)
    (case ht_StandError => first | k_is | rfl | decide)
    (case hm_StandError => first | k_is | rfl | decide)
    (case ki_StandError => first | k_is | rfl | decide)
    (case su_TooMany => first | k_is | rfl | decide)
    (case sv_TooMany => first | k_is | rfl | decide)
    (case sp_TooMany => first | k_is | rfl | decide)
    (case ga_TooMany => first | k_is | rfl | decide)
    (case gg_TooMany => first | k_is | rfl | decide)
    (case ex2_TooMany => first | k_is | rfl | decide)
    (case hd_TooMany => first | k_is | rfl | decide)
    (case ga2_TooMany => first | k_is | rfl | decide)
    (case gg2_TooMany => first | k_is | rfl | decide)
    (case ex3_TooMany => first | k_is | rfl | decide)
    (case hd2_TooMany => first | k_is | rfl | decide)
    (case ha_TooMany => first | k_is | rfl | decide)
    (case hn_TooMany => first | k_is | rfl | decide)
    (case ht_TooMany => first | k_is | rfl | decide)
    (case hm_TooMany => first | k_is | rfl | decide)
    (case ki_TooMany => first | k_is | rfl | decide)
    (case su_Unreadable => first | k_is | rfl | decide)
    (case sv_Unreadable => first | k_is | rfl | decide)
    (case sp_Unreadable => first | k_is | rfl | decide)
    (case ga_Unreadable => first | k_is | rfl | decide)
    (case gg_Unreadable => first | k_is | rfl | decide)
    (case ex2_Unreadable => first | k_is | rfl | decide)
    (case hd_Unreadable => first | k_is | rfl | decide)
    (case ga2_Unreadable => first | k_is | rfl | decide)
    (case gg2_Unreadable => first | k_is | rfl | decide)
    (case ex3_Unreadable => first | k_is | rfl | decide)
    (case hd2_Unreadable => first | k_is | rfl | decide)
    (case ha_Unreadable => first | k_is | rfl | decide)
    (case hn_Unreadable => first | k_is | rfl | decide)
    (case ht_Unreadable => first | k_is | rfl | decide)
    (case hm_Unreadable => first | k_is | rfl | decide)
    (case ki_Unreadable => first | k_is | rfl | decide)
    (case mr_InvalidBenches => exact ⟨_, (by k_is), (by first | exact Or.inl rfl | exact Or.inr ⟨rfl, rfl⟩)⟩)
    (case mr_InvalidBoard => exact ⟨_, (by k_is), (by first | exact Or.inl rfl | exact Or.inr ⟨rfl, rfl⟩)⟩)
    (case mr_InvalidCommand => exact ⟨_, (by k_is), (by first | exact Or.inl rfl | exact Or.inr ⟨rfl, rfl⟩)⟩)
    (case mr_InvalidCosts => exact ⟨_, (by k_is), (by first | exact Or.inl rfl | exact Or.inr ⟨rfl, rfl⟩)⟩)
    (case mr_InvalidCounts => exact ⟨_, (by k_is), (by first | exact Or.inl rfl | exact Or.inr ⟨rfl, rfl⟩)⟩)
    (case mr_InvalidCuts => exact ⟨_, (by k_is), (by first | exact Or.inl rfl | exact Or.inr ⟨rfl, rfl⟩)⟩)
    (case mr_InvalidFractions => exact ⟨_, (by k_is), (by first | exact Or.inl rfl | exact Or.inr ⟨rfl, rfl⟩)⟩)
    (case mr_InvalidFrame => exact ⟨_, (by k_is), (by first | exact Or.inl rfl | exact Or.inr ⟨rfl, rfl⟩)⟩)
    (case mr_InvalidGroups => exact ⟨_, (by k_is), (by first | exact Or.inl rfl | exact Or.inr ⟨rfl, rfl⟩)⟩)
    (case mr_InvalidHeights => exact ⟨_, (by k_is), (by first | exact Or.inl rfl | exact Or.inr ⟨rfl, rfl⟩)⟩)
    (case mr_InvalidLine => exact ⟨_, (by k_is), (by first | exact Or.inl rfl | exact Or.inr ⟨rfl, rfl⟩)⟩)
    (case mr_InvalidMove => exact ⟨_, (by k_is), (by first | exact Or.inl rfl | exact Or.inr ⟨rfl, rfl⟩)⟩)
    (case mr_InvalidNumber => exact ⟨_, (by k_is), (by first | exact Or.inl rfl | exact Or.inr ⟨rfl, rfl⟩)⟩)
    (case mr_InvalidPairs => exact ⟨_, (by k_is), (by first | exact Or.inl rfl | exact Or.inr ⟨rfl, rfl⟩)⟩)
    (case mr_InvalidPlacing => exact ⟨_, (by k_is), (by first | exact Or.inl rfl | exact Or.inr ⟨rfl, rfl⟩)⟩)
    (case mr_InvalidPrices => exact ⟨_, (by k_is), (by first | exact Or.inl rfl | exact Or.inr ⟨rfl, rfl⟩)⟩)
    (case mr_InvalidPromises => exact ⟨_, (by k_is), (by first | exact Or.inl rfl | exact Or.inr ⟨rfl, rfl⟩)⟩)
    (case mr_InvalidRing => exact ⟨_, (by k_is), (by first | exact Or.inl rfl | exact Or.inr ⟨rfl, rfl⟩)⟩)
    (case mr_InvalidShares => exact ⟨_, (by k_is), (by first | exact Or.inl rfl | exact Or.inr ⟨rfl, rfl⟩)⟩)
    (case mr_InvalidTable => exact ⟨_, (by k_is), (by first | exact Or.inl rfl | exact Or.inr ⟨rfl, rfl⟩)⟩)
    (case mr_InvalidWeeks => exact ⟨_, (by k_is), (by first | exact Or.inl rfl | exact Or.inr ⟨rfl, rfl⟩)⟩)
    (case mr_InvalidWeights => exact ⟨_, (by k_is), (by first | exact Or.inl rfl | exact Or.inr ⟨rfl, rfl⟩)⟩)
    (case mr_NoLine => exact ⟨_, (by k_is), (by first | exact Or.inl rfl | exact Or.inr ⟨rfl, rfl⟩)⟩)
    (case mr_NoPlacing => exact ⟨_, (by k_is), (by first | exact Or.inl rfl | exact Or.inr ⟨rfl, rfl⟩)⟩)
    (case mr_NoTable => exact ⟨_, (by k_is), (by first | exact Or.inl rfl | exact Or.inr ⟨rfl, rfl⟩)⟩)
    (case mr_NotReady => exact ⟨_, (by k_is), (by first | exact Or.inl rfl | exact Or.inr ⟨rfl, rfl⟩)⟩)
    (case mr_Nothing => exact ⟨_, (by k_is), (by first | exact Or.inl rfl | exact Or.inr ⟨rfl, rfl⟩)⟩)
    (case mr_StandError => exact ⟨_, (by k_is), (by first | exact Or.inl rfl | exact Or.inr ⟨rfl, rfl⟩)⟩)
    (case mr_TooMany => exact ⟨_, (by k_is), (by first | exact Or.inl rfl | exact Or.inr ⟨rfl, rfl⟩)⟩)
    (case mr_Unreadable => exact ⟨_, (by k_is), (by first | exact Or.inl rfl | exact Or.inr ⟨rfl, rfl⟩)⟩)
    (case nd => decide)
    exact FN.law_end K98.law_true A_law hmg (fun _ _ _ _ _ _ us hl => match us, hl with | [_], _ => rfl) (fun base => K98.law_kn ⟨B, ER, A__law_well, A__law_draw, A__law_thing, A__law_same, A__law_first, A__law_second, A__law_kinds, A__law_caught, A_law⟩ base)
