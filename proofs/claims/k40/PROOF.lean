import PyProof.Rows.All
import Wide.All
import OpenK.AllK
import Wide.FinOn
import KE.KStateDown
import KE.KDictPairs
import Lean
import HandS.Base
import HandS.Call
import HandS.List
import HandS.Comp
import HandS.Ends
import HandS.Dict
import HandS.Iter
import HandS.Text
import HandS.More
import HandS.Words
import HandS.WordsList
import HandS.WordsDict
import HandS.Exc
import HandS.ExcOwn
import HandS.WordsExc
import HandS.Defaults
import HandS.TryMany
import HandS.IsInst
import HandS.Wide
import HandS.Zip
import HandS.NoneIn
import HandS.TryOnly
import HandS.Style
import HandS.Small
import HandS.Strs
import HandS.TupAny
import HandS.TupMul
import HandS.TupLe
import HandS.SortInts
import HandS.SortRule
import HandS.EndBits
import HandS.Head0
import HandS.Head1
import HandS.Head2
import HandS.HeadEnd
import HandS.HeadHook1
import HandS.HeadHook2
import PyProof.Rows.SortKeyStr
import PySem.Challenge.RW_anyunits_k40_whole_conversions
set_option Elab.async false
set_option linter.all false
set_option maxRecDepth 100000
set_option maxHeartbeats 0
namespace PL
open PySem PySem.Spec PyProof.Rows L2

inductive AV where
  | non | bl (b : Bool) | int (i : Int) | str (x : Str) | tup (xs : List AV) | wt (xs : List AV) | rl (xs : List AV) | ref (a : Addr)

def SqF (K : PySem.W.Frag) (H : Hp) (a : Addr) (xs : List V) : Prop :=
  (∃ o, H a = some (.frz o (.lst xs))) ∨
    ∃ (o : Obj) (its : Array Value) (n : Nat), K.lookup a = some o ∧ o.cls = .type "list" ∧ o.dict = none ∧ o.data = .seq its n ∧ its.size ≤ sizeLine ∧ Vals xs its.toList
theorem SqF.sq {K : PySem.W.Frag} {H : Hp} {a : Addr} {xs : List V} (h : SqF K H a xs) : SqL K H a xs := by
  rcases h with ⟨o, h⟩ | h
  · exact .inl (.inr ⟨o, h⟩)
  · exact .inr h

def SqP (K : PySem.W.Frag) (H : Hp) (a : Addr) (xs : List V) : Prop :=
  (∃ o : Obj, o.dict = none ∧ H a = some (.frz o (.tup xs))) ∨
    ∃ (o : Obj) (its : Array Value) (n : Nat), K.lookup a = some o ∧ o.dict = none ∧ o.cls = .type "tuple" ∧ o.data = .seq its n ∧ its.size ≤ sizeLine ∧ Vals xs its.toList
theorem SqP.sq {K : PySem.W.Frag} {H : Hp} {a : Addr} {xs : List V} (h : SqP K H a xs) : SqT K H a xs := by
  rcases h with ⟨o, _, h⟩ | ⟨o, its, n, e, _, r⟩
  · exact .inl (.inr ⟨o, h⟩)
  · exact .inr ⟨o, its, n, e, r⟩

instance : Inhabited AV := ⟨.non⟩

mutual
def Rep (K : PySem.W.Frag) (H : Hp) : AV → V → Prop
  | .non, v => v = .non
  | .bl b, v => v = .bl b
  | .int i, v => v = .int i
  | .str x, v => v = .str x
  | .tup xs, v => ∃ a vs, v = .ref a ∧ SqP K H a vs ∧ Reps K H xs vs
  | .wt xs, v => ∃ a vs, v = .ref a ∧ SqT K H a vs ∧ Reps K H xs vs
  | .rl xs, v => ∃ a vs, v = .ref a ∧ SqF K H a vs ∧ Reps K H xs vs
  | .ref a, v => v = .ref a
def Reps (K : PySem.W.Frag) (H : Hp) : List AV → List V → Prop
  | [], vs => vs = []
  | x :: xs, vs => ∃ v r, vs = v :: r ∧ Rep K H x v ∧ Reps K H xs r
end

structure TLe (K : PySem.W.Frag) (H H' : Hp) : Prop where
  t : ∀ a vs, SqT K H a vs → SqT K H' a vs
  f : ∀ a vs, SqF K H a vs → SqF K H' a vs
  p : ∀ a vs, SqP K H a vs → SqP K H' a vs
theorem TLe.refl {K : PySem.W.Frag} {H : Hp} : TLe K H H := ⟨fun _ _ h => h, fun _ _ h => h, fun _ _ h => h⟩
theorem TLe.trans {K : PySem.W.Frag} {H H1 H2 : Hp} (a : TLe K H H1) (b : TLe K H1 H2) : TLe K H H2 := ⟨fun x vs h => b.t x vs (a.t x vs h), fun x vs h => b.f x vs (a.f x vs h), fun x vs h => b.p x vs (a.p x vs h)⟩
theorem TLe.off {K : PySem.W.Frag} {H : Hp} {p : Addr} {o : HO} (h1 : ∀ xs, H p ≠ some (.tup xs)) (h2 : ∀ o xs, H p ≠ some (.frz o xs)) : TLe K H (upd H p o) := by
  refine ⟨fun a vs h => ?_, fun a vs h => ?_, fun a vs h => ?_⟩
  · rcases h with h | h
    · have ne : a ≠ p := by
        rintro rfl
        rcases h with h | ⟨ob, h⟩
        · exact h1 _ h
        · exact h2 _ _ h
      rcases h with h | ⟨ob, h⟩
      · exact .inl (.inl (by rw [upd_ne ne]; exact h))
      · exact .inl (.inr ⟨ob, by rw [upd_ne ne]; exact h⟩)
    · exact .inr h
  · rcases h with ⟨ob, h⟩ | h
    · have ne : a ≠ p := by
        rintro rfl
        exact h2 _ _ h
      exact .inl ⟨ob, by rw [upd_ne ne]; exact h⟩
    · exact .inr h
  · rcases h with ⟨ob, hd, h⟩ | h
    · have ne : a ≠ p := by
        rintro rfl
        exact h2 _ _ h
      exact .inl ⟨ob, hd, by rw [upd_ne ne]; exact h⟩
    · exact .inr h
theorem TLe.fresh {K : PySem.W.Frag} {H : Hp} {p : Addr} {o : HO} (hp : H p = none) : TLe K H (upd H p o) := TLe.off (fun _ e => by rw [hp] at e; cases e) fun _ _ e => by rw [hp] at e; cases e
def NoTup : HO → Prop
  | .tup _ => False
  | .frz _ _ => False
  | _ => True
theorem TLe.write {K : PySem.W.Frag} {H : Hp} {p : Addr} {o o' : HO} (hp : H p = some o) (hn : NoTup o) : TLe K H (upd H p o') :=
  TLe.off (fun _ e => by rw [hp] at e; cases e; exact hn) fun _ _ e => by rw [hp] at e; cases e; exact hn

mutual
theorem Rep.mono {K : PySem.W.Frag} {H H' : Hp} (t : TLe K H H') : ∀ {x : AV} {v : V}, Rep K H x v → Rep K H' x v
  | .non, _, h => h
  | .bl _, _, h => h
  | .int _, _, h => h
  | .str _, _, h => h
  | .ref _, _, h => h
  | .tup xs, v, h => by
    unfold Rep at h ⊢
    obtain ⟨a, vs, e, q, r⟩ := h
    exact ⟨a, vs, e, t.p a vs q, Reps.mono t r⟩
  | .wt xs, v, h => by
    unfold Rep at h ⊢
    obtain ⟨a, vs, e, q, r⟩ := h
    exact ⟨a, vs, e, t.t a vs q, Reps.mono t r⟩
  | .rl xs, v, h => by
    unfold Rep at h ⊢
    obtain ⟨a, vs, e, q, r⟩ := h
    exact ⟨a, vs, e, t.f a vs q, Reps.mono t r⟩
theorem Reps.mono {K : PySem.W.Frag} {H H' : Hp} (t : TLe K H H') : ∀ {xs : List AV} {vs : List V}, Reps K H xs vs → Reps K H' xs vs
  | [], _, h => h
  | x :: xs, vs, h => by
    unfold Reps at h ⊢
    obtain ⟨v, r, e, a, b⟩ := h
    exact ⟨v, r, e, Rep.mono t a, Reps.mono t b⟩
end
section
variable {K : PySem.W.Frag} {H H' : Hp}
theorem rep_non {v : V} : Rep K H .non v ↔ v = .non := by unfold Rep; exact Iff.rfl
theorem rep_bl {b : Bool} {v : V} : Rep K H (.bl b) v ↔ v = .bl b := by unfold Rep; exact Iff.rfl
theorem rep_int {i : Int} {v : V} : Rep K H (.int i) v ↔ v = .int i := by unfold Rep; exact Iff.rfl
theorem rep_str {x : Str} {v : V} : Rep K H (.str x) v ↔ v = .str x := by unfold Rep; exact Iff.rfl
theorem rep_ref {a : Addr} {v : V} : Rep K H (.ref a) v ↔ v = .ref a := by unfold Rep; exact Iff.rfl
theorem rep_tup {xs : List AV} {v : V} : Rep K H (.tup xs) v ↔ ∃ a vs, v = .ref a ∧ SqP K H a vs ∧ Reps K H xs vs := by unfold Rep; exact Iff.rfl
theorem rep_wt {xs : List AV} {v : V} : Rep K H (.wt xs) v ↔ ∃ a vs, v = .ref a ∧ SqT K H a vs ∧ Reps K H xs vs := by unfold Rep; exact Iff.rfl
theorem rep_tupT {xs : List AV} {v : V} (h : Rep K H (.tup xs) v) : ∃ a vs, v = .ref a ∧ SqT K H a vs ∧ Reps K H xs vs :=
  let ⟨a, vs, e, q, r⟩ := rep_tup.mp h
  ⟨a, vs, e, q.sq, r⟩
theorem rep_rl {xs : List AV} {v : V} : Rep K H (.rl xs) v ↔ ∃ a vs, v = .ref a ∧ SqF K H a vs ∧ Reps K H xs vs := by unfold Rep; exact Iff.rfl
theorem reps_nil {vs : List V} : Reps K H [] vs ↔ vs = [] := by unfold Reps; exact Iff.rfl
theorem reps_cons {x : AV} {xs : List AV} {vs : List V} : Reps K H (x :: xs) vs ↔ ∃ v r, vs = v :: r ∧ Rep K H x v ∧ Reps K H xs r := by
  constructor
  · intro h; unfold Reps at h; exact h
  · intro h; unfold Reps; exact h
theorem Reps.length : ∀ {xs : List AV} {vs : List V}, Reps K H xs vs → vs.length = xs.length
  | [], _, h => by rw [reps_nil.mp h]; rfl
  | x :: xs, vs, h => by
    obtain ⟨v, r, rfl, _, q⟩ := reps_cons.mp h
    rw [List.length_cons, List.length_cons, Reps.length q]
theorem Reps.get : ∀ {xs : List AV} {vs : List V} {i : Nat} {x : AV}, Reps K H xs vs → xs[i]? = some x → ∃ v, vs[i]? = some v ∧ Rep K H x v
  | [], _, _, _, _, e => by simp at e
  | y :: xs, vs, 0, x, h, e => by
    obtain ⟨v, r, rfl, a, _⟩ := reps_cons.mp h
    simp at e; subst e
    exact ⟨v, rfl, a⟩
  | y :: xs, vs, i + 1, x, h, e => by
    obtain ⟨v, r, rfl, _, q⟩ := reps_cons.mp h
    obtain ⟨w, e2, a⟩ := Reps.get (i := i) q (by simpa using e)
    exact ⟨w, by simpa using e2, a⟩
theorem Reps.back : ∀ {xs : List AV} {vs : List V} {i : Nat} {v : V}, Reps K H xs vs → vs[i]? = some v → ∃ x, xs[i]? = some x ∧ Rep K H x v
  | [], _, _, _, h, e => by rw [reps_nil.mp h] at e; simp at e
  | y :: xs, vs, 0, v, h, e => by
    obtain ⟨w, r, rfl, a, _⟩ := reps_cons.mp h
    simp at e; subst e
    exact ⟨y, rfl, a⟩
  | y :: xs, vs, i + 1, v, h, e => by
    obtain ⟨w, r, rfl, _, q⟩ := reps_cons.mp h
    obtain ⟨x, e2, a⟩ := Reps.back (i := i) q (by simpa using e)
    exact ⟨x, by simpa using e2, a⟩
theorem Reps.append : ∀ {xs ys : List AV} {vs ws : List V}, Reps K H xs vs → Reps K H ys ws → Reps K H (xs ++ ys) (vs ++ ws)
  | [], ys, vs, ws, h, k => by rw [reps_nil.mp h]; exact k
  | x :: xs, ys, vs, ws, h, k => by
    obtain ⟨v, r, rfl, a, q⟩ := reps_cons.mp h
    exact reps_cons.mpr ⟨v, r ++ ws, rfl, a, Reps.append q k⟩
theorem Reps.one {x : AV} {v : V} (h : Rep K H x v) : Reps K H [x] [v] := reps_cons.mpr ⟨v, [], rfl, h, reps_nil.mpr rfl⟩
theorem Reps.set : ∀ {xs : List AV} {vs : List V} {x : AV} {v : V} (i : Nat), Reps K H xs vs → Rep K H x v → Reps K H (xs.set i x) (vs.set i v)
  | [], vs, _, _, _, h, _ => by rw [reps_nil.mp h]; exact reps_nil.mpr rfl
  | y :: xs, vs, x, v, 0, h, k => by
    obtain ⟨w, r, rfl, a, q⟩ := reps_cons.mp h
    exact reps_cons.mpr ⟨v, r, rfl, k, q⟩
  | y :: xs, vs, x, v, i + 1, h, k => by
    obtain ⟨w, r, rfl, a, q⟩ := reps_cons.mp h
    exact reps_cons.mpr ⟨w, r.set i v, rfl, a, Reps.set i q k⟩
theorem Reps.take : ∀ {xs : List AV} {vs : List V} (n : Nat), Reps K H xs vs → Reps K H (xs.take n) (vs.take n)
  | [], vs, n, h => by rw [reps_nil.mp h]; simp [reps_nil]
  | y :: xs, vs, 0, h => by simp [reps_nil]
  | y :: xs, vs, n + 1, h => by
    obtain ⟨w, r, rfl, a, q⟩ := reps_cons.mp h
    exact reps_cons.mpr ⟨w, r.take n, rfl, a, Reps.take n q⟩
theorem Reps.drop : ∀ {xs : List AV} {vs : List V} (n : Nat), Reps K H xs vs → Reps K H (xs.drop n) (vs.drop n)
  | [], vs, n, h => by rw [reps_nil.mp h]; simp [reps_nil]
  | y :: xs, vs, 0, h => h
  | y :: xs, vs, n + 1, h => by
    obtain ⟨w, r, rfl, a, q⟩ := reps_cons.mp h
    exact Reps.drop n q
theorem Reps.reverse : ∀ {xs : List AV} {vs : List V}, Reps K H xs vs → Reps K H xs.reverse vs.reverse
  | [], vs, h => by rw [reps_nil.mp h]; exact reps_nil.mpr rfl
  | y :: xs, vs, h => by
    obtain ⟨w, r, rfl, a, q⟩ := reps_cons.mp h
    rw [List.reverse_cons, List.reverse_cons]
    exact (Reps.reverse q).append (Reps.one a)
theorem Reps.ints : ∀ {ns : List Int} {vs : List V}, Reps K H (ns.map AV.int) vs ↔ vs = ns.map V.int
  | [], vs => reps_nil
  | n :: ns, vs => by
    rw [List.map_cons, reps_cons, List.map_cons]
    constructor
    · rintro ⟨v, r, rfl, a, q⟩
      rw [rep_int.mp a, Reps.ints.mp q]
    · rintro rfl
      exact ⟨_, _, rfl, rep_int.mpr rfl, Reps.ints.mpr rfl⟩
theorem Reps.strs : ∀ {ns : List Str} {vs : List V}, Reps K H (ns.map AV.str) vs ↔ vs = ns.map V.str
  | [], vs => reps_nil
  | n :: ns, vs => by
    rw [List.map_cons, reps_cons, List.map_cons]
    constructor
    · rintro ⟨v, r, rfl, a, q⟩
      rw [rep_str.mp a, Reps.strs.mp q]
    · rintro rfl
      exact ⟨_, _, rfl, rep_str.mpr rfl, Reps.strs.mpr rfl⟩
theorem Reps.bls : ∀ {ns : List Bool} {vs : List V}, Reps K H (ns.map AV.bl) vs ↔ vs = ns.map V.bl
  | [], vs => reps_nil
  | n :: ns, vs => by
    rw [List.map_cons, reps_cons, List.map_cons]
    constructor
    · rintro ⟨v, r, rfl, a, q⟩
      rw [rep_bl.mp a, Reps.bls.mp q]
    · rintro rfl
      exact ⟨_, _, rfl, rep_bl.mpr rfl, Reps.bls.mpr rfl⟩
end

inductive AO where
  | lst (xs : List AV)
  | dK (kvs : List (Key × AV))
  | ins (c : Nat) (fs : List (Nat × AV))

abbrev AH := Addr → Option AO
def aupd (h : AH) (a : Addr) (o : AO) : AH := fun b => if b = a then some o else h b
@[simp] theorem aupd_same {h : AH} {a : Addr} {o : AO} : aupd h a o a = some o := by unfold aupd; rw [if_pos rfl]
theorem aupd_ne {h : AH} {a b : Addr} {o : AO} (e : b ≠ a) : aupd h a o b = h b := by unfold aupd; rw [if_neg e]
theorem aupd_aupd {h : AH} {a : Addr} {o u : AO} : aupd (aupd h a o) a u = aupd h a u := by
  funext b; unfold aupd; split <;> rfl
def ALe (h h' : AH) : Prop := ∀ a o, h a = some o → h' a = some o
theorem ALe.refl {h : AH} : ALe h h := fun _ _ e => e
theorem ALe.trans {h h1 h2 : AH} (a : ALe h h1) (b : ALe h1 h2) : ALe h h2 := fun x o e => b x o (a x o e)
theorem ALe.fresh {h : AH} {p : Addr} {o : AO} (hp : h p = none) : ALe h (aupd h p o) := fun a u e => by
  rw [aupd_ne (by rintro rfl; rw [hp] at e; cases e)]; exact e

structure Tb where
  nm : Nat → Option Str
  mt : Nat → Option Str
  cn : Nat → Option Str
  fl : Nat → Option Str
  gn : Nat → Option Str
  gv : Nat → Option AV
  free : List Str

structure Wd where
  P : Program
  w : World
  K : PySem.W.Frag
  mg : Str → Option Value
  base : Heap
  T : Tb

def fldName (T : Tb) (i : Nat) : Str := (T.fl i).getD ""
def clsAddr (W : Wd) (c : Nat) : Addr := He.ga W.K ((W.T.cn c).getD "")

def RO (W : Wd) (H : Hp) (a : Addr) : AO → Prop
  | .lst xs => ∃ vs, H a = some (.lst vs) ∧ Reps W.K H xs vs
  | .dK kvs => ∃ vs, H a = some (.dK ((kvs.map (·.1)).zip vs)) ∧ Reps W.K H (kvs.map (·.2)) vs
  | .ins c fs => ∃ dx vs, H a = some (.ins (clsAddr W c) dx ((fs.map fun f => fldName W.T f.1).zip vs)) ∧ Reps W.K H (fs.map (·.2)) vs

theorem RO.there {W : Wd} {H : Hp} {a : Addr} {o : AO} (r : RO W H a o) : ∃ u, H a = some u ∧ NoTup u := by
  cases o with
  | lst xs => obtain ⟨vs, q, _⟩ := r; exact ⟨_, q, trivial⟩
  | dK kvs => obtain ⟨vs, q, _⟩ := r; exact ⟨_, q, trivial⟩
  | ins c fs => obtain ⟨dx, vs, q, _⟩ := r; exact ⟨_, q, trivial⟩
theorem RO.stay {W : Wd} {H H' : Hp} {a : Addr} {o : AO} (r : RO W H a o) (t : TLe W.K H H') (e : H' a = H a) : RO W H' a o := by
  cases o with
  | lst xs => obtain ⟨vs, q, s⟩ := r; exact ⟨vs, e.trans q, s.mono t⟩
  | dK kvs => obtain ⟨vs, q, s⟩ := r; exact ⟨vs, e.trans q, s.mono t⟩
  | ins c fs => obtain ⟨dx, vs, q, s⟩ := r; exact ⟨dx, vs, e.trans q, s.mono t⟩

def RH (W : Wd) (h : AH) (H : Hp) : Prop := ∀ a o, h a = some o → RO W H a o
theorem RH.sub {W : Wd} {h h' : AH} {H : Hp} (r : RH W h' H) (l : ALe h h') : RH W h H := fun a o e => r a o (l a o e)
theorem RH.isNone {W : Wd} {h : AH} {H : Hp} (r : RH W h H) {p : Addr} (hp : H p = none) : h p = none := by
  cases e : h p with
  | none => rfl
  | some o =>
    obtain ⟨u, q, _⟩ := (r p o e).there
    rw [hp] at q; cases q
theorem RH.fresh {W : Wd} {h : AH} {H : Hp} {p : Addr} {u : HO} (r : RH W h H) (hp : H p = none) : RH W h (upd H p u) := fun a o e => by
  obtain ⟨v, q, _⟩ := (r a o e).there
  exact (r a o e).stay (TLe.fresh hp) (upd_ne (ne_of_none q hp))
theorem RH.new {W : Wd} {h : AH} {H : Hp} {p : Addr} {u : HO} {o : AO} (r : RH W h H) (hp : H p = none) (n : RO W (upd H p u) p o) : RH W (aupd h p o) (upd H p u) := fun a o' e => by
  by_cases ha : a = p
  · subst ha; rw [aupd_same] at e; cases e; exact n
  · rw [aupd_ne ha] at e
    exact (r a o' e).stay (TLe.fresh hp) (upd_ne ha)
theorem RH.write {W : Wd} {h : AH} {H : Hp} {p : Addr} {u v : HO} {o : AO} (r : RH W h H) (hp : H p = some v) (hn : NoTup v) (n : RO W (upd H p u) p o) : RH W (aupd h p o) (upd H p u) := fun a o' e => by
  by_cases ha : a = p
  · subst ha; rw [aupd_same] at e; cases e; exact n
  · rw [aupd_ne ha] at e
    exact (r a o' e).stay (TLe.write hp hn) (upd_ne ha)
end PL

namespace PL
open PySem PySem.Spec PyProof.Rows L2
abbrev tuO (us : List Value) : Obj := { cls := .type "tuple", data := .seq us.toArray }
section
variable {X : Cx}
theorem lay_tup {pins : List (Addr × Obj)} {σ : L2.St} {H : Hp} {s : Shared} {vs : List V} {us : List Value} {Q : VK} (J : Inv X pins σ H s) (rv : Vals vs us) (hz : vs.length ≤ sizeLine)
    (q : ∀ (p : Addr) (o : Obj), H p = none → o.dict = none → Q (.ref p) (upd H p (.frz o (.tup vs)))) : EP X pins σ Q (.ref s.heap.objs.size) { s with heap := s.heap.push (tuO us) } := by
  have hn : H s.heap.objs.size = none := J.hok.fresh (Nat.le_refl _)
  have look : (s.heap.push (tuO us)).get? s.heap.objs.size = some (tuO us) := Heap.get?_push_size _ rfl
  exact ⟨V.ref s.heap.objs.size, upd H s.heap.objs.size (.frz (tuO us) (.tup vs)), J.laid (t' := s.toks) (fun _ _ e => Heap.get?_push_of_some _ e) (Nat.le_refl _) ⟨look, hz, us, rv, IsTup.new _ _⟩, rfl, q _ _ hn rfl⟩
def tTupP (t : TA) : TE := fun σ H Q => t σ H fun xs H1 => xs.length ≤ sizeLine ∧ ∀ (p : Addr) (o : Obj), H1 p = none → o.dict = none → Q (.ref p) (upd H1 p (.frz o (.tup xs)))
theorem pe_tupP {es : List Expr} {t : TA} {pos : Pos} {k : Nat} (h : PA X es t) : PE X (.Tuple es k pos) (tTupP t) := by
  refine ⟨fun pins s σ H Q J w => wpAny_Tuple_spliced (thn (h.run pos pins s σ H _ J w) ?_)⟩
  rintro us s1 ⟨xs, H1, J1, rv, hz, q⟩
  exact ⟨by rw [← rv.length]; exact hz, lay_tup J1 rv hz q⟩
theorem call_tupleP : CallR X (.type "tuple") (fun xs H Q => ∃ p ys, xs = [.ref p] ∧ SqL X.K H p ys ∧ ∀ (l : Addr) (o : Obj), H l = none → o.dict = none → Q (.ref l) (upd H l (.frz o (.tup ys)))) := by
  intro pins s σ H xs us Q J r w
  obtain ⟨p, ys, rfl, hq, q⟩ := w
  obtain ⟨u, rfl, rx⟩ := vals1 r
  cases rx
  obtain ⟨its, rv, pl, hz⟩ := J.list hq
  have hlen := rv.length
  refine call_tuple_list pl.isList (fun h' kp => ?_) (by simp only [List.size_toArray] <;> omega)
  exact lay_tup (J.kept (t' := s.toks) (h' := h') kp) rv hz q
theorem op_catP : OpR X (binaryOp .Add) (fun x y H Q => ∃ a b xs ys, x = V.ref a ∧ y = V.ref b ∧ SqT X.K H a xs ∧ SqT X.K H b ys ∧ xs.length + ys.length ≤ sizeLine ∧
    (xs = [] → Q (.ref b) H) ∧ (xs ≠ [] → ys = [] → Q (.ref a) H) ∧ (xs ≠ [] → ys ≠ [] → ∀ (p : Addr) (o : Obj), H p = none → o.dict = none → Q (.ref p) (upd H p (.frz o (.tup (xs ++ ys)))))) := by
  intro pins s σ H x y v u Q J rx ry w
  obtain ⟨a, b, xs, ys, rfl, rfl, ta, tb, hz, q0, q1, q2⟩ := w
  by_cases hx : xs = []
  · exact op_catA pins s σ H _ _ v u Q J rx ry ⟨a, b, xs, ys, rfl, rfl, ta, tb, hz, q0, q1, fun n => absurd hx n⟩
  · by_cases hy : ys = []
    · exact op_catA pins s σ H _ _ v u Q J rx ry ⟨a, b, xs, ys, rfl, rfl, ta, tb, hz, q0, q1, fun _ n => absurd hy n⟩
    · cases rx
      cases ry
      obtain ⟨us, r1, p1, _⟩ := J.tuple ta
      obtain ⟨ws, r2, p2, _⟩ := J.tuple tb
      refine HT.cat_tup p1 p2 (fun z => hx (r1.nil_iff.mp z)) (fun z => absurd (r2.nil_iff.mp z) hy) (fun _ => ?_) (by rw [← r1.length, ← r2.length]; exact hz)
      exact lay_tup J (r1.append r2) (by rw [List.length_append]; exact hz) (q2 hx hy)
theorem sl_tupP : SlR X (fun x lo hi H Q => ∃ a xs, x = V.ref a ∧ SqT X.K H a xs ∧ (HT.sIx xs.length 0 lo = 0 ∧ HT.sIx xs.length xs.length hi = xs.length → Q (.ref a) H) ∧
    (¬ (HT.sIx xs.length 0 lo = 0 ∧ HT.sIx xs.length xs.length hi = xs.length) → ∀ (p : Addr) (o : Obj), H p = none → o.dict = none → Q (.ref p) (upd H p (.frz o (.tup (cutV xs lo hi)))))) := by
  intro pins s σ H x v vl vu lo hi sl Q J rx hs pl pu w
  obtain ⟨a, xs, rfl, ta, q1, q2⟩ := w
  by_cases hw : HT.sIx xs.length 0 lo = 0 ∧ HT.sIx xs.length xs.length hi = xs.length
  · exact sl_tupA pins s σ H _ v vl vu lo hi sl Q J rx hs pl pu ⟨a, xs, rfl, ta, q1, fun n => absurd hw n⟩
  · cases rx
    obtain ⟨us, r, tt, hz⟩ := J.tuple ta
    have hlen : us.toArray.size = xs.length := by rw [List.size_toArray, ← r.length]
    refine ⟨"tuple", _, PyProof.Rows.slot_tuple_getitem.lookup, tt.typeIs, HT.getItem_tuple_cut tt hs pl pu (by rw [hlen]; exact hw) ?_ (by rw [hlen]; exact hz)⟩
    rw [hlen]
    exact lay_tup J ((r.drop (HT.sIx xs.length 0 lo)).take (HT.sIx xs.length xs.length hi - HT.sIx xs.length 0 lo)) (Nat.le_trans (cutV_length xs lo hi) hz) (q2 hw)
theorem pairs3 {pins : List (Addr × Obj)} {σ : L2.St} {H : Hp} {s : Shared} (J : Inv X pins σ H s) : ∀ {ps : List Addr} {kvs : List (Key × V)}, Paired (fun p kv => SqT X.K H p [kV kv.1, kv.2]) ps kvs →
    ∃ l : List (Key × Value × Value), KV kvs (l.map fun q => (q.1, q.2.2)) ∧ l.length = ps.length ∧ ∀ (j : Nat) (q : Key × Value × Value), l[j]? = some q → ∃ b : Addr, ps[j]? = some b ∧ IsTup s.heap b #[q.2.1, q.2.2] ∧ keyIs q.1 q.2.1 = true
  | _, _, .nil => ⟨[], .nil, rfl, fun _ _ e => by simp at e⟩
  | _, _, .cons (a := p) (b := kv) hd tl => by
    obtain ⟨l, r, hl, hp⟩ := pairs3 J tl
    obtain ⟨us, rv, ht, _⟩ := J.tuple hd
    obtain ⟨u, y, eu, ru, ry⟩ := vals2 rv
    subst eu
    refine ⟨(kv.1, u, y) :: l, .cons ⟨rfl, ry⟩ r, by simp [hl], fun j q e => ?_⟩
    cases j with
    | zero =>
      cases (show some (kv.1, u, y) = some q from e)
      exact ⟨p, rfl, ht, kV_is (P := X.prog) (w := X.w) ru⟩
    | succ j =>
      obtain ⟨b, e1, e2, e3⟩ := hp j q (by simpa using e)
      exact ⟨b, by simpa using e1, e2, e3⟩
theorem call_dictTP (hcalm : X.calm = true) : CallR X (.type "dict") (fun xs H Q => ∃ (a : Addr) (ps : List Addr) (kvs : List (Key × V)), xs = [.ref a] ∧ SqP X.K H a (ps.map V.ref) ∧ Paired (fun p kv => SqT X.K H p [kV kv.1, kv.2]) ps kvs ∧
    ∀ p, H p = none → Q (.ref p) (upd H p (.dK (mergeK [] kvs)))) := by
  intro pins s σ H xs us Q J r w
  obtain ⟨a, ps, kvs, rfl, hq, hp, q⟩ := w
  obtain ⟨u, rfl, rx⟩ := vals1 r
  cases rx
  have plain : ∃ (o : Obj) (n : Nat) (its : List Value), s.heap.get? a = some o ∧ o.cls = .type "tuple" ∧ o.dict = none ∧ o.data = .seq its.toArray n ∧ Vals (ps.map V.ref) its ∧ its.length ≤ sizeLine := by
    rcases hq with ⟨o, ho, e⟩ | ⟨o, its, n, e, hd, hc, hdat, hz, rv⟩
    · obtain ⟨g, hz, its, rv, o', g', hc, n, hdat⟩ := J.hok a _ e
      rw [g] at g'
      cases g'
      exact ⟨o, n, its, g, hc, ho, hdat, rv, by rw [← rv.length]; exact hz⟩
    · exact ⟨o, n, its.toList, J.kIn _ _ e, hc, hd, by simpa using hdat, rv, by simpa using hz⟩
  obtain ⟨o, n, its, g, hc, hd, hdat, rv, hz⟩ := plain
  have ei := refs_at rv
  subst ei
  rw [List.length_map] at hz
  obtain ⟨l, rel, hl, hpr⟩ := pairs3 J hp
  have P := PairArg.tuple (prog := X.prog) (w := X.w) a (ps.map Value.ref).toArray (fun j => ps.getD j 0) (l.map (·.2))
  refine PySem.call_dict_pairs (A := X.A) (knd := mixKind X.prog X.w) (kvs := l.map fun q => (q.1, q.2.2)) P (J.ok.hd hcalm) ⟨⟨o, n, g, hc, hd, hdat⟩, by simp [hl], fun j k v e => ?_⟩ ⟨by simp, fun j k v e => ?_⟩ (by simp [hl, hz]) fun h' tk hd' kp => ?_
  · rw [List.getElem?_map] at e
    cases eq : l[j]? with
    | none => rw [eq] at e; cases e
    | some q =>
      obtain ⟨qk, qu, qv⟩ := q
      rw [eq] at e
      cases e
      obtain ⟨b, e1, e2, e3⟩ := hpr j _ eq
      have eb : ps.getD j 0 = b := by simp [e1]
      show _ = some (Value.ref (ps.getD j 0)) ∧ PairAt s.heap (ps.getD j 0) _ _
      rw [eb]
      exact ⟨by simp [e1], .inl e2⟩
  · have e : (l.map (·.2))[j]? = some (k, v) := e
    rw [List.getElem?_map] at e
    cases eq : l[j]? with
    | none => rw [eq] at e; cases e
    | some q =>
      obtain ⟨qk, qu, qv⟩ := q
      rw [eq] at e
      cases e
      obtain ⟨b, e1, e2, e3⟩ := hpr j _ eq
      exact ⟨qk, by simp [eq], e3⟩
  · have hm : (s.heap.objs.size == sysModules) = false := beq_eq_false_iff_ne.mpr (Nat.ne_of_gt J.big)
    have hlen : (mergeK [] kvs).length ≤ sizeLine := by
      have h1 := length_mergeK kvs []
      have h2 := rel.length
      rw [List.length_map] at h2
      rw [List.length_nil] at h1
      omega
    exact ⟨.ref s.heap.objs.size, upd H s.heap.objs.size (.dK (mergeK [] kvs)), J.laid (t' := tk) (fun b ob => kp b ob (by simp)) (Nat.le_refl _) (show ObjOk X.prog X.w _ _ _ (.dK (mergeK [] kvs)) from ⟨hlen, hm, _, KV.merge rel .nil, hd'⟩), rfl, q _ (J.hok.fresh (Nat.le_refl _))⟩
end
end PL

namespace PL
open PySem PySem.Spec PyProof.Rows L2

inductive BOp where | add | sub | mul | fdiv | mod | pow
  deriving DecidableEq
inductive COp where | eq | ne | lt | le | gt | ge | is | isnot | inn | notin
  deriving DecidableEq
inductive Blt where | len | abs | int | str | tuple | list | dict | sorted | sum | max | min | all | any | bool | repr | set
  deriving DecidableEq
inductive Ty where | int | bool | str | tuple | list | dict | set
  deriving DecidableEq
inductive Mth where | append | extend | pop | get | items | index | insert | join | split | lstrip | clear | upper | replace | count | startswith
  deriving DecidableEq

inductive CE where
  | non | bl (b : Bool) | int (i : Int) | str (x : Str)
  | var (i : Nat) | glob (g : Nat)
  | nil | cons (e es : CE)
  | tup (es : CE) | lst (es : CE) | dct0
  | bin (op : BOp) (a b : CE) | neg (a : CE) | not (a : CE)
  | cmp (op : COp) (a b : CE) | chain (o1 o2 : COp) (a b c : CE)
  | and (es : CE) | or (es : CE) | ifx (c a b : CE)
  | call (f : Nat) (es : CE)
  | blt (f : Blt) (es : CE)
  | isin (e : CE) (ts : List Ty)
  | idx (a i : CE) | slc (a lo hi : CE) | rev (a : CE)
  | mth (m : Mth) (o es : CE)
  | attr (o : CE) (f : Nat) | umth (m : Nat) (o es : CE) | new (c : Nat) (es : CE)
  | comp (own : List Nat) (g it ifs elt : CE)
  | tru (a : CE) | val (a : CE)
  | range1 (a : CE) | range2 (a b : CE) | range3 (a b c : CE) | enum (a : CE) | zip (a b : CE) | ditems (a : CE)

def CE.len : CE → Nat
  | .cons _ es => es.len + 1
  | _ => 0
inductive CS where
  | asg (g e : CE) | slc (i : Nat) (e : CE) | par (i j : Nat) (a b : CE) | par3 (i j k : Nat) (a b c : CE)
  | aug (i : Nat) (op : BOp) (e : CE)
  | expr (e : CE) | ret (e : CE) | retN
  | iff (c : CE) (t f : CS) | whl (c : CE) (b : CS) | forr (g it : CE) (b : CS)
  | raise (c : Nat) (es : CE)
  | tri (b hs : CS) | hnil | hcons (c : Nat) (b r : CS)
  | pass | brk | cont
  | nil | cons (s r : CS)

abbrev AEnv := List (Option AV)
abbrev AQ := AV → AH → Prop
structure AX where
  cls : Nat
  args : List AV
abbrev AXQ := AX → AH → Prop
abbrev ACall := Nat → List AV → AH → AQ → AXQ → Prop

mutual
def AV.eqv : AV → AV → Bool
  | .non, y => match y with | .non => true | _ => false
  | .bl a, y => match y with | .bl b => a == b | .int j => (if a then 1 else 0) == j | _ => false
  | .int i, y => match y with | .bl b => i == (if b then 1 else 0) | .int j => i == j | _ => false
  | .str a, y => match y with | .str b => a == b | _ => false
  | .tup xs, y => match y with | .tup ys => AV.eqvs xs ys | _ => false
  | .wt _, _ => false
  | .rl _, _ => false
  | .ref _, _ => false
def AV.eqvs : List AV → List AV → Bool
  | [], ys => match ys with | [] => true | _ :: _ => false
  | x :: xs, ys => match ys with | [] => false | y :: ys => AV.eqv x y && AV.eqvs xs ys
end
mutual
def AV.flat : Nat → AV → Bool
  | _, .non => true
  | _, .bl _ => true
  | _, .int _ => true
  | _, .str x => PyData.strOk x
  | 0, .tup _ => false
  | n + 1, .tup xs => AV.flats n xs
  | _, .wt _ => false
  | _, .rl _ => false
  | _, .ref _ => false
def AV.flats : Nat → List AV → Bool
  | _, [] => true
  | n, x :: xs => AV.flat n x && AV.flats n xs
end
def AV.toKey : AV → Option Key
  | .int i => some (.inl i)
  | .str x => some (.inr x)
  | _ => none
def AV.scal : AV → Bool
  | .non | .bl _ | .int _ | .str _ => true
  | _ => false

def dget (kvs : List (Key × AV)) (k : Key) : Option AV := (kvs.find? fun kv => decide (kv.1 = k)).map (·.2)
def dput (kvs : List (Key × AV)) (k : Key) (v : AV) : List (Key × AV) :=
  if (kvs.any fun kv => decide (kv.1 = k)) = true then kvs.map (fun kv => if kv.1 = k then (kv.1, v) else kv) else kvs ++ [(k, v)]
def keyV : Key → AV
  | .inl i => .int i
  | .inr x => .str x

def addR : AV → AV → AH → AQ → Prop
  | .int i, .int j, h, Q => Q (.int (i + j)) h
  | .str a, .str b, h, Q => a.length + b.length ≤ sizeLine ∧ Q (.str (a ++ b)) h
  | .tup xs, .tup ys, h, Q => xs.length + ys.length ≤ sizeLine ∧ Q (.tup (xs ++ ys)) h
  | .ref a, .ref b, h, Q => ∃ xs ys, h a = some (.lst xs) ∧ h b = some (.lst ys) ∧ xs.length + ys.length ≤ sizeLine ∧ ∀ p, h p = none → Q (.ref p) (aupd h p (.lst (xs ++ ys)))
  | _, _, _, _ => False
def subR : AV → AV → AH → AQ → Prop
  | .int i, .int j, h, Q => Q (.int (i - j)) h
  | _, _, _, _ => False
def mulR : AV → AV → AH → AQ → Prop
  | .int i, .int j, h, Q => CMulW i j ∧ Q (.int (i * j)) h
  | .tup xs, .int k, h, Q => xs ≠ [] ∧ 2 ≤ k ∧ k ≤ 1000 ∧ xs.length ≤ 1000 ∧ Q (.wt (List.replicate k.toNat xs).flatten) h
  | .ref a, .int k, h, Q => ∃ xs, h a = some (.lst xs) ∧ -(2 ^ 63) ≤ k ∧ k < 2 ^ 63 ∧ xs.length * k.toNat ≤ sizeLine ∧ ∀ p, h p = none → Q (.ref p) (aupd h p (.lst (List.replicate k.toNat xs).flatten))
  | _, _, _, _ => False
def fdivR : AV → AV → AH → AQ → Prop
  | .int i, .int j, h, Q => (j ≠ 0 ∧ j.natAbs.log2 < 9000) ∧ Q (.int (i.fdiv j)) h
  | _, _, _, _ => False
def modR : AV → AV → AH → AQ → Prop
  | .int i, .int j, h, Q => 0 < j ∧ Q (.int (i % j)) h
  | _, _, _, _ => False
def powR : AV → AV → AH → AQ → Prop
  | .int i, .int j, h, Q => CPow i j ∧ Q (.int (i ^ j.toNat)) h
  | _, _, _, _ => False
def binR : BOp → AV → AV → AH → AQ → Prop
  | .add => addR | .sub => subR | .mul => mulR | .fdiv => fdivR | .mod => modR | .pow => powR

def eqR (x y : AV) (h : AH) (Q : Bool → Prop) : Prop :=
  match x, y with
  | .ref a, .ref b => ∃ xs ys, h a = some (.lst xs) ∧ h b = some (.lst ys) ∧ AV.flats 50 xs = true ∧ AV.flats 50 ys = true ∧ Q (AV.eqvs xs ys)
  | x, y => AV.flat 50 x = true ∧ AV.flat 50 y = true ∧ Q (AV.eqv x y)
def ltR : AV → AV → (Bool → Prop) → Prop
  | .int i, .int j, Q => Q (decide (i < j))
  | .str a, .str b, Q => Q (decide (a.cps.toList < b.cps.toList))
  | _, _, _ => False
def leR : AV → AV → (Bool → Prop) → Prop
  | .int i, .int j, Q => Q (decide (i ≤ j))
  | _, _, _ => False
def gtR : AV → AV → (Bool → Prop) → Prop
  | .int i, .int j, Q => Q (decide (j < i))
  | _, _, _ => False
def geR : AV → AV → (Bool → Prop) → Prop
  | .int i, .int j, Q => Q (decide (j ≤ i))
  | _, _, _ => False
def isR : AV → AV → (Bool → Prop) → Prop
  | x, .non, Q => Q (match x with | .non => true | _ => false)
  | .bl a, .bl b, Q => Q (decide (a = b))
  | _, _, _ => False
def anyEq (x : AV) : List AV → Bool
  | [] => false
  | y :: ys => AV.eqv y x || anyEq x ys
def inR (x y : AV) (h : AH) (Q : Bool → Prop) : Prop :=
  match y with
  | .tup ys => x.scal = true ∧ ys.all AV.scal = true ∧ Q (anyEq x ys)
  | .str z => match x with | .str y => ∃ c, y = ⟨#[c]⟩ ∧ Q (decide (c ∈ z.cps.toList)) | _ => False
  | .ref a => (∃ ys, h a = some (.lst ys) ∧ x.scal = true ∧ ys.all AV.scal = true ∧ Q (anyEq x ys)) ∨ (∃ kvs k, h a = some (.dK kvs) ∧ x.toKey = some k ∧ Q (dget kvs k).isSome)
  | _ => False
def cmpR : COp → AV → AV → AH → (Bool → Prop) → Prop
  | .eq, x, y, h, Q => eqR x y h Q
  | .ne, x, y, h, Q => eqR x y h fun b => Q (!b)
  | .lt, x, y, _, Q => ltR x y Q
  | .le, x, y, _, Q => leR x y Q
  | .gt, x, y, _, Q => gtR x y Q
  | .ge, x, y, _, Q => geR x y Q
  | .is, x, y, _, Q => isR x y Q
  | .isnot, x, y, _, Q => isR x y fun b => Q (!b)
  | .inn, x, y, h, Q => inR x y h Q
  | .notin, x, y, h, Q => inR x y h fun b => Q (!b)

def truR (x : AV) (h : AH) (Q : Bool → Prop) : Prop :=
  match x with
  | .bl b => Q b
  | .non => Q false
  | .int i => Q (i != 0)
  | .tup xs => Q (!xs.isEmpty)
  | .ref a => ∃ xs, h a = some (.lst xs) ∧ Q (!xs.isEmpty)
  | _ => False

def atI (xs : List AV) (i : Int) : Option AV := if 0 ≤ i then xs[i.toNat]? else if -(xs.length : Int) ≤ i then xs[(xs.length + i).toNat]? else none
def ixR : AV → AV → AH → AQ → Prop
  | .tup xs, .int i, h, Q => ∃ v, atI xs i = some v ∧ Q v h
  | .rl xs, .int i, h, Q => ∃ v, atI xs i = some v ∧ Q v h
  | .str z, .int i, h, Q => z.length ≤ sizeLine ∧ ∃ c, L2.atI z.cps.toList i = some c ∧ Q (.str ⟨#[c]⟩) h
  | .ref a, y, h, Q => (∃ xs i v, y = .int i ∧ h a = some (.lst xs) ∧ atI xs i = some v ∧ Q v h) ∨ (∃ kvs k v, y.toKey = some k ∧ h a = some (.dK kvs) ∧ dget kvs k = some v ∧ Q v h)
  | _, _, _, _ => False
def acut (xs : List AV) (lo hi : Option Int) : List AV := (xs.drop (HT.sIx xs.length 0 lo)).take (HT.sIx xs.length xs.length hi - HT.sIx xs.length 0 lo)
def slR (x : AV) (lo hi : Option Int) (h : AH) (Q : AQ) : Prop :=
  match x with
  | .tup xs => Q (.tup (acut xs lo hi)) h
  | .rl xs => ∀ p, h p = none → Q (.ref p) (aupd h p (.lst (acut xs lo hi)))
  | .ref a => ∃ xs, h a = some (.lst xs) ∧ ∀ p, h p = none → Q (.ref p) (aupd h p (.lst (acut xs lo hi)))
  | _ => False
def revR (x : AV) (h : AH) (Q : AQ) : Prop :=
  match x with
  | .ref a => ∃ xs, h a = some (.lst xs) ∧ ∀ p, h p = none → Q (.ref p) (aupd h p (.lst xs.reverse))
  | _ => False

def hasTy (ts : List Ty) (t : Ty) : Bool := decide (t ∈ ts)
def tyR (ts : List Ty) (x : AV) (h : AH) (Q : Bool → Prop) : Prop :=
  match x with
  | .non => Q false
  | .bl _ => Q (hasTy ts .bool || hasTy ts .int)
  | .int _ => Q (hasTy ts .int)
  | .str _ => Q (hasTy ts .str)
  | .tup _ => Q (hasTy ts .tuple)
  | .wt _ => False
  | .rl _ => Q (hasTy ts .list)
  | .ref a => (∃ xs, h a = some (.lst xs) ∧ Q (hasTy ts .list)) ∨ (∃ kvs, h a = some (.dK kvs) ∧ Q (hasTy ts .dict))

def ltS (a b : Str) : Bool := decide (a.cps.toList < b.cps.toList)
def insS (x : Str) : List Str → List Str
  | [] => [x]
  | y :: ys => if ltS y x then y :: insS x ys else x :: y :: ys
def sortS : List Str → List Str
  | [] => []
  | x :: xs => insS x (sortS xs)
def insI (x : Int) : List Int → List Int
  | [] => [x]
  | y :: ys => if y < x then y :: insI x ys else x :: y :: ys
def sortI : List Int → List Int
  | [] => []
  | x :: xs => insI x (sortI xs)

def newL (h : AH) (xs : List AV) (Q : AQ) : Prop := ∀ p, h p = none → Q (.ref p) (aupd h p (.lst xs))
def pairs? : List AV → Option (List (Key × AV))
  | [] => some []
  | .tup [k, v] :: r => match k.toKey, pairs? r with
    | some k, some r => some ((k, v) :: r)
    | _, _ => none
  | _ :: _ => none
def merge (kvs : List (Key × AV)) : List (Key × AV) → List (Key × AV)
  | [] => kvs
  | (k, v) :: r => merge (dput kvs k v) r
def bls? : List AV → Option (List Bool)
  | [] => some []
  | .bl b :: r => (bls? r).map (b :: ·)
  | _ :: _ => none
def ints? : List AV → Option (List Int)
  | [] => some []
  | .int b :: r => (ints? r).map (b :: ·)
  | _ :: _ => none
def strs? : List AV → Option (List Str)
  | [] => some []
  | .str b :: r => (strs? r).map (b :: ·)
  | _ :: _ => none
def lenR (x : AV) (h : AH) (Q : AQ) : Prop :=
  match x with
  | .tup xs => Q (.int xs.length) h
  | .rl xs => Q (.int xs.length) h
  | .str z => z.length ≤ sizeLine ∧ Q (.int z.length) h
  | .ref a => (∃ xs, h a = some (.lst xs) ∧ Q (.int xs.length) h) ∨ (∃ kvs, h a = some (.dK kvs) ∧ Q (.int kvs.length) h)
  | _ => False
def one (vs : List AV) (K : AV → Prop) : Prop := match vs with | [x] => K x | _ => False
def two (vs : List AV) (K : AV → AV → Prop) : Prop := match vs with | [x, y] => K x y | _ => False
theorem one_ex {vs : List AV} {K : AV → Prop} (h : one vs K) : ∃ x, vs = [x] ∧ K x := by
  match vs, h with
  | [x], h => exact ⟨x, rfl, h⟩
  | [], h => exact h.elim
  | _ :: _ :: _, h => exact False.elim h
theorem two_ex {vs : List AV} {K : AV → AV → Prop} (h : two vs K) : ∃ x y, vs = [x, y] ∧ K x y := by
  match vs, h with
  | [x, y], h => exact ⟨x, y, rfl, h⟩
  | [], h => exact h.elim
  | [_], h => exact False.elim h
  | _ :: _ :: _ :: _, h => exact False.elim h
def absR (x : AV) (h : AH) (Q : AQ) : Prop := match x with
  | .int i => Q (.int (if i < 0 then -i else i)) h
  | _ => False
def intR (x : AV) (h : AH) (Q : AQ) : Prop := match x with
  | .int i => Q (.int i) h
  | .bl b => Q (.int (if b then 1 else 0)) h
  | _ => False
def tupleR (x : AV) (h : AH) (Q : AQ) : Prop := match x with
  | .ref a => ∃ xs, h a = some (.lst xs) ∧ Q (.tup xs) h
  | .tup xs => Q (.tup xs) h
  | _ => False
def listR (x : AV) (h : AH) (Q : AQ) : Prop := match x with
  | .ref a => ∃ xs, h a = some (.lst xs) ∧ newL h xs Q
  | .tup xs => newL h xs Q
  | _ => False
def allR (x : AV) (h : AH) (Q : AQ) : Prop := match x with
  | .ref a => ∃ xs bs, h a = some (.lst xs) ∧ bls? xs = some bs ∧ Q (.bl (bs.all id)) h
  | _ => False
def anyR (x : AV) (h : AH) (Q : AQ) : Prop := match x with
  | .ref a => ∃ xs bs, h a = some (.lst xs) ∧ bls? xs = some bs ∧ Q (.bl (bs.any id)) h
  | _ => False
def sumR (x : AV) (h : AH) (Q : AQ) : Prop := match x with
  | .ref a => ∃ xs ns, h a = some (.lst xs) ∧ ints? xs = some ns ∧ Q (.int ns.sum) h
  | _ => False
def maxR (x y : AV) (h : AH) (Q : AQ) : Prop := ∃ i j, x = .int i ∧ y = .int j ∧ Q (.int (if j > i then j else i)) h
def minR (x y : AV) (h : AH) (Q : AQ) : Prop := ∃ i j, x = .int i ∧ y = .int j ∧ Q (.int (if j < i then j else i)) h
def newD (h : AH) (kvs : List (Key × AV)) (Q : AQ) : Prop := ∀ p, h p = none → Q (.ref p) (aupd h p (.dK kvs))
def srtS (ns : List Str) (h : AH) (Q : AQ) : Prop := ns.length < 64 ∧ ∀ ys : List Str, ys.Perm ns → sortedS ys = true → newL h (ys.map .str) Q
def srtI (ns : List Int) (h : AH) (Q : AQ) : Prop := ∀ ys : List Int, ys.Perm ns → ys.Pairwise (· ≤ ·) → newL h (ys.map .int) Q
def keyA : AV → Str | .tup (.str s :: _) => s | _ => ⟨#[]⟩
def pairA : AV → Prop | .tup [.str _, _] => True | _ => False
def sortedR (x : AV) (h : AH) (Q : AQ) : Prop := match x with
  | .ref a => (∃ xs ns, h a = some (.lst xs) ∧ strs? xs = some ns ∧ srtS ns h Q) ∨ (∃ xs ns, h a = some (.lst xs) ∧ ints? xs = some ns ∧ srtI ns h Q) ∨
      (∃ (kvs : List (Key × AV)) (ns : List Str), h a = some (.dK kvs) ∧ kvs.map (·.1) = ns.map Sum.inr ∧ srtS ns h Q) ∨
      (∃ (kvs : List (Key × AV)) (ns : List Int), h a = some (.dK kvs) ∧ kvs.map (·.1) = ns.map Sum.inl ∧ ns.length < 64 ∧ srtI ns h Q) ∨
      (∃ xs : List AV, h a = some (.lst xs) ∧ (∀ x ∈ xs, pairA x) ∧ (xs.map keyA).Nodup ∧ ∀ ys : List AV, ys.Perm xs → ys.Pairwise (fun x y => (keyA x).cps.toList < (keyA y).cps.toList) → newL h ys Q)
  | _ => False
def dictR (x : AV) (h : AH) (Q : AQ) : Prop := match x with
  | .ref a => (∃ xs ps, h a = some (.lst xs) ∧ pairs? xs = some ps ∧ newD h (merge [] ps) Q) ∨ (∃ kvs, h a = some (.dK kvs) ∧ newD h kvs Q)
  | .tup xs => ∃ ps, pairs? xs = some ps ∧ newD h (merge [] ps) Q
  | _ => False
def bltR (f : Blt) (vs : List AV) (h : AH) (Q : AQ) : Prop :=
  match f with
  | .len => one vs fun x => lenR x h Q
  | .abs => one vs fun x => absR x h Q
  | .int => one vs fun x => intR x h Q
  | .tuple => one vs fun x => tupleR x h Q
  | .list => one vs fun x => listR x h Q
  | .all => one vs fun x => allR x h Q
  | .any => one vs fun x => anyR x h Q
  | .sum => one vs fun x => sumR x h Q
  | .max => two vs fun x y => maxR x y h Q
  | .min => two vs fun x y => minR x y h Q
  | .sorted => one vs fun x => sortedR x h Q
  | .dict => one vs fun x => dictR x h Q
  | .str | .bool | .repr | .set => False

def appendR (x y : AV) (h : AH) (Q : AQ) : Prop := match x with
  | .ref a => ∃ xs, h a = some (.lst xs) ∧ xs.length < sizeLine ∧ Q .non (aupd h a (.lst (xs ++ [y])))
  | _ => False
def extendR (x y : AV) (h : AH) (Q : AQ) : Prop := ∃ a b xs ys, x = .ref a ∧ y = .ref b ∧ h a = some (.lst xs) ∧ h b = some (.lst ys) ∧ xs.length + ys.length ≤ sizeLine ∧ Q .non (aupd h a (.lst (xs ++ ys)))
def popR (x : AV) (h : AH) (Q : AQ) : Prop := match x with
  | .ref a => ∃ xs y, h a = some (.lst (xs ++ [y])) ∧ Q y (aupd h a (.lst xs))
  | _ => False
def pop0R (x : AV) (h : AH) (Q : AQ) : Prop := match x with
  | .ref a => ∃ xs y, h a = some (.lst (y :: xs)) ∧ Q y (aupd h a (.lst xs))
  | _ => False
def getR (x k : AV) (d : AV) (h : AH) (Q : AQ) : Prop := match x with
  | .ref a => ∃ kvs k', k.toKey = some k' ∧ h a = some (.dK kvs) ∧ Q ((dget kvs k').getD d) h
  | _ => False
def isL (x : AV) (h : AH) : Prop := match x with | .ref a => ∃ xs, h a = some (.lst xs) | _ => False
def isD (x : AV) (h : AH) : Prop := match x with | .ref a => ∃ kvs, h a = some (.dK kvs) | _ => False
def mthTy (m : Mth) (x : AV) (h : AH) : Prop := match m with
  | .append | .extend | .pop => isL x h
  | .get => isD x h
  | _ => False
def mthR (m : Mth) (x : AV) (vs : List AV) (h : AH) (Q : AQ) : Prop :=
  match m with
  | .append => one vs fun y => appendR x y h Q
  | .extend => one vs fun y => extendR x y h Q
  | .pop => (vs = [] ∧ popR x h Q) ∨ (vs = [.int 0] ∧ pop0R x h Q)
  | .get => two vs fun k d => getR x k d h Q
  | _ => False

def Shr (P : AH → Prop) (h : AH) : Prop := ∃ h', ALe h' h ∧ P h'
def fieldOf (fs : List (Nat × AV)) (f : Nat) : Option AV := fs.lookup f
def awipe (σ : AEnv) : List Nat → AEnv
  | [] => σ
  | v :: vs => (awipe σ vs).set v none

def itR (x : AV) (h : AH) (K : List AV → (AH → Prop) → Prop) : Prop :=
  match x with
  | .tup xs => K xs fun _ => True
  | .rl xs => K xs fun _ => True
  | .str z => K (z.cps.toList.map fun c => .str ⟨#[c]⟩) fun _ => True
  | .ref a => ∃ xs, h a = some (.lst xs) ∧ K xs fun h' => h' a = some (.lst xs)
  | _ => False
def rangeL (lo : Int) : Nat → List AV
  | 0 => []
  | n + 1 => .int lo :: rangeL (lo + 1) n
def enumL (i : Nat) : List AV → List AV
  | [] => []
  | x :: xs => .wt [.int i, x] :: enumL (i + 1) xs
def zipL : List AV → List AV → List AV
  | x :: xs, y :: ys => .wt [x, y] :: zipL xs ys
  | _, _ => []

def lcL (D : Addr) (own : List Nat) (tgt : AV → AEnv → AH → (AEnv → AH → Prop) → Prop) (tst : AEnv → AH → (Bool → AH → Prop) → Prop) (elt : AEnv → AH → AQ → Prop) (chk : AH → Prop) (fin : AH → Prop) (σ : AEnv) : List AV → AH → Prop
  | [], h => chk h ∧ fin h
  | x :: xs, h => chk h ∧ tgt x (awipe σ own) h fun σ2 h2 => tst σ2 h2 fun b h3 =>
      if b = true then elt σ2 h3 fun y h4 => ∃ acc, h4 D = some (.lst acc) ∧ acc.length < sizeLine ∧ Shr (lcL D own tgt tst elt chk fin σ xs) (aupd h4 D (.lst (acc ++ [y])))
      else Shr (lcL D own tgt tst elt chk fin σ xs) h3

mutual
def wpE (C : ACall) (T : Tb) : CE → AEnv → AH → AQ → AXQ → Prop
  | .non, _, h, Q, _ => Q .non h
  | .bl b, _, h, Q, _ => Q (.bl b) h
  | .int i, _, h, Q, _ => Q (.int i) h
  | .str x, _, h, Q, _ => Q (.str x) h
  | .var i, σ, h, Q, _ => ∃ v, σ[i]? = some (some v) ∧ Q v h
  | .glob g, _, h, Q, _ => ∃ v, T.gv g = some v ∧ Q v h
  | .tup es, σ, h, Q, E => wpEs C T es σ h (fun vs h' => vs.length ≤ sizeLine ∧ Q (.tup vs) h') E
  | .lst es, σ, h, Q, E => wpEs C T es σ h (fun vs h' => vs.length ≤ sizeLine ∧ newL h' vs Q) E
  | .dct0, _, h, Q, _ => ∀ p, h p = none → Q (.ref p) (aupd h p (.dK []))
  | .bin op a b, σ, h, Q, E => wpE C T a σ h (fun x h1 => wpE C T b σ h1 (fun y h2 => binR op x y h2 Q) E) E
  | .neg a, σ, h, Q, E => wpE C T a σ h (fun x h1 => ∃ i, x = .int i ∧ Q (.int (-i)) h1) E
  | .not a, σ, h, Q, E => wpE C T a σ h (fun x h1 => ∃ b, x = .bl b ∧ Q (.bl (!b)) h1) E
  | .cmp op a b, σ, h, Q, E => wpE C T a σ h (fun x h1 => wpE C T b σ h1 (fun y h2 => cmpR op x y h2 fun r => Q (.bl r) h2) E) E
  | .chain o1 o2 a b c, σ, h, Q, E => wpE C T a σ h (fun x h1 => wpE C T b σ h1 (fun y h2 => cmpR o1 x y h2 fun r =>
      if r = true then wpE C T c σ h2 (fun z h3 => cmpR o2 y z h3 fun r' => Q (.bl r') h3) E else Q (.bl false) h2) E) E
  | .and es, σ, h, Q, E => wpAndV C T es σ h Q E
  | .or es, σ, h, Q, E => wpOrV C T es σ h Q E
  | .ifx c a b, σ, h, Q, E => wpT C T c σ h (fun r h1 => if r = true then wpE C T a σ h1 Q E else wpE C T b σ h1 Q E) E
  | .call f es, σ, h, Q, E => wpEs C T es σ h (fun vs h1 => C f vs h1 Q E) E
  | .blt f es, σ, h, Q, E => wpEs C T es σ h (fun vs h1 => bltR f vs h1 Q) E
  | .isin e ts, σ, h, Q, E => wpE C T e σ h (fun x h1 => tyR ts x h1 fun r => Q (.bl r) h1) E
  | .idx a i, σ, h, Q, E => wpE C T a σ h (fun x h1 => wpE C T i σ h1 (fun y h2 => ixR x y h2 Q) E) E
  | .slc a lo hi, σ, h, Q, E => wpE C T a σ h (fun x h1 => wpP C T lo σ h1 (fun l h2 => wpP C T hi σ h2 (fun u h3 => slR x l u h3 Q) E) E) E
  | .rev a, σ, h, Q, E => wpE C T a σ h (fun x h1 => revR x h1 Q) E
  | .mth m o es, σ, h, Q, E => wpE C T o σ h (fun x h1 => mthTy m x h1 ∧ wpEs C T es σ h1 (fun vs h2 => mthR m x vs h2 Q) E) E
  | .comp own g it ifs elt, σ, h, Q, E => wpI C T it σ h (fun xs chk h1 => ∀ D, h1 D = none →
      lcL D own (fun x σ h k => wpG C T g x σ h k) (fun σ h k => wpTs C T ifs σ h k fun _ _ => False) (fun σ h k => wpE C T elt σ h k fun _ _ => False) chk (fun h' => Q (.ref D) h') σ xs (aupd h1 D (.lst []))) E
  | _, _, _, _, _ => False
def wpEs (C : ACall) (T : Tb) : CE → AEnv → AH → (List AV → AH → Prop) → AXQ → Prop
  | .nil, _, h, Q, _ => Q [] h
  | .cons e es, σ, h, Q, E => wpE C T e σ h (fun x h1 => wpEs C T es σ h1 (fun xs h2 => Q (x :: xs) h2) E) E
  | _, _, _, _, _ => False
def wpP (C : ACall) (T : Tb) : CE → AEnv → AH → (Option Int → AH → Prop) → AXQ → Prop
  | .nil, _, h, K, _ => K none h
  | .cons e _, σ, h, K, E => wpE C T e σ h (fun x h1 => ∃ i, x = .int i ∧ K (some i) h1) E
  | _, _, _, _, _ => False
def wpAndV (C : ACall) (T : Tb) : CE → AEnv → AH → AQ → AXQ → Prop
  | .cons e es, σ, h, Q, E => match es with
    | .nil => wpE C T e σ h Q E
    | _ => wpE C T e σ h (fun x h1 => ∃ c, x = .bl c ∧ if c = true then wpAndV C T es σ h1 Q E else Q (.bl false) h1) E
  | _, _, _, _, _ => False
def wpOrV (C : ACall) (T : Tb) : CE → AEnv → AH → AQ → AXQ → Prop
  | .cons e es, σ, h, Q, E => match es with
    | .nil => wpE C T e σ h Q E
    | _ => wpE C T e σ h (fun x h1 => ∃ c, x = .bl c ∧ if c = true then Q (.bl true) h1 else wpOrV C T es σ h1 Q E) E
  | _, _, _, _, _ => False
def wpT (C : ACall) (T : Tb) : CE → AEnv → AH → (Bool → AH → Prop) → AXQ → Prop
  | .cmp op a b, σ, h, Q, E => wpE C T a σ h (fun x h1 => wpE C T b σ h1 (fun y h2 => cmpR op x y h2 fun r => Q r h2) E) E
  | .chain o1 o2 a b c, σ, h, Q, E => wpE C T a σ h (fun x h1 => wpE C T b σ h1 (fun y h2 => cmpR o1 x y h2 fun r =>
      if r = true then wpE C T c σ h2 (fun z h3 => cmpR o2 y z h3 fun r' => Q r' h3) E else Q false h2) E) E
  | .not a, σ, h, Q, E => wpT C T a σ h (fun r h1 => Q (!r) h1) E
  | .and es, σ, h, Q, E => wpAnd C T es σ h Q E
  | .or es, σ, h, Q, E => wpOr C T es σ h Q E
  | .tru e, σ, h, Q, E => wpE C T e σ h (fun x h1 => truR x h1 fun r => Q r h1) E
  | _, _, _, _, _ => False
def wpAnd (C : ACall) (T : Tb) : CE → AEnv → AH → (Bool → AH → Prop) → AXQ → Prop
  | .nil, _, h, Q, _ => Q true h
  | .cons e es, σ, h, Q, E => wpT C T e σ h (fun r h1 => if r = true then wpAnd C T es σ h1 Q E else Q false h1) E
  | _, _, _, _, _ => False
def wpOr (C : ACall) (T : Tb) : CE → AEnv → AH → (Bool → AH → Prop) → AXQ → Prop
  | .nil, _, h, Q, _ => Q false h
  | .cons e es, σ, h, Q, E => wpT C T e σ h (fun r h1 => if r = true then Q true h1 else wpOr C T es σ h1 Q E) E
  | _, _, _, _, _ => False
def wpTs (C : ACall) (T : Tb) : CE → AEnv → AH → (Bool → AH → Prop) → AXQ → Prop
  | .nil, _, h, Q, _ => Q true h
  | .cons e es, σ, h, Q, E => match es with
    | .nil => wpT C T e σ h Q E
    | _ => False
  | _, _, _, _, _ => False
def wpI (C : ACall) (T : Tb) : CE → AEnv → AH → (List AV → (AH → Prop) → AH → Prop) → AXQ → Prop
  | .range1 a, σ, h, K, E => wpE C T a σ h (fun x h1 => ∃ n : Int, x = .int n ∧ -(2 ^ 62) ≤ n ∧ n < 2 ^ 62 ∧ K (rangeL 0 n.toNat) (fun _ => True) h1) E
  | .range2 a b, σ, h, K, E => wpE C T a σ h (fun x h1 => wpE C T b σ h1 (fun y h2 => ∃ m n : Int, x = .int m ∧ y = .int n ∧ (-(2 ^ 62) ≤ m ∧ m < 2 ^ 62 ∧ -(2 ^ 62) ≤ n ∧ n < 2 ^ 62) ∧ K (rangeL m (n - m).toNat) (fun _ => True) h2) E) E
  | .zip a b, σ, h, K, E => wpE C T a σ h (fun x h1 => wpE C T b σ h1 (fun y h2 => (∃ xs ys, x = .tup xs ∧ y = .tup ys ∧ K (zipL xs ys) (fun _ => True) h2) ∨
      (∃ p q xs ys, x = .ref p ∧ y = .ref q ∧ h2 p = some (.lst xs) ∧ h2 q = some (.lst ys) ∧ K (zipL xs ys) (fun h' => h' p = some (.lst xs) ∧ h' q = some (.lst ys)) h2)) E) E
  | .enum a, σ, h, K, E => wpE C T a σ h (fun x h1 => ∃ p xs, x = .ref p ∧ h1 p = some (.lst xs) ∧ K (enumL 0 xs) (fun h' => h' p = some (.lst xs)) h1) E
  | .val e, σ, h, K, E => wpE C T e σ h (fun x h1 => itR x h1 fun xs chk => K xs chk h1) E
  | _, _, _, _, _ => False
def wpG (C : ACall) (T : Tb) : CE → AV → AEnv → AH → (AEnv → AH → Prop) → Prop
  | .var i, v, σ, h, K => K (σ.set i (some v)) h
  | .tup gs, v, σ, h, K => ((∃ vs, (v = .tup vs ∨ v = .wt vs) ∧ vs.length = gs.len ∧ wpGs C T gs vs σ h K)) ∨ (∃ a vs, v = .ref a ∧ h a = some (.lst vs) ∧ vs.length = gs.len ∧ wpGs C T gs vs σ h K)
  | .idx o i, v, σ, h, K => wpE C T o σ h (fun x h1 => wpE C T i σ h1 (fun y h2 => ∃ a, x = .ref a ∧
      ((∃ xs i, y = .int i ∧ 0 ≤ i ∧ i < xs.length ∧ h2 a = some (.lst xs) ∧ K σ (aupd h2 a (.lst (xs.set i.toNat v)))) ∨
       (∃ kvs k, y.toKey = some k ∧ h2 a = some (.dK kvs) ∧ kvs.length < sizeLine ∧ K σ (aupd h2 a (.dK (dput kvs k v)))))) fun _ _ => False) fun _ _ => False
  | _, _, _, _, _ => False
def wpGs (C : ACall) (T : Tb) : CE → List AV → AEnv → AH → (AEnv → AH → Prop) → Prop
  | .nil, vs, σ, h, K => vs = [] ∧ K σ h
  | .cons g gs, vs, σ, h, K => ∃ v r, vs = v :: r ∧ wpG C T g v σ h (fun σ1 h1 => wpGs C T gs r σ1 h1 K)
  | _, _, _, _, _ => False
end

structure AEnds where
  nx : AEnv → AH → Prop
  rt : AQ
  bk : AEnv → AH → Prop
  ct : AEnv → AH → Prop
  ex : AX → AEnv → AH → Prop

def SLe (σ σ' : AEnv) : Prop := σ.length = σ'.length ∧ ∀ (i : Nat) (v : AV), σ[i]? = some (some v) → σ'[i]? = some (some v)
def Shs (P : AEnv → AH → Prop) (σ : AEnv) (h : AH) : Prop := ∃ σ' h', SLe σ' σ ∧ ALe h' h ∧ P σ' h'

def forL (step : AV → (AEnv → AH → Prop) → AEnv → AH → Prop) (chk : AH → Prop) (fin : AEnv → AH → Prop) : List AV → AEnv → AH → Prop
  | [], σ, h => chk h ∧ fin σ h
  | x :: xs, σ, h => chk h ∧ step x (Shs (forL step chk fin xs)) σ h
def whlL (tst : AEnv → AH → (Bool → AH → Prop) → Prop) (body : (AEnv → AH → Prop) → AEnv → AH → Prop) (fin : AEnv → AH → Prop) : Nat → AEnv → AH → Prop
  | 0, _, _ => False
  | n + 1, σ, h => tst σ h fun b h1 => if b = true then body (Shs (whlL tst body fin n)) σ h1 else fin σ h1

mutual
def wpS (C : ACall) (T : Tb) (sub : Nat → Nat → Bool) : CS → AEnds → AEnv → AH → Prop
  | .asg g e, D, σ, h => wpE C T e σ h (fun v h1 => wpG C T g v σ h1 D.nx) (fun x h' => D.ex x σ h')
  | .slc i e, D, σ, h => wpE C T e σ h (fun v h1 => D.nx (σ.set i (some v)) h1) (fun x h' => D.ex x σ h')
  | .par i j a b, D, σ, h => wpE C T a σ h (fun v h1 => wpE C T b σ h1 (fun w h2 => D.nx ((σ.set i (some v)).set j (some w)) h2) (fun x h' => D.ex x σ h')) (fun x h' => D.ex x σ h')
  | .par3 i j k a b c, D, σ, h => wpE C T a σ h (fun v h1 => wpE C T b σ h1 (fun w h2 => wpE C T c σ h2 (fun u h3 => D.nx (((σ.set i (some v)).set j (some w)).set k (some u)) h3) (fun x h' => D.ex x σ h')) (fun x h' => D.ex x σ h')) (fun x h' => D.ex x σ h')
  | .aug i op e, D, σ, h => ∃ x, σ[i]? = some (some x) ∧ wpE C T e σ h (fun y h1 => ∃ m n, x = .int m ∧ y = .int n ∧
      ((op = .add ∧ D.nx (σ.set i (some (.int (m + n)))) h1) ∨ (op = .sub ∧ D.nx (σ.set i (some (.int (m - n)))) h1))) (fun x h' => D.ex x σ h')
  | .expr e, D, σ, h => wpE C T e σ h (fun _ h1 => D.nx σ h1) (fun x h' => D.ex x σ h')
  | .ret e, D, σ, h => wpE C T e σ h D.rt (fun x h' => D.ex x σ h')
  | .retN, D, σ, h => D.rt .non h
  | .iff c t f, D, σ, h => wpT C T c σ h (fun b h1 => if b = true then wpB C T sub t D σ h1 else wpB C T sub f D σ h1) (fun x h' => D.ex x σ h')
  | .whl c b, D, σ, h => ∃ n, whlL (fun σ h k => wpT C T c σ h k (fun x h' => D.ex x σ h')) (fun nx σ h => wpB C T sub b { D with nx := nx, ct := nx, bk := D.nx } σ h) D.nx n σ h
  | .forr g it b, D, σ, h => wpI C T it σ h (fun xs chk h1 => forL (fun x nx σ h => wpG C T g x σ h (fun σ2 h2 => wpB C T sub b { D with nx := nx, ct := nx, bk := D.nx } σ2 h2)) chk D.nx xs σ h1) (fun x h' => D.ex x σ h')
  | .raise c es, D, σ, h => wpEs C T es σ h (fun vs h1 => D.ex ⟨c, vs⟩ σ h1) (fun x h' => D.ex x σ h')
  | .tri b hs, D, σ, h => wpB C T sub b { D with ex := fun x σ' h' => wpH C T sub hs x D σ' h' } σ h
  | .pass, D, σ, h => D.nx σ h
  | .brk, D, σ, h => D.bk σ h
  | .cont, D, σ, h => D.ct σ h
  | _, _, _, _ => False
def wpB (C : ACall) (T : Tb) (sub : Nat → Nat → Bool) : CS → AEnds → AEnv → AH → Prop
  | .nil, D, σ, h => D.nx σ h
  | .cons s r, D, σ, h => wpS C T sub s { D with nx := fun σ1 h1 => wpB C T sub r D σ1 h1 } σ h
  | _, _, _, _ => False
def wpH (C : ACall) (T : Tb) (sub : Nat → Nat → Bool) : CS → AX → AEnds → AEnv → AH → Prop
  | .hnil, x, D, σ, h => D.ex x σ h
  | .hcons c b r, x, D, σ, h => if sub x.cls c = true then wpB C T sub b { D with ex := fun _ _ _ => False } σ h else wpH C T sub r x D σ h
  | _, _, _, _, _ => False
end

structure CF where
  np : Nat
  nn : Nat
  body : CS

structure Pg where
  T : Tb
  code : Nat → Option CF
  sub : Nat → Nat → Bool

def astart (n : Nat) (vs : List AV) : AEnv := vs.map some ++ List.replicate (n - vs.length) none
def wpC (G : Pg) : Nat → ACall
  | 0 => fun _ _ _ _ _ => False
  | n + 1 => fun f vs h Q E => ∃ cf, G.code f = some cf ∧ vs.length = cf.np ∧
      wpB (wpC G n) G.T G.sub cf.body { nx := fun _ h' => Shr (Q .non) h', rt := fun v h' => Shr (Q v) h', bk := fun _ _ => False, ct := fun _ _ => False, ex := fun x _ h' => Shr (E x) h' } (astart cf.nn vs) h
end PL

namespace PL
open PySem PySem.Spec PyProof.Rows L2
def QLe (Q Q' : AQ) : Prop := ∀ v h, Q v h → Q' v h
def XLe (E E' : AXQ) : Prop := ∀ v h, E v h → E' v h
section
variable {Q Q' : AQ} (hQ : QLe Q Q')
include hQ
theorem newL_mono {h : AH} {xs : List AV} (q : newL h xs Q) : newL h xs Q' := fun p hp => hQ _ _ (q p hp)
theorem binR_mono {op : BOp} {x y : AV} {h : AH} (q : binR op x y h Q) : binR op x y h Q' := by
  cases op <;> cases x <;> cases y <;> first
    | exact False.elim q
    | exact hQ _ _ q
    | exact ⟨q.1, hQ _ _ q.2⟩
    | (obtain ⟨xs, ys, e1, e2, hl, q⟩ := q; exact ⟨xs, ys, e1, e2, hl, newL_mono hQ q⟩)
    | (obtain ⟨xs, e1, e2, e3, hl, q⟩ := q; exact ⟨xs, e1, e2, e3, hl, newL_mono hQ q⟩)
    | (obtain ⟨e1, e2, e3, hl, q⟩ := q; exact ⟨e1, e2, e3, hl, hQ _ _ q⟩)
theorem ixR_mono {x y : AV} {h : AH} (q : ixR x y h Q) : ixR x y h Q' := by
  cases x with
  | ref a =>
    rcases q with ⟨xs, i, v, e, e1, e2, q⟩ | ⟨kvs, k, v, e, e1, e2, q⟩
    · exact .inl ⟨xs, i, v, e, e1, e2, hQ _ _ q⟩
    · exact .inr ⟨kvs, k, v, e, e1, e2, hQ _ _ q⟩
  | _ =>
    cases y <;> first
      | exact False.elim q
      | (obtain ⟨v, e, q⟩ := q; exact ⟨v, e, hQ _ _ q⟩)
      | (obtain ⟨hl, v, e, q⟩ := q; exact ⟨hl, v, e, hQ _ _ q⟩)
theorem slR_mono {x : AV} {lo hi : Option Int} {h : AH} (q : slR x lo hi h Q) : slR x lo hi h Q' := by
  cases x <;> first
    | exact False.elim q
    | exact hQ _ _ q
    | exact fun p hp => hQ _ _ (q p hp)
    | (obtain ⟨xs, e, q⟩ := q; exact ⟨xs, e, fun p hp => hQ _ _ (q p hp)⟩)
theorem revR_mono {x : AV} {h : AH} (q : revR x h Q) : revR x h Q' := by
  cases x <;> first
    | exact False.elim q
    | (obtain ⟨xs, e, q⟩ := q; exact ⟨xs, e, fun p hp => hQ _ _ (q p hp)⟩)
theorem one_mono {vs : List AV} {K K' : AV → Prop} (hk : ∀ x, K x → K' x) (q : one vs K) : one vs K' := by
  obtain ⟨x, rfl, q⟩ := one_ex q
  exact hk x q
theorem two_mono {vs : List AV} {K K' : AV → AV → Prop} (hk : ∀ x y, K x y → K' x y) (q : two vs K) : two vs K' := by
  obtain ⟨x, y, rfl, q⟩ := two_ex q
  exact hk x y q
theorem bltR_mono {f : Blt} {vs : List AV} {h : AH} (q : bltR f vs h Q) : bltR f vs h Q' := by
  cases f
  case len =>
    refine one_mono hQ (fun x q => ?_) q
    cases x <;> first
      | exact False.elim q
      | exact hQ _ _ q
      | exact ⟨q.1, hQ _ _ q.2⟩
      | (rcases q with ⟨xs, e, q⟩ | ⟨xs, e, q⟩
         · exact .inl ⟨xs, e, hQ _ _ q⟩
         · exact .inr ⟨xs, e, hQ _ _ q⟩)
  case abs => refine one_mono hQ (fun x q => ?_) q; cases x <;> first | exact False.elim q | exact hQ _ _ q
  case int => refine one_mono hQ (fun x q => ?_) q; cases x <;> first | exact False.elim q | exact hQ _ _ q
  case tuple => refine one_mono hQ (fun x q => ?_) q; cases x <;> first | exact False.elim q | exact hQ _ _ q | (obtain ⟨xs, e, q⟩ := q; exact ⟨xs, e, hQ _ _ q⟩)
  case list => refine one_mono hQ (fun x q => ?_) q; cases x <;> first | exact False.elim q | exact newL_mono hQ q | (obtain ⟨xs, e, q⟩ := q; exact ⟨xs, e, newL_mono hQ q⟩)
  case all => refine one_mono hQ (fun x q => ?_) q; cases x <;> first | exact False.elim q | (obtain ⟨xs, b, e, e2, q⟩ := q; exact ⟨xs, b, e, e2, hQ _ _ q⟩)
  case any => refine one_mono hQ (fun x q => ?_) q; cases x <;> first | exact False.elim q | (obtain ⟨xs, b, e, e2, q⟩ := q; exact ⟨xs, b, e, e2, hQ _ _ q⟩)
  case sum => refine one_mono hQ (fun x q => ?_) q; cases x <;> first | exact False.elim q | (obtain ⟨xs, b, e, e2, q⟩ := q; exact ⟨xs, b, e, e2, hQ _ _ q⟩)
  case sorted =>
    refine one_mono hQ (fun x q => ?_) q
    cases x with
    | ref a =>
      rcases q with ⟨xs, ns, e, e2, l, q⟩ | ⟨xs, ns, e, e2, q⟩ | ⟨kvs, ns, e, e2, l, q⟩ | ⟨kvs, ns, e, e2, l, q⟩ | ⟨xs, e, e2, e3, q⟩
      · exact .inl ⟨xs, ns, e, e2, l, fun ys p s => newL_mono hQ (q ys p s)⟩
      · exact .inr (.inl ⟨xs, ns, e, e2, fun ys p s => newL_mono hQ (q ys p s)⟩)
      · exact .inr (.inr (.inl ⟨kvs, ns, e, e2, l, fun ys p s => newL_mono hQ (q ys p s)⟩))
      · exact .inr (.inr (.inr (.inl ⟨kvs, ns, e, e2, l, fun ys p s => newL_mono hQ (q ys p s)⟩)))
      · exact .inr (.inr (.inr (.inr ⟨xs, e, e2, e3, fun ys p s => newL_mono hQ (q ys p s)⟩)))
    | _ => exact False.elim q
  case dict =>
    refine one_mono hQ (fun x q => ?_) q
    cases x with
    | ref a =>
      rcases q with ⟨xs, ps, e, e2, q⟩ | ⟨kvs, e, q⟩
      · exact .inl ⟨xs, ps, e, e2, fun p hp => hQ _ _ (q p hp)⟩
      · exact .inr ⟨kvs, e, fun p hp => hQ _ _ (q p hp)⟩
    | tup xs =>
      obtain ⟨ps, e, q⟩ := q
      exact ⟨ps, e, fun p hp => hQ _ _ (q p hp)⟩
    | _ => exact False.elim q
  case max => refine two_mono hQ (fun x y q => ?_) q; obtain ⟨i, j, e, e2, q⟩ := q; exact ⟨i, j, e, e2, hQ _ _ q⟩
  case min => refine two_mono hQ (fun x y q => ?_) q; obtain ⟨i, j, e, e2, q⟩ := q; exact ⟨i, j, e, e2, hQ _ _ q⟩
  all_goals exact False.elim q
theorem mthR_mono {m : Mth} {x : AV} {vs : List AV} {h : AH} (q : mthR m x vs h Q) : mthR m x vs h Q' := by
  cases m
  case append => refine one_mono hQ (fun y q => ?_) q; cases x <;> first | exact False.elim q | (obtain ⟨xs, e, e2, q⟩ := q; exact ⟨xs, e, e2, hQ _ _ q⟩)
  case extend => refine one_mono hQ (fun y q => ?_) q; obtain ⟨a, b, xs, ys, e1, e2, e3, e4, e5, q⟩ := q; exact ⟨a, b, xs, ys, e1, e2, e3, e4, e5, hQ _ _ q⟩
  case pop =>
    rcases q with ⟨e0, q⟩ | ⟨e0, q⟩
    · refine .inl ⟨e0, ?_⟩; cases x <;> first | exact False.elim q | (obtain ⟨xs, y, e, q⟩ := q; exact ⟨xs, y, e, hQ _ _ q⟩)
    · refine .inr ⟨e0, ?_⟩; cases x <;> first | exact False.elim q | (obtain ⟨xs, y, e, q⟩ := q; exact ⟨xs, y, e, hQ _ _ q⟩)
  case get => refine two_mono hQ (fun k d q => ?_) q; cases x <;> first | exact False.elim q | (obtain ⟨kvs, k', e, e2, q⟩ := q; exact ⟨kvs, k', e, e2, hQ _ _ q⟩)
  all_goals exact False.elim q
end
section
variable {Q Q' : Bool → Prop} (hQ : ∀ b, Q b → Q' b)
include hQ
theorem eqR_mono {x y : AV} {h : AH} (q : eqR x y h Q) : eqR x y h Q' := by
  cases x <;> cases y <;> first
    | exact ⟨q.1, q.2.1, hQ _ q.2.2⟩
    | (obtain ⟨xs, ys, e1, e2, e3, e4, q⟩ := q; exact ⟨xs, ys, e1, e2, e3, e4, hQ _ q⟩)
theorem isR_mono {x y : AV} (q : isR x y Q) : isR x y Q' := by
  cases x <;> cases y <;> first | exact hQ _ q | exact False.elim q
theorem inR_mono {x y : AV} {h : AH} (q : inR x y h Q) : inR x y h Q' := by
  cases y with
  | tup ys => exact ⟨q.1, q.2.1, hQ _ q.2.2⟩
  | str z => cases x <;> first | exact False.elim q | (obtain ⟨c, e, q⟩ := q; exact ⟨c, e, hQ _ q⟩)
  | ref a =>
    rcases q with ⟨ys, e, f, g, q⟩ | ⟨kvs, k, e, ek, q⟩
    · exact .inl ⟨ys, e, f, g, hQ _ q⟩
    · exact .inr ⟨kvs, k, e, ek, hQ _ q⟩
  | _ => exact False.elim q
theorem truR_mono {x : AV} {h : AH} (q : truR x h Q) : truR x h Q' := by
  cases x <;> first | exact False.elim q | exact hQ _ q | (obtain ⟨xs, e, q⟩ := q; exact ⟨xs, e, hQ _ q⟩)
theorem tyR_mono {ts : List Ty} {x : AV} {h : AH} (q : tyR ts x h Q) : tyR ts x h Q' := by
  cases x <;> first
    | exact False.elim q
    | exact hQ _ q
    | (rcases q with ⟨xs, e, q⟩ | ⟨xs, e, q⟩
       · exact .inl ⟨xs, e, hQ _ q⟩
       · exact .inr ⟨xs, e, hQ _ q⟩)
end
theorem cmpR_mono {Q Q' : Bool → Prop} (hQ : ∀ b, Q b → Q' b) {op : COp} {x y : AV} {h : AH} (q : cmpR op x y h Q) : cmpR op x y h Q' := by
  cases op
  · exact eqR_mono hQ q
  · exact eqR_mono (fun b z => hQ _ z) q
  · cases x <;> cases y <;> first | exact False.elim q | exact hQ _ q
  · cases x <;> cases y <;> first | exact False.elim q | exact hQ _ q
  · cases x <;> cases y <;> first | exact False.elim q | exact hQ _ q
  · cases x <;> cases y <;> first | exact False.elim q | exact hQ _ q
  · exact isR_mono hQ q
  · exact isR_mono (fun b z => hQ _ z) q
  · exact inR_mono hQ q
  · exact inR_mono (fun b z => hQ _ z) q
theorem itR_mono {x : AV} {h : AH} {K K' : List AV → (AH → Prop) → Prop} (hK : ∀ xs c, K xs c → K' xs c) (q : itR x h K) : itR x h K' := by
  cases x <;> first | exact False.elim q | exact hK _ _ q | (obtain ⟨xs, e, q⟩ := q; exact ⟨xs, e, hK _ _ q⟩)
theorem Shr.mono {P P' : AH → Prop} (hP : ∀ h, P h → P' h) {h : AH} (q : Shr P h) : Shr P' h := let ⟨h', l, p⟩ := q; ⟨h', l, hP _ p⟩
theorem Shs.mono {P P' : AEnv → AH → Prop} (hP : ∀ σ h, P σ h → P' σ h) {σ : AEnv} {h : AH} (q : Shs P σ h) : Shs P' σ h := let ⟨σ', h', l, m, p⟩ := q; ⟨σ', h', l, m, hP _ _ p⟩
theorem lcL_mono {D : Addr} {own : List Nat} {tgt : AV → AEnv → AH → (AEnv → AH → Prop) → Prop} {tst : AEnv → AH → (Bool → AH → Prop) → Prop} {elt : AEnv → AH → AQ → Prop} {chk : AH → Prop} {fin fin' : AH → Prop} {σ : AEnv}
    (ht : ∀ x σ h (k k' : AEnv → AH → Prop), (∀ σ h, k σ h → k' σ h) → tgt x σ h k → tgt x σ h k') (hs : ∀ σ h (k k' : Bool → AH → Prop), (∀ b h, k b h → k' b h) → tst σ h k → tst σ h k') (he : ∀ σ h (k k' : AQ), QLe k k' → elt σ h k → elt σ h k')
    (hf : ∀ h, fin h → fin' h) : ∀ {xs : List AV} {h : AH}, lcL D own tgt tst elt chk fin σ xs h → lcL D own tgt tst elt chk fin' σ xs h
  | [], h, q => ⟨q.1, hf _ q.2⟩
  | x :: xs, h, q => by
    refine ⟨q.1, ht _ _ _ _ _ (fun σ2 h2 q => hs _ _ _ _ (fun b h3 q => ?_) q) q.2⟩
    cases b with
    | true => exact he _ _ _ _ (fun y h4 ⟨acc, e, l, s⟩ => ⟨acc, e, l, s.mono fun h q => lcL_mono ht hs he hf q⟩) q
    | false => exact Shr.mono (P := lcL D own tgt tst elt chk fin σ xs) (fun h q => lcL_mono ht hs he hf q) q
def CMono (C : ACall) : Prop := ∀ f vs h Q Q' E E', QLe Q Q' → XLe E E' → C f vs h Q E → C f vs h Q' E'
section
variable {C : ACall} (hC : CMono C) {T : Tb}
include hC
mutual
theorem wpE_mono : ∀ (e : CE) {σ : AEnv} {h : AH} {Q Q' : AQ} {E E' : AXQ}, QLe Q Q' → XLe E E' → wpE C T e σ h Q E → wpE C T e σ h Q' E'
  | .non, _, _, _, _, _, _, hQ, hE, q => hQ _ _ q
  | .bl _, _, _, _, _, _, _, hQ, hE, q => hQ _ _ q
  | .int _, _, _, _, _, _, _, hQ, hE, q => hQ _ _ q
  | .str _, _, _, _, _, _, _, hQ, hE, q => hQ _ _ q
  | .var _, _, _, _, _, _, _, hQ, hE, q => let ⟨v, e, q⟩ := q; ⟨v, e, hQ _ _ q⟩
  | .glob _, _, _, _, _, _, _, hQ, hE, q => let ⟨v, e, q⟩ := q; ⟨v, e, hQ _ _ q⟩
  | .tup es, _, _, _, _, _, _, hQ, hE, q => wpEs_mono es (fun _ _ q => ⟨q.1, hQ _ _ q.2⟩) hE q
  | .lst es, _, _, _, _, _, _, hQ, hE, q => wpEs_mono es (fun _ _ q => ⟨q.1, newL_mono hQ q.2⟩) hE q
  | .dct0, _, _, _, _, _, _, hQ, hE, q => fun p hp => hQ _ _ (q p hp)
  | .bin op a b, _, _, _, _, _, _, hQ, hE, q => wpE_mono a (fun _ _ q => wpE_mono b (fun _ _ q => binR_mono hQ q) hE q) hE q
  | .neg a, _, _, _, _, _, _, hQ, hE, q => wpE_mono a (fun _ _ ⟨i, e, q⟩ => ⟨i, e, hQ _ _ q⟩) hE q
  | .not a, _, _, _, _, _, _, hQ, hE, q => wpE_mono a (fun _ _ ⟨i, e, q⟩ => ⟨i, e, hQ _ _ q⟩) hE q
  | .cmp op a b, _, _, _, _, _, _, hQ, hE, q => wpE_mono a (fun _ _ q => wpE_mono b (fun _ _ q => cmpR_mono (fun _ q => hQ _ _ q) q) hE q) hE q
  | .chain o1 o2 a b c, _, _, _, _, _, _, hQ, hE, q => wpE_mono a (fun _ _ q => wpE_mono b (fun _ _ q => cmpR_mono (fun r q => by
      cases r with
      | true => exact wpE_mono c (fun _ _ q => cmpR_mono (fun _ q => hQ _ _ q) q) hE q
      | false => exact hQ _ _ q) q) hE q) hE q
  | .and es, _, _, _, _, _, _, hQ, hE, q => wpAndV_mono es hQ hE q
  | .or es, _, _, _, _, _, _, hQ, hE, q => wpOrV_mono es hQ hE q
  | .ifx c a b, _, _, _, _, _, _, hQ, hE, q => wpT_mono c (fun r _ q => by
      cases r with
      | true => exact wpE_mono a hQ hE q
      | false => exact wpE_mono b hQ hE q) hE q
  | .call f es, _, _, _, _, _, _, hQ, hE, q => wpEs_mono es (fun _ _ q => hC _ _ _ _ _ _ _ hQ hE q) hE q
  | .blt f es, _, _, _, _, _, _, hQ, hE, q => wpEs_mono es (fun _ _ q => bltR_mono hQ q) hE q
  | .isin e ts, _, _, _, _, _, _, hQ, hE, q => wpE_mono e (fun _ _ q => tyR_mono (fun _ q => hQ _ _ q) q) hE q
  | .idx a i, _, _, _, _, _, _, hQ, hE, q => wpE_mono a (fun _ _ q => wpE_mono i (fun _ _ q => ixR_mono hQ q) hE q) hE q
  | .slc a lo hi, _, _, _, _, _, _, hQ, hE, q => wpE_mono a (fun _ _ q => wpP_mono lo (fun _ _ q => wpP_mono hi (fun _ _ q => slR_mono hQ q) hE q) hE q) hE q
  | .rev a, _, _, _, _, _, _, hQ, hE, q => wpE_mono a (fun _ _ q => revR_mono hQ q) hE q
  | .mth m o es, _, _, _, _, _, _, hQ, hE, q => wpE_mono o (fun _ _ q => ⟨q.1, wpEs_mono es (fun _ _ q => mthR_mono hQ q) hE q.2⟩) hE q
  | .comp own g it ifs elt, _, _, _, _, _, _, hQ, hE, q => wpI_mono it (fun _ _ _ q => fun D hD => lcL_mono (tgt := fun x σ h k => wpG C T g x σ h k) (tst := fun σ h k => wpTs C T ifs σ h k fun _ _ => False) (elt := fun σ h k => wpE C T elt σ h k fun _ _ => False) (fun _ _ _ _ _ hk q => wpG_mono g hk q) (fun _ _ _ _ hk q => wpTs_mono ifs hk (fun _ _ z => z) q) (fun _ _ _ _ hk q => wpE_mono elt hk (fun _ _ z => z) q) (fun _ q => hQ _ _ q) (q D hD)) hE q
  | .nil, _, _, _, _, _, _, _, _, q => q.elim
  | .cons _ _, _, _, _, _, _, _, _, _, q => q.elim
  | .attr _ _, _, _, _, _, _, _, _, _, q => q.elim
  | .umth _ _ _, _, _, _, _, _, _, _, _, q => q.elim
  | .new _ _, _, _, _, _, _, _, _, _, q => q.elim
  | .tru _, _, _, _, _, _, _, _, _, q => q.elim
  | .val _, _, _, _, _, _, _, _, _, q => q.elim
  | .range1 _, _, _, _, _, _, _, _, _, q => q.elim
  | .range2 _ _, _, _, _, _, _, _, _, _, q => q.elim
  | .range3 _ _ _, _, _, _, _, _, _, _, _, q => q.elim
  | .enum _, _, _, _, _, _, _, _, _, q => q.elim
  | .zip _ _, _, _, _, _, _, _, _, _, q => q.elim
  | .ditems _, _, _, _, _, _, _, _, _, q => q.elim
theorem wpEs_mono : ∀ (e : CE) {σ : AEnv} {h : AH} {Q Q' : List AV → AH → Prop} {E E' : AXQ}, (∀ vs h, Q vs h → Q' vs h) → XLe E E' → wpEs C T e σ h Q E → wpEs C T e σ h Q' E'
  | .nil, _, _, _, _, _, _, hQ, hE, q => hQ _ _ q
  | .cons e es, _, _, _, _, _, _, hQ, hE, q => wpE_mono e (fun _ _ q => wpEs_mono es (fun _ _ q => hQ _ _ q) hE q) hE q
  | .non, _, _, _, _, _, _, _, _, q => q.elim
  | .bl _, _, _, _, _, _, _, _, _, q => q.elim
  | .int _, _, _, _, _, _, _, _, _, q => q.elim
  | .str _, _, _, _, _, _, _, _, _, q => q.elim
  | .var _, _, _, _, _, _, _, _, _, q => q.elim
  | .glob _, _, _, _, _, _, _, _, _, q => q.elim
  | .tup _, _, _, _, _, _, _, _, _, q => q.elim
  | .lst _, _, _, _, _, _, _, _, _, q => q.elim
  | .dct0, _, _, _, _, _, _, _, _, q => q.elim
  | .bin _ _ _, _, _, _, _, _, _, _, _, q => q.elim
  | .neg _, _, _, _, _, _, _, _, _, q => q.elim
  | .not _, _, _, _, _, _, _, _, _, q => q.elim
  | .cmp _ _ _, _, _, _, _, _, _, _, _, q => q.elim
  | .chain _ _ _ _ _, _, _, _, _, _, _, _, _, q => q.elim
  | .and _, _, _, _, _, _, _, _, _, q => q.elim
  | .or _, _, _, _, _, _, _, _, _, q => q.elim
  | .ifx _ _ _, _, _, _, _, _, _, _, _, q => q.elim
  | .call _ _, _, _, _, _, _, _, _, _, q => q.elim
  | .blt _ _, _, _, _, _, _, _, _, _, q => q.elim
  | .isin _ _, _, _, _, _, _, _, _, _, q => q.elim
  | .idx _ _, _, _, _, _, _, _, _, _, q => q.elim
  | .slc _ _ _, _, _, _, _, _, _, _, _, q => q.elim
  | .rev _, _, _, _, _, _, _, _, _, q => q.elim
  | .mth _ _ _, _, _, _, _, _, _, _, _, q => q.elim
  | .attr _ _, _, _, _, _, _, _, _, _, q => q.elim
  | .umth _ _ _, _, _, _, _, _, _, _, _, q => q.elim
  | .new _ _, _, _, _, _, _, _, _, _, q => q.elim
  | .comp _ _ _ _ _, _, _, _, _, _, _, _, _, q => q.elim
  | .tru _, _, _, _, _, _, _, _, _, q => q.elim
  | .val _, _, _, _, _, _, _, _, _, q => q.elim
  | .range1 _, _, _, _, _, _, _, _, _, q => q.elim
  | .range2 _ _, _, _, _, _, _, _, _, _, q => q.elim
  | .range3 _ _ _, _, _, _, _, _, _, _, _, q => q.elim
  | .enum _, _, _, _, _, _, _, _, _, q => q.elim
  | .zip _ _, _, _, _, _, _, _, _, _, q => q.elim
  | .ditems _, _, _, _, _, _, _, _, _, q => q.elim
theorem wpP_mono : ∀ (e : CE) {σ : AEnv} {h : AH} {Q Q' : Option Int → AH → Prop} {E E' : AXQ}, (∀ vs h, Q vs h → Q' vs h) → XLe E E' → wpP C T e σ h Q E → wpP C T e σ h Q' E'
  | .nil, _, _, _, _, _, _, hQ, hE, q => hQ _ _ q
  | .cons e es, _, _, _, _, _, _, hQ, hE, q => wpE_mono e (fun _ _ ⟨i, e, q⟩ => ⟨i, e, hQ _ _ q⟩) hE q
  | .non, _, _, _, _, _, _, _, _, q => q.elim
  | .bl _, _, _, _, _, _, _, _, _, q => q.elim
  | .int _, _, _, _, _, _, _, _, _, q => q.elim
  | .str _, _, _, _, _, _, _, _, _, q => q.elim
  | .var _, _, _, _, _, _, _, _, _, q => q.elim
  | .glob _, _, _, _, _, _, _, _, _, q => q.elim
  | .tup _, _, _, _, _, _, _, _, _, q => q.elim
  | .lst _, _, _, _, _, _, _, _, _, q => q.elim
  | .dct0, _, _, _, _, _, _, _, _, q => q.elim
  | .bin _ _ _, _, _, _, _, _, _, _, _, q => q.elim
  | .neg _, _, _, _, _, _, _, _, _, q => q.elim
  | .not _, _, _, _, _, _, _, _, _, q => q.elim
  | .cmp _ _ _, _, _, _, _, _, _, _, _, q => q.elim
  | .chain _ _ _ _ _, _, _, _, _, _, _, _, _, q => q.elim
  | .and _, _, _, _, _, _, _, _, _, q => q.elim
  | .or _, _, _, _, _, _, _, _, _, q => q.elim
  | .ifx _ _ _, _, _, _, _, _, _, _, _, q => q.elim
  | .call _ _, _, _, _, _, _, _, _, _, q => q.elim
  | .blt _ _, _, _, _, _, _, _, _, _, q => q.elim
  | .isin _ _, _, _, _, _, _, _, _, _, q => q.elim
  | .idx _ _, _, _, _, _, _, _, _, _, q => q.elim
  | .slc _ _ _, _, _, _, _, _, _, _, _, q => q.elim
  | .rev _, _, _, _, _, _, _, _, _, q => q.elim
  | .mth _ _ _, _, _, _, _, _, _, _, _, q => q.elim
  | .attr _ _, _, _, _, _, _, _, _, _, q => q.elim
  | .umth _ _ _, _, _, _, _, _, _, _, _, q => q.elim
  | .new _ _, _, _, _, _, _, _, _, _, q => q.elim
  | .comp _ _ _ _ _, _, _, _, _, _, _, _, _, q => q.elim
  | .tru _, _, _, _, _, _, _, _, _, q => q.elim
  | .val _, _, _, _, _, _, _, _, _, q => q.elim
  | .range1 _, _, _, _, _, _, _, _, _, q => q.elim
  | .range2 _ _, _, _, _, _, _, _, _, _, q => q.elim
  | .range3 _ _ _, _, _, _, _, _, _, _, _, q => q.elim
  | .enum _, _, _, _, _, _, _, _, _, q => q.elim
  | .zip _ _, _, _, _, _, _, _, _, _, q => q.elim
  | .ditems _, _, _, _, _, _, _, _, _, q => q.elim
theorem wpAndV_mono : ∀ (e : CE) {σ : AEnv} {h : AH} {Q Q' : AQ} {E E' : AXQ}, QLe Q Q' → XLe E E' → wpAndV C T e σ h Q E → wpAndV C T e σ h Q' E'
  | .cons e es, _, _, _, _, _, _, hQ, hE, q => by
    unfold wpAndV at q ⊢
    split at q
    · exact wpE_mono e hQ hE q
    · refine wpE_mono e (fun x _ q => ?_) hE q
      obtain ⟨c, ec, q⟩ := q
      refine ⟨c, ec, ?_⟩
      cases c with
      | true => exact wpAndV_mono es hQ hE q
      | false => exact hQ _ _ q
  | .non, _, _, _, _, _, _, _, _, q => q.elim
  | .bl _, _, _, _, _, _, _, _, _, q => q.elim
  | .int _, _, _, _, _, _, _, _, _, q => q.elim
  | .str _, _, _, _, _, _, _, _, _, q => q.elim
  | .var _, _, _, _, _, _, _, _, _, q => q.elim
  | .glob _, _, _, _, _, _, _, _, _, q => q.elim
  | .nil, _, _, _, _, _, _, _, _, q => q.elim
  | .tup _, _, _, _, _, _, _, _, _, q => q.elim
  | .lst _, _, _, _, _, _, _, _, _, q => q.elim
  | .dct0, _, _, _, _, _, _, _, _, q => q.elim
  | .bin _ _ _, _, _, _, _, _, _, _, _, q => q.elim
  | .neg _, _, _, _, _, _, _, _, _, q => q.elim
  | .not _, _, _, _, _, _, _, _, _, q => q.elim
  | .cmp _ _ _, _, _, _, _, _, _, _, _, q => q.elim
  | .chain _ _ _ _ _, _, _, _, _, _, _, _, _, q => q.elim
  | .and _, _, _, _, _, _, _, _, _, q => q.elim
  | .or _, _, _, _, _, _, _, _, _, q => q.elim
  | .ifx _ _ _, _, _, _, _, _, _, _, _, q => q.elim
  | .call _ _, _, _, _, _, _, _, _, _, q => q.elim
  | .blt _ _, _, _, _, _, _, _, _, _, q => q.elim
  | .isin _ _, _, _, _, _, _, _, _, _, q => q.elim
  | .idx _ _, _, _, _, _, _, _, _, _, q => q.elim
  | .slc _ _ _, _, _, _, _, _, _, _, _, q => q.elim
  | .rev _, _, _, _, _, _, _, _, _, q => q.elim
  | .mth _ _ _, _, _, _, _, _, _, _, _, q => q.elim
  | .attr _ _, _, _, _, _, _, _, _, _, q => q.elim
  | .umth _ _ _, _, _, _, _, _, _, _, _, q => q.elim
  | .new _ _, _, _, _, _, _, _, _, _, q => q.elim
  | .comp _ _ _ _ _, _, _, _, _, _, _, _, _, q => q.elim
  | .tru _, _, _, _, _, _, _, _, _, q => q.elim
  | .val _, _, _, _, _, _, _, _, _, q => q.elim
  | .range1 _, _, _, _, _, _, _, _, _, q => q.elim
  | .range2 _ _, _, _, _, _, _, _, _, _, q => q.elim
  | .range3 _ _ _, _, _, _, _, _, _, _, _, q => q.elim
  | .enum _, _, _, _, _, _, _, _, _, q => q.elim
  | .zip _ _, _, _, _, _, _, _, _, _, q => q.elim
  | .ditems _, _, _, _, _, _, _, _, _, q => q.elim
theorem wpOrV_mono : ∀ (e : CE) {σ : AEnv} {h : AH} {Q Q' : AQ} {E E' : AXQ}, QLe Q Q' → XLe E E' → wpOrV C T e σ h Q E → wpOrV C T e σ h Q' E'
  | .cons e es, _, _, _, _, _, _, hQ, hE, q => by
    unfold wpOrV at q ⊢
    split at q
    · exact wpE_mono e hQ hE q
    · refine wpE_mono e (fun x _ q => ?_) hE q
      obtain ⟨c, ec, q⟩ := q
      refine ⟨c, ec, ?_⟩
      cases c with
      | true => exact hQ _ _ q
      | false => exact wpOrV_mono es hQ hE q
  | .non, _, _, _, _, _, _, _, _, q => q.elim
  | .bl _, _, _, _, _, _, _, _, _, q => q.elim
  | .int _, _, _, _, _, _, _, _, _, q => q.elim
  | .str _, _, _, _, _, _, _, _, _, q => q.elim
  | .var _, _, _, _, _, _, _, _, _, q => q.elim
  | .glob _, _, _, _, _, _, _, _, _, q => q.elim
  | .nil, _, _, _, _, _, _, _, _, q => q.elim
  | .tup _, _, _, _, _, _, _, _, _, q => q.elim
  | .lst _, _, _, _, _, _, _, _, _, q => q.elim
  | .dct0, _, _, _, _, _, _, _, _, q => q.elim
  | .bin _ _ _, _, _, _, _, _, _, _, _, q => q.elim
  | .neg _, _, _, _, _, _, _, _, _, q => q.elim
  | .not _, _, _, _, _, _, _, _, _, q => q.elim
  | .cmp _ _ _, _, _, _, _, _, _, _, _, q => q.elim
  | .chain _ _ _ _ _, _, _, _, _, _, _, _, _, q => q.elim
  | .and _, _, _, _, _, _, _, _, _, q => q.elim
  | .or _, _, _, _, _, _, _, _, _, q => q.elim
  | .ifx _ _ _, _, _, _, _, _, _, _, _, q => q.elim
  | .call _ _, _, _, _, _, _, _, _, _, q => q.elim
  | .blt _ _, _, _, _, _, _, _, _, _, q => q.elim
  | .isin _ _, _, _, _, _, _, _, _, _, q => q.elim
  | .idx _ _, _, _, _, _, _, _, _, _, q => q.elim
  | .slc _ _ _, _, _, _, _, _, _, _, _, q => q.elim
  | .rev _, _, _, _, _, _, _, _, _, q => q.elim
  | .mth _ _ _, _, _, _, _, _, _, _, _, q => q.elim
  | .attr _ _, _, _, _, _, _, _, _, _, q => q.elim
  | .umth _ _ _, _, _, _, _, _, _, _, _, q => q.elim
  | .new _ _, _, _, _, _, _, _, _, _, q => q.elim
  | .comp _ _ _ _ _, _, _, _, _, _, _, _, _, q => q.elim
  | .tru _, _, _, _, _, _, _, _, _, q => q.elim
  | .val _, _, _, _, _, _, _, _, _, q => q.elim
  | .range1 _, _, _, _, _, _, _, _, _, q => q.elim
  | .range2 _ _, _, _, _, _, _, _, _, _, q => q.elim
  | .range3 _ _ _, _, _, _, _, _, _, _, _, q => q.elim
  | .enum _, _, _, _, _, _, _, _, _, q => q.elim
  | .zip _ _, _, _, _, _, _, _, _, _, q => q.elim
  | .ditems _, _, _, _, _, _, _, _, _, q => q.elim
theorem wpT_mono : ∀ (e : CE) {σ : AEnv} {h : AH} {Q Q' : Bool → AH → Prop} {E E' : AXQ}, (∀ b h, Q b h → Q' b h) → XLe E E' → wpT C T e σ h Q E → wpT C T e σ h Q' E'
  | .cmp op a b, _, _, _, _, _, _, hQ, hE, q => wpE_mono a (fun _ _ q => wpE_mono b (fun _ _ q => cmpR_mono (fun _ q => hQ _ _ q) q) hE q) hE q
  | .chain o1 o2 a b c, _, _, _, _, _, _, hQ, hE, q => wpE_mono a (fun _ _ q => wpE_mono b (fun _ _ q => cmpR_mono (fun r q => by
      cases r with
      | true => exact wpE_mono c (fun _ _ q => cmpR_mono (fun _ q => hQ _ _ q) q) hE q
      | false => exact hQ _ _ q) q) hE q) hE q
  | .not a, _, _, _, _, _, _, hQ, hE, q => wpT_mono a (fun _ _ q => hQ _ _ q) hE q
  | .and es, _, _, _, _, _, _, hQ, hE, q => wpAnd_mono es hQ hE q
  | .or es, _, _, _, _, _, _, hQ, hE, q => wpOr_mono es hQ hE q
  | .tru e, _, _, _, _, _, _, hQ, hE, q => wpE_mono e (fun _ _ q => truR_mono (fun _ q => hQ _ _ q) q) hE q
  | .non, _, _, _, _, _, _, _, _, q => q.elim
  | .bl _, _, _, _, _, _, _, _, _, q => q.elim
  | .int _, _, _, _, _, _, _, _, _, q => q.elim
  | .str _, _, _, _, _, _, _, _, _, q => q.elim
  | .var _, _, _, _, _, _, _, _, _, q => q.elim
  | .glob _, _, _, _, _, _, _, _, _, q => q.elim
  | .nil, _, _, _, _, _, _, _, _, q => q.elim
  | .cons _ _, _, _, _, _, _, _, _, _, q => q.elim
  | .tup _, _, _, _, _, _, _, _, _, q => q.elim
  | .lst _, _, _, _, _, _, _, _, _, q => q.elim
  | .dct0, _, _, _, _, _, _, _, _, q => q.elim
  | .bin _ _ _, _, _, _, _, _, _, _, _, q => q.elim
  | .neg _, _, _, _, _, _, _, _, _, q => q.elim
  | .ifx _ _ _, _, _, _, _, _, _, _, _, q => q.elim
  | .call _ _, _, _, _, _, _, _, _, _, q => q.elim
  | .blt _ _, _, _, _, _, _, _, _, _, q => q.elim
  | .isin _ _, _, _, _, _, _, _, _, _, q => q.elim
  | .idx _ _, _, _, _, _, _, _, _, _, q => q.elim
  | .slc _ _ _, _, _, _, _, _, _, _, _, q => q.elim
  | .rev _, _, _, _, _, _, _, _, _, q => q.elim
  | .mth _ _ _, _, _, _, _, _, _, _, _, q => q.elim
  | .attr _ _, _, _, _, _, _, _, _, _, q => q.elim
  | .umth _ _ _, _, _, _, _, _, _, _, _, q => q.elim
  | .new _ _, _, _, _, _, _, _, _, _, q => q.elim
  | .comp _ _ _ _ _, _, _, _, _, _, _, _, _, q => q.elim
  | .val _, _, _, _, _, _, _, _, _, q => q.elim
  | .range1 _, _, _, _, _, _, _, _, _, q => q.elim
  | .range2 _ _, _, _, _, _, _, _, _, _, q => q.elim
  | .range3 _ _ _, _, _, _, _, _, _, _, _, q => q.elim
  | .enum _, _, _, _, _, _, _, _, _, q => q.elim
  | .zip _ _, _, _, _, _, _, _, _, _, q => q.elim
  | .ditems _, _, _, _, _, _, _, _, _, q => q.elim
theorem wpAnd_mono : ∀ (e : CE) {σ : AEnv} {h : AH} {Q Q' : Bool → AH → Prop} {E E' : AXQ}, (∀ b h, Q b h → Q' b h) → XLe E E' → wpAnd C T e σ h Q E → wpAnd C T e σ h Q' E'
  | .nil, _, _, _, _, _, _, hQ, hE, q => hQ _ _ q
  | .cons e es, _, _, _, _, _, _, hQ, hE, q => wpT_mono e (fun r _ q => by
      cases r with
      | true => exact wpAnd_mono es hQ hE q
      | false => exact hQ _ _ q) hE q
  | .non, _, _, _, _, _, _, _, _, q => q.elim
  | .bl _, _, _, _, _, _, _, _, _, q => q.elim
  | .int _, _, _, _, _, _, _, _, _, q => q.elim
  | .str _, _, _, _, _, _, _, _, _, q => q.elim
  | .var _, _, _, _, _, _, _, _, _, q => q.elim
  | .glob _, _, _, _, _, _, _, _, _, q => q.elim
  | .tup _, _, _, _, _, _, _, _, _, q => q.elim
  | .lst _, _, _, _, _, _, _, _, _, q => q.elim
  | .dct0, _, _, _, _, _, _, _, _, q => q.elim
  | .bin _ _ _, _, _, _, _, _, _, _, _, q => q.elim
  | .neg _, _, _, _, _, _, _, _, _, q => q.elim
  | .not _, _, _, _, _, _, _, _, _, q => q.elim
  | .cmp _ _ _, _, _, _, _, _, _, _, _, q => q.elim
  | .chain _ _ _ _ _, _, _, _, _, _, _, _, _, q => q.elim
  | .and _, _, _, _, _, _, _, _, _, q => q.elim
  | .or _, _, _, _, _, _, _, _, _, q => q.elim
  | .ifx _ _ _, _, _, _, _, _, _, _, _, q => q.elim
  | .call _ _, _, _, _, _, _, _, _, _, q => q.elim
  | .blt _ _, _, _, _, _, _, _, _, _, q => q.elim
  | .isin _ _, _, _, _, _, _, _, _, _, q => q.elim
  | .idx _ _, _, _, _, _, _, _, _, _, q => q.elim
  | .slc _ _ _, _, _, _, _, _, _, _, _, q => q.elim
  | .rev _, _, _, _, _, _, _, _, _, q => q.elim
  | .mth _ _ _, _, _, _, _, _, _, _, _, q => q.elim
  | .attr _ _, _, _, _, _, _, _, _, _, q => q.elim
  | .umth _ _ _, _, _, _, _, _, _, _, _, q => q.elim
  | .new _ _, _, _, _, _, _, _, _, _, q => q.elim
  | .comp _ _ _ _ _, _, _, _, _, _, _, _, _, q => q.elim
  | .tru _, _, _, _, _, _, _, _, _, q => q.elim
  | .val _, _, _, _, _, _, _, _, _, q => q.elim
  | .range1 _, _, _, _, _, _, _, _, _, q => q.elim
  | .range2 _ _, _, _, _, _, _, _, _, _, q => q.elim
  | .range3 _ _ _, _, _, _, _, _, _, _, _, q => q.elim
  | .enum _, _, _, _, _, _, _, _, _, q => q.elim
  | .zip _ _, _, _, _, _, _, _, _, _, q => q.elim
  | .ditems _, _, _, _, _, _, _, _, _, q => q.elim
theorem wpOr_mono : ∀ (e : CE) {σ : AEnv} {h : AH} {Q Q' : Bool → AH → Prop} {E E' : AXQ}, (∀ b h, Q b h → Q' b h) → XLe E E' → wpOr C T e σ h Q E → wpOr C T e σ h Q' E'
  | .nil, _, _, _, _, _, _, hQ, hE, q => hQ _ _ q
  | .cons e es, _, _, _, _, _, _, hQ, hE, q => wpT_mono e (fun r _ q => by
      cases r with
      | false => exact wpOr_mono es hQ hE q
      | true => exact hQ _ _ q) hE q
  | .non, _, _, _, _, _, _, _, _, q => q.elim
  | .bl _, _, _, _, _, _, _, _, _, q => q.elim
  | .int _, _, _, _, _, _, _, _, _, q => q.elim
  | .str _, _, _, _, _, _, _, _, _, q => q.elim
  | .var _, _, _, _, _, _, _, _, _, q => q.elim
  | .glob _, _, _, _, _, _, _, _, _, q => q.elim
  | .tup _, _, _, _, _, _, _, _, _, q => q.elim
  | .lst _, _, _, _, _, _, _, _, _, q => q.elim
  | .dct0, _, _, _, _, _, _, _, _, q => q.elim
  | .bin _ _ _, _, _, _, _, _, _, _, _, q => q.elim
  | .neg _, _, _, _, _, _, _, _, _, q => q.elim
  | .not _, _, _, _, _, _, _, _, _, q => q.elim
  | .cmp _ _ _, _, _, _, _, _, _, _, _, q => q.elim
  | .chain _ _ _ _ _, _, _, _, _, _, _, _, _, q => q.elim
  | .and _, _, _, _, _, _, _, _, _, q => q.elim
  | .or _, _, _, _, _, _, _, _, _, q => q.elim
  | .ifx _ _ _, _, _, _, _, _, _, _, _, q => q.elim
  | .call _ _, _, _, _, _, _, _, _, _, q => q.elim
  | .blt _ _, _, _, _, _, _, _, _, _, q => q.elim
  | .isin _ _, _, _, _, _, _, _, _, _, q => q.elim
  | .idx _ _, _, _, _, _, _, _, _, _, q => q.elim
  | .slc _ _ _, _, _, _, _, _, _, _, _, q => q.elim
  | .rev _, _, _, _, _, _, _, _, _, q => q.elim
  | .mth _ _ _, _, _, _, _, _, _, _, _, q => q.elim
  | .attr _ _, _, _, _, _, _, _, _, _, q => q.elim
  | .umth _ _ _, _, _, _, _, _, _, _, _, q => q.elim
  | .new _ _, _, _, _, _, _, _, _, _, q => q.elim
  | .comp _ _ _ _ _, _, _, _, _, _, _, _, _, q => q.elim
  | .tru _, _, _, _, _, _, _, _, _, q => q.elim
  | .val _, _, _, _, _, _, _, _, _, q => q.elim
  | .range1 _, _, _, _, _, _, _, _, _, q => q.elim
  | .range2 _ _, _, _, _, _, _, _, _, _, q => q.elim
  | .range3 _ _ _, _, _, _, _, _, _, _, _, q => q.elim
  | .enum _, _, _, _, _, _, _, _, _, q => q.elim
  | .zip _ _, _, _, _, _, _, _, _, _, q => q.elim
  | .ditems _, _, _, _, _, _, _, _, _, q => q.elim
theorem wpTs_mono : ∀ (e : CE) {σ : AEnv} {h : AH} {Q Q' : Bool → AH → Prop} {E E' : AXQ}, (∀ b h, Q b h → Q' b h) → XLe E E' → wpTs C T e σ h Q E → wpTs C T e σ h Q' E'
  | .nil, _, _, _, _, _, _, hQ, hE, q => hQ _ _ q
  | .cons e es, _, _, _, _, _, _, hQ, hE, q => by
    unfold wpTs at q ⊢
    split at q
    · exact wpT_mono e hQ hE q
    · exact q.elim
  | .non, _, _, _, _, _, _, _, _, q => q.elim
  | .bl _, _, _, _, _, _, _, _, _, q => q.elim
  | .int _, _, _, _, _, _, _, _, _, q => q.elim
  | .str _, _, _, _, _, _, _, _, _, q => q.elim
  | .var _, _, _, _, _, _, _, _, _, q => q.elim
  | .glob _, _, _, _, _, _, _, _, _, q => q.elim
  | .tup _, _, _, _, _, _, _, _, _, q => q.elim
  | .lst _, _, _, _, _, _, _, _, _, q => q.elim
  | .dct0, _, _, _, _, _, _, _, _, q => q.elim
  | .bin _ _ _, _, _, _, _, _, _, _, _, q => q.elim
  | .neg _, _, _, _, _, _, _, _, _, q => q.elim
  | .not _, _, _, _, _, _, _, _, _, q => q.elim
  | .cmp _ _ _, _, _, _, _, _, _, _, _, q => q.elim
  | .chain _ _ _ _ _, _, _, _, _, _, _, _, _, q => q.elim
  | .and _, _, _, _, _, _, _, _, _, q => q.elim
  | .or _, _, _, _, _, _, _, _, _, q => q.elim
  | .ifx _ _ _, _, _, _, _, _, _, _, _, q => q.elim
  | .call _ _, _, _, _, _, _, _, _, _, q => q.elim
  | .blt _ _, _, _, _, _, _, _, _, _, q => q.elim
  | .isin _ _, _, _, _, _, _, _, _, _, q => q.elim
  | .idx _ _, _, _, _, _, _, _, _, _, q => q.elim
  | .slc _ _ _, _, _, _, _, _, _, _, _, q => q.elim
  | .rev _, _, _, _, _, _, _, _, _, q => q.elim
  | .mth _ _ _, _, _, _, _, _, _, _, _, q => q.elim
  | .attr _ _, _, _, _, _, _, _, _, _, q => q.elim
  | .umth _ _ _, _, _, _, _, _, _, _, _, q => q.elim
  | .new _ _, _, _, _, _, _, _, _, _, q => q.elim
  | .comp _ _ _ _ _, _, _, _, _, _, _, _, _, q => q.elim
  | .tru _, _, _, _, _, _, _, _, _, q => q.elim
  | .val _, _, _, _, _, _, _, _, _, q => q.elim
  | .range1 _, _, _, _, _, _, _, _, _, q => q.elim
  | .range2 _ _, _, _, _, _, _, _, _, _, q => q.elim
  | .range3 _ _ _, _, _, _, _, _, _, _, _, q => q.elim
  | .enum _, _, _, _, _, _, _, _, _, q => q.elim
  | .zip _ _, _, _, _, _, _, _, _, _, q => q.elim
  | .ditems _, _, _, _, _, _, _, _, _, q => q.elim
theorem wpI_mono : ∀ (e : CE) {σ : AEnv} {h : AH} {Q Q' : List AV → (AH → Prop) → AH → Prop} {E E' : AXQ}, (∀ xs c h, Q xs c h → Q' xs c h) → XLe E E' → wpI C T e σ h Q E → wpI C T e σ h Q' E'
  | .range1 a, _, _, _, _, _, _, hQ, hE, q => wpE_mono a (fun _ _ ⟨n, e, a, b, q⟩ => ⟨n, e, a, b, hQ _ _ _ q⟩) hE q
  | .range2 a b, _, _, _, _, _, _, hQ, hE, q => wpE_mono a (fun _ _ q => wpE_mono b (fun _ _ ⟨m, n, e, e2, a, q⟩ => ⟨m, n, e, e2, a, hQ _ _ _ q⟩) hE q) hE q
  | .zip a b, _, _, _, _, _, _, hQ, hE, q => wpE_mono a (fun _ _ q => wpE_mono b (fun _ _ q => by
      rcases q with ⟨xs, ys, e1, e2, q⟩ | ⟨p, r, xs, ys, e1, e2, e3, e4, q⟩
      · exact .inl ⟨xs, ys, e1, e2, hQ _ _ _ q⟩
      · exact .inr ⟨p, r, xs, ys, e1, e2, e3, e4, hQ _ _ _ q⟩) hE q) hE q
  | .enum a, _, _, _, _, _, _, hQ, hE, q => wpE_mono a (fun _ _ ⟨p, xs, e, e2, q⟩ => ⟨p, xs, e, e2, hQ _ _ _ q⟩) hE q
  | .val a, _, _, _, _, _, _, hQ, hE, q => wpE_mono a (fun _ _ q => itR_mono (fun _ _ q => hQ _ _ _ q) q) hE q
  | .non, _, _, _, _, _, _, _, _, q => q.elim
  | .bl _, _, _, _, _, _, _, _, _, q => q.elim
  | .int _, _, _, _, _, _, _, _, _, q => q.elim
  | .str _, _, _, _, _, _, _, _, _, q => q.elim
  | .var _, _, _, _, _, _, _, _, _, q => q.elim
  | .glob _, _, _, _, _, _, _, _, _, q => q.elim
  | .nil, _, _, _, _, _, _, _, _, q => q.elim
  | .cons _ _, _, _, _, _, _, _, _, _, q => q.elim
  | .tup _, _, _, _, _, _, _, _, _, q => q.elim
  | .lst _, _, _, _, _, _, _, _, _, q => q.elim
  | .dct0, _, _, _, _, _, _, _, _, q => q.elim
  | .bin _ _ _, _, _, _, _, _, _, _, _, q => q.elim
  | .neg _, _, _, _, _, _, _, _, _, q => q.elim
  | .not _, _, _, _, _, _, _, _, _, q => q.elim
  | .cmp _ _ _, _, _, _, _, _, _, _, _, q => q.elim
  | .chain _ _ _ _ _, _, _, _, _, _, _, _, _, q => q.elim
  | .and _, _, _, _, _, _, _, _, _, q => q.elim
  | .or _, _, _, _, _, _, _, _, _, q => q.elim
  | .ifx _ _ _, _, _, _, _, _, _, _, _, q => q.elim
  | .call _ _, _, _, _, _, _, _, _, _, q => q.elim
  | .blt _ _, _, _, _, _, _, _, _, _, q => q.elim
  | .isin _ _, _, _, _, _, _, _, _, _, q => q.elim
  | .idx _ _, _, _, _, _, _, _, _, _, q => q.elim
  | .slc _ _ _, _, _, _, _, _, _, _, _, q => q.elim
  | .rev _, _, _, _, _, _, _, _, _, q => q.elim
  | .mth _ _ _, _, _, _, _, _, _, _, _, q => q.elim
  | .attr _ _, _, _, _, _, _, _, _, _, q => q.elim
  | .umth _ _ _, _, _, _, _, _, _, _, _, q => q.elim
  | .new _ _, _, _, _, _, _, _, _, _, q => q.elim
  | .comp _ _ _ _ _, _, _, _, _, _, _, _, _, q => q.elim
  | .tru _, _, _, _, _, _, _, _, _, q => q.elim
  | .range3 _ _ _, _, _, _, _, _, _, _, _, q => q.elim
  | .ditems _, _, _, _, _, _, _, _, _, q => q.elim
theorem wpG_mono : ∀ (e : CE) {v : AV} {σ : AEnv} {h : AH} {Q Q' : AEnv → AH → Prop}, (∀ σ h, Q σ h → Q' σ h) → wpG C T e v σ h Q → wpG C T e v σ h Q'
  | .var i, _, _, _, _, _, hQ, q => hQ _ _ q
  | .tup gs, _, _, _, _, _, hQ, q => by
    rcases q with ⟨vs, e, hl, q⟩ | ⟨a, vs, e, e2, hl, q⟩
    · exact .inl ⟨vs, e, hl, wpGs_mono gs hQ q⟩
    · exact .inr ⟨a, vs, e, e2, hl, wpGs_mono gs hQ q⟩
  | .idx o i, _, _, _, _, _, hQ, q => wpE_mono o (fun _ _ q => wpE_mono i (fun _ _ ⟨a, e, q⟩ => ⟨a, e, by
      rcases q with ⟨xs, i, e1, e2, e3, e4, q⟩ | ⟨kvs, k, e1, e2, e3, q⟩
      · exact .inl ⟨xs, i, e1, e2, e3, e4, hQ _ _ q⟩
      · exact .inr ⟨kvs, k, e1, e2, e3, hQ _ _ q⟩⟩) (fun _ _ z => z) q) (fun _ _ z => z) q
  | .non, _, _, _, _, _, _, q => q.elim
  | .bl _, _, _, _, _, _, _, q => q.elim
  | .int _, _, _, _, _, _, _, q => q.elim
  | .str _, _, _, _, _, _, _, q => q.elim
  | .glob _, _, _, _, _, _, _, q => q.elim
  | .nil, _, _, _, _, _, _, q => q.elim
  | .cons _ _, _, _, _, _, _, _, q => q.elim
  | .lst _, _, _, _, _, _, _, q => q.elim
  | .dct0, _, _, _, _, _, _, q => q.elim
  | .bin _ _ _, _, _, _, _, _, _, q => q.elim
  | .neg _, _, _, _, _, _, _, q => q.elim
  | .not _, _, _, _, _, _, _, q => q.elim
  | .cmp _ _ _, _, _, _, _, _, _, q => q.elim
  | .chain _ _ _ _ _, _, _, _, _, _, _, q => q.elim
  | .and _, _, _, _, _, _, _, q => q.elim
  | .or _, _, _, _, _, _, _, q => q.elim
  | .ifx _ _ _, _, _, _, _, _, _, q => q.elim
  | .call _ _, _, _, _, _, _, _, q => q.elim
  | .blt _ _, _, _, _, _, _, _, q => q.elim
  | .isin _ _, _, _, _, _, _, _, q => q.elim
  | .slc _ _ _, _, _, _, _, _, _, q => q.elim
  | .rev _, _, _, _, _, _, _, q => q.elim
  | .mth _ _ _, _, _, _, _, _, _, q => q.elim
  | .attr _ _, _, _, _, _, _, _, q => q.elim
  | .umth _ _ _, _, _, _, _, _, _, q => q.elim
  | .new _ _, _, _, _, _, _, _, q => q.elim
  | .comp _ _ _ _ _, _, _, _, _, _, _, q => q.elim
  | .tru _, _, _, _, _, _, _, q => q.elim
  | .val _, _, _, _, _, _, _, q => q.elim
  | .range1 _, _, _, _, _, _, _, q => q.elim
  | .range2 _ _, _, _, _, _, _, _, q => q.elim
  | .range3 _ _ _, _, _, _, _, _, _, q => q.elim
  | .enum _, _, _, _, _, _, _, q => q.elim
  | .zip _ _, _, _, _, _, _, _, q => q.elim
  | .ditems _, _, _, _, _, _, _, q => q.elim
theorem wpGs_mono : ∀ (e : CE) {vs : List AV} {σ : AEnv} {h : AH} {Q Q' : AEnv → AH → Prop}, (∀ σ h, Q σ h → Q' σ h) → wpGs C T e vs σ h Q → wpGs C T e vs σ h Q'
  | .nil, _, _, _, _, _, hQ, q => ⟨q.1, hQ _ _ q.2⟩
  | .cons g gs, _, _, _, _, _, hQ, q => let ⟨v, r, e, q⟩ := q; ⟨v, r, e, wpG_mono g (fun _ _ q => wpGs_mono gs hQ q) q⟩
  | .non, _, _, _, _, _, _, q => q.elim
  | .bl _, _, _, _, _, _, _, q => q.elim
  | .int _, _, _, _, _, _, _, q => q.elim
  | .str _, _, _, _, _, _, _, q => q.elim
  | .var _, _, _, _, _, _, _, q => q.elim
  | .glob _, _, _, _, _, _, _, q => q.elim
  | .tup _, _, _, _, _, _, _, q => q.elim
  | .lst _, _, _, _, _, _, _, q => q.elim
  | .dct0, _, _, _, _, _, _, q => q.elim
  | .bin _ _ _, _, _, _, _, _, _, q => q.elim
  | .neg _, _, _, _, _, _, _, q => q.elim
  | .not _, _, _, _, _, _, _, q => q.elim
  | .cmp _ _ _, _, _, _, _, _, _, q => q.elim
  | .chain _ _ _ _ _, _, _, _, _, _, _, q => q.elim
  | .and _, _, _, _, _, _, _, q => q.elim
  | .or _, _, _, _, _, _, _, q => q.elim
  | .ifx _ _ _, _, _, _, _, _, _, q => q.elim
  | .call _ _, _, _, _, _, _, _, q => q.elim
  | .blt _ _, _, _, _, _, _, _, q => q.elim
  | .isin _ _, _, _, _, _, _, _, q => q.elim
  | .idx _ _, _, _, _, _, _, _, q => q.elim
  | .slc _ _ _, _, _, _, _, _, _, q => q.elim
  | .rev _, _, _, _, _, _, _, q => q.elim
  | .mth _ _ _, _, _, _, _, _, _, q => q.elim
  | .attr _ _, _, _, _, _, _, _, q => q.elim
  | .umth _ _ _, _, _, _, _, _, _, q => q.elim
  | .new _ _, _, _, _, _, _, _, q => q.elim
  | .comp _ _ _ _ _, _, _, _, _, _, _, q => q.elim
  | .tru _, _, _, _, _, _, _, q => q.elim
  | .val _, _, _, _, _, _, _, q => q.elim
  | .range1 _, _, _, _, _, _, _, q => q.elim
  | .range2 _ _, _, _, _, _, _, _, q => q.elim
  | .range3 _ _ _, _, _, _, _, _, _, q => q.elim
  | .enum _, _, _, _, _, _, _, q => q.elim
  | .zip _ _, _, _, _, _, _, _, q => q.elim
  | .ditems _, _, _, _, _, _, _, q => q.elim
end
end
structure DLe (D D' : AEnds) : Prop where
  nx : ∀ σ h, D.nx σ h → D'.nx σ h
  rt : ∀ σ h, D.rt σ h → D'.rt σ h
  bk : ∀ σ h, D.bk σ h → D'.bk σ h
  ct : ∀ σ h, D.ct σ h → D'.ct σ h
  ex : ∀ x σ h, D.ex x σ h → D'.ex x σ h
theorem DLe.loop {D D' : AEnds} (d : DLe D D') {k k' : AEnv → AH → Prop} (hk : ∀ σ h, k σ h → k' σ h) : DLe { D with nx := k, ct := k, bk := D.nx } { D' with nx := k', ct := k', bk := D'.nx } := ⟨hk, d.rt, d.nx, hk, d.ex⟩
theorem DLe.seq {D D' : AEnds} (d : DLe D D') {k k' : AEnv → AH → Prop} (hk : ∀ σ h, k σ h → k' σ h) : DLe { D with nx := k } { D' with nx := k' } := ⟨hk, d.rt, d.bk, d.ct, d.ex⟩
theorem DLe.exc {D D' : AEnds} (d : DLe D D') {k k' : AX → AEnv → AH → Prop} (hk : ∀ x σ h, k x σ h → k' x σ h) : DLe { D with ex := k } { D' with ex := k' } := ⟨d.nx, d.rt, d.bk, d.ct, hk⟩
theorem forL_mono {step step' : AV → (AEnv → AH → Prop) → AEnv → AH → Prop} {chk : AH → Prop} {fin fin' : AEnv → AH → Prop} (hs : ∀ x (k k' : AEnv → AH → Prop) σ h, (∀ σ h, k σ h → k' σ h) → step x k σ h → step' x k' σ h) (hf : ∀ σ h, fin σ h → fin' σ h) :
    ∀ {xs : List AV} {σ : AEnv} {h : AH}, forL step chk fin xs σ h → forL step' chk fin' xs σ h
  | [], _, _, q => ⟨q.1, hf _ _ q.2⟩
  | x :: xs, _, _, q => ⟨q.1, hs _ _ _ _ _ (fun _ _ q => Shs.mono (fun _ _ q => forL_mono hs hf q) q) q.2⟩
theorem whlL_mono {tst tst' : AEnv → AH → (Bool → AH → Prop) → Prop} {body body' : (AEnv → AH → Prop) → AEnv → AH → Prop} {fin fin' : AEnv → AH → Prop} (ht : ∀ σ h (k k' : Bool → AH → Prop), (∀ b h, k b h → k' b h) → tst σ h k → tst' σ h k')
    (hs : ∀ (k k' : AEnv → AH → Prop) σ h, (∀ σ h, k σ h → k' σ h) → body k σ h → body' k' σ h) (hf : ∀ σ h, fin σ h → fin' σ h) : ∀ {n : Nat} {σ : AEnv} {h : AH}, whlL tst body fin n σ h → whlL tst' body' fin' n σ h
  | 0, _, _, q => q.elim
  | n + 1, _, _, q => ht _ _ _ _ (fun b _ q => by
      cases b with
      | true => exact hs _ _ _ _ (fun _ _ q => Shs.mono (fun _ _ q => whlL_mono ht hs hf q) q) q
      | false => exact hf _ _ q) q
section
variable {C : ACall} (hC : CMono C) {T : Tb} {sub : Nat → Nat → Bool}
include hC
mutual
theorem wpS_mono : ∀ (s : CS) {D D' : AEnds} {σ : AEnv} {h : AH}, DLe D D' → wpS C T sub s D σ h → wpS C T sub s D' σ h
  | .asg g e, _, _, _, _, d, q => wpE_mono hC e (fun _ _ q => wpG_mono hC g d.nx q) (fun _ _ q => d.ex _ _ _ q) q
  | .slc i e, _, _, _, _, d, q => wpE_mono hC e (fun _ _ q => d.nx _ _ q) (fun _ _ q => d.ex _ _ _ q) q
  | .par i j a b, _, _, _, _, d, q => wpE_mono hC a (fun _ _ q => wpE_mono hC b (fun _ _ q => d.nx _ _ q) (fun _ _ q => d.ex _ _ _ q) q) (fun _ _ q => d.ex _ _ _ q) q
  | .par3 i j k a b c, _, _, _, _, d, q => wpE_mono hC a (fun _ _ q => wpE_mono hC b (fun _ _ q => wpE_mono hC c (fun _ _ q => d.nx _ _ q) (fun _ _ q => d.ex _ _ _ q) q) (fun _ _ q => d.ex _ _ _ q) q) (fun _ _ q => d.ex _ _ _ q) q
  | .aug i op e, _, _, _, _, d, q => let ⟨x, ex, q⟩ := q; ⟨x, ex, wpE_mono hC e (fun _ _ ⟨m, n, e1, e2, q⟩ => ⟨m, n, e1, e2, q.imp (fun z => ⟨z.1, d.nx _ _ z.2⟩) (fun z => ⟨z.1, d.nx _ _ z.2⟩)⟩) (fun _ _ q => d.ex _ _ _ q) q⟩
  | .expr e, _, _, _, _, d, q => wpE_mono hC e (fun _ _ q => d.nx _ _ q) (fun _ _ q => d.ex _ _ _ q) q
  | .ret e, _, _, _, _, d, q => wpE_mono hC e d.rt (fun _ _ q => d.ex _ _ _ q) q
  | .retN, _, _, _, _, d, q => d.rt _ _ q
  | .iff c t f, _, _, _, _, d, q => wpT_mono hC c (fun b _ q => by
      cases b with
      | true => exact wpB_mono t d q
      | false => exact wpB_mono f d q) (fun _ _ q => d.ex _ _ _ q) q
  | .whl c b, D, D', _, _, d, q => let ⟨n, q⟩ := q; ⟨n, whlL_mono (tst := fun σ h k => wpT C T c σ h k (fun x h' => D.ex x σ h')) (tst' := fun σ h k => wpT C T c σ h k (fun x h' => D'.ex x σ h'))
      (body := fun nx σ h => wpB C T sub b { D with nx := nx, ct := nx, bk := D.nx } σ h) (body' := fun nx σ h => wpB C T sub b { D' with nx := nx, ct := nx, bk := D'.nx } σ h) (fun _ _ _ _ hk q => wpT_mono hC c hk (fun _ _ q => d.ex _ _ _ q) q) (fun _ _ _ _ hk q => wpB_mono b (d.loop hk) q) d.nx q⟩
  | .forr g it b, D, D', _, _, d, q => wpI_mono hC it (fun _ _ _ q => forL_mono (step := fun x nx σ h => wpG C T g x σ h (fun σ2 h2 => wpB C T sub b { D with nx := nx, ct := nx, bk := D.nx } σ2 h2)) (step' := fun x nx σ h => wpG C T g x σ h (fun σ2 h2 => wpB C T sub b { D' with nx := nx, ct := nx, bk := D'.nx } σ2 h2)) (fun _ _ _ _ _ hk q => wpG_mono hC g (fun _ _ q => wpB_mono b (d.loop hk) q) q) d.nx q) (fun _ _ q => d.ex _ _ _ q) q
  | .raise c es, _, _, _, _, d, q => wpEs_mono hC es (fun _ _ q => d.ex _ _ _ q) (fun _ _ q => d.ex _ _ _ q) q
  | .tri b hs, _, _, _, _, d, q => wpB_mono b (d.exc fun _ _ _ q => wpH_mono hs d q) q
  | .hnil, _, _, _, _, _, q => q.elim
  | .hcons _ _ _, _, _, _, _, _, q => q.elim
  | .pass, _, _, _, _, d, q => d.nx _ _ q
  | .brk, _, _, _, _, d, q => d.bk _ _ q
  | .cont, _, _, _, _, d, q => d.ct _ _ q
  | .nil, _, _, _, _, _, q => q.elim
  | .cons _ _, _, _, _, _, _, q => q.elim
theorem wpB_mono : ∀ (s : CS) {D D' : AEnds} {σ : AEnv} {h : AH}, DLe D D' → wpB C T sub s D σ h → wpB C T sub s D' σ h
  | .nil, _, _, _, _, d, q => d.nx _ _ q
  | .cons s r, _, _, _, _, d, q => wpS_mono s (d.seq fun _ _ q => wpB_mono r d q) q
  | .asg _ _, _, _, _, _, _, q => q.elim
  | .slc _ _, _, _, _, _, _, q => q.elim
  | .par _ _ _ _, _, _, _, _, _, q => q.elim
  | .par3 _ _ _ _ _ _, _, _, _, _, _, q => q.elim
  | .aug _ _ _, _, _, _, _, _, q => q.elim
  | .expr _, _, _, _, _, _, q => q.elim
  | .ret _, _, _, _, _, _, q => q.elim
  | .retN, _, _, _, _, _, q => q.elim
  | .iff _ _ _, _, _, _, _, _, q => q.elim
  | .whl _ _, _, _, _, _, _, q => q.elim
  | .forr _ _ _, _, _, _, _, _, q => q.elim
  | .raise _ _, _, _, _, _, _, q => q.elim
  | .tri _ _, _, _, _, _, _, q => q.elim
  | .hnil, _, _, _, _, _, q => q.elim
  | .hcons _ _ _, _, _, _, _, _, q => q.elim
  | .pass, _, _, _, _, _, q => q.elim
  | .brk, _, _, _, _, _, q => q.elim
  | .cont, _, _, _, _, _, q => q.elim
theorem wpH_mono : ∀ (s : CS) {x : AX} {D D' : AEnds} {σ : AEnv} {h : AH}, DLe D D' → wpH C T sub s x D σ h → wpH C T sub s x D' σ h
  | .hnil, _, _, _, _, _, d, q => d.ex _ _ _ q
  | .hcons c b r, x, _, _, _, _, d, q => by
    unfold wpH at q ⊢
    split
    · rename_i e
      rw [if_pos e] at q
      exact wpB_mono b (d.exc fun _ _ _ z => z) q
    · rename_i e
      rw [if_neg e] at q
      exact wpH_mono r d q
  | .asg _ _, _, _, _, _, _, _, q => q.elim
  | .slc _ _, _, _, _, _, _, _, q => q.elim
  | .par _ _ _ _, _, _, _, _, _, _, q => q.elim
  | .par3 _ _ _ _ _ _, _, _, _, _, _, _, q => q.elim
  | .aug _ _ _, _, _, _, _, _, _, q => q.elim
  | .expr _, _, _, _, _, _, _, q => q.elim
  | .ret _, _, _, _, _, _, _, q => q.elim
  | .retN, _, _, _, _, _, _, q => q.elim
  | .iff _ _ _, _, _, _, _, _, _, q => q.elim
  | .whl _ _, _, _, _, _, _, _, q => q.elim
  | .forr _ _ _, _, _, _, _, _, _, q => q.elim
  | .raise _ _, _, _, _, _, _, _, q => q.elim
  | .tri _ _, _, _, _, _, _, _, q => q.elim
  | .nil, _, _, _, _, _, _, q => q.elim
  | .cons _ _, _, _, _, _, _, _, q => q.elim
  | .pass, _, _, _, _, _, _, q => q.elim
  | .brk, _, _, _, _, _, _, q => q.elim
  | .cont, _, _, _, _, _, _, q => q.elim
end
end
theorem wpC_mono (G : Pg) : ∀ n : Nat, CMono (wpC G n)
  | 0, _, _, _, _, _, _, _, _, _, q => q.elim
  | n + 1, f, vs, h, Q, Q', E, E', hQ, hE, q => by
    obtain ⟨cf, e, l, q⟩ := q
    refine ⟨cf, e, l, wpB_mono (wpC_mono G n) cf.body ?_ q⟩
    exact DLe.mk (fun _ _ q => Shr.mono (fun _ q => hQ _ _ q) q) (fun _ _ q => Shr.mono (fun _ q => hQ _ _ q) q) (fun _ _ z => z) (fun _ _ z => z) (fun _ _ _ q => Shr.mono (fun _ q => hE _ _ q) q)
end PL

namespace PL
open PySem PySem.Spec PyProof.Rows L2

abbrev wd (X : Cx) (T : Tb) : Wd := ⟨X.prog, X.w, X.K, X.mg, X.base, T⟩
def cQ (W : Wd) (H : Hp) (Q : VK) : AQ := fun av h' => ∀ v H', TLe W.K H H' → RH W h' H' → Rep W.K H' av v → Q v H'
def cR2 (W : Wd) (r : AV → AV → AH → AQ → Prop) : R2 := fun x y H Q => ∃ ax ay h, RH W h H ∧ Rep W.K H ax x ∧ Rep W.K H ay y ∧ r ax ay h (cQ W H Q)
def cCmp (W : Wd) (r : AV → AV → AH → (Bool → Prop) → Prop) : R2 := fun x y H Q => ∃ ax ay h, RH W h H ∧ Rep W.K H ax x ∧ Rep W.K H ay y ∧ r ax ay h fun b => Q (.bl b) H

theorem cQ.here {W : Wd} {H : Hp} {Q : VK} {av : AV} {h : AH} {v : V} (q : cQ W H Q av h) (r : RH W h H) (e : Rep W.K H av v) : Q v H := q v H TLe.refl r e
theorem cQ.int {W : Wd} {H : Hp} {Q : VK} {i : Int} {h : AH} (q : cQ W H Q (.int i) h) (r : RH W h H) : Q (.int i) H := q.here r (rep_int.mpr rfl)
theorem cQ.bl {W : Wd} {H : Hp} {Q : VK} {i : Bool} {h : AH} (q : cQ W H Q (.bl i) h) (r : RH W h H) : Q (.bl i) H := q.here r (rep_bl.mpr rfl)
theorem cQ.str {W : Wd} {H : Hp} {Q : VK} {i : Str} {h : AH} (q : cQ W H Q (.str i) h) (r : RH W h H) : Q (.str i) H := q.here r (rep_str.mpr rfl)
theorem cQ.tupN {W : Wd} {H : Hp} {Q : VK} {xs : List AV} {vs : List V} {h : AH} {p : Addr} {o : Obj} (q : cQ W H Q (.tup xs) h) (r : RH W h H) (hp : H p = none) (ho : o.dict = none) (rs : Reps W.K H xs vs) : Q (.ref p) (upd H p (.frz o (.tup vs))) :=
  q _ _ (TLe.fresh hp) (r.fresh hp) (rep_tup.mpr ⟨p, vs, rfl, .inl ⟨o, ho, upd_same⟩, rs.mono (TLe.fresh hp)⟩)
theorem cQ.wtN {W : Wd} {H : Hp} {Q : VK} {xs : List AV} {vs : List V} {h : AH} {p : Addr} (q : cQ W H Q (.wt xs) h) (r : RH W h H) (hp : H p = none) (rs : Reps W.K H xs vs) : Q (.ref p) (upd H p (.tup vs)) :=
  q _ _ (TLe.fresh hp) (r.fresh hp) (rep_wt.mpr ⟨p, vs, rfl, .inl (.inl upd_same), rs.mono (TLe.fresh hp)⟩)
theorem cQ.lstN {W : Wd} {H : Hp} {Q : VK} {xs : List AV} {vs : List V} {h : AH} {p : Addr} (q : newL h xs (cQ W H Q)) (r : RH W h H) (hp : H p = none) (rs : Reps W.K H xs vs) : Q (.ref p) (upd H p (.lst vs)) :=
  q p (r.isNone hp) _ _ (TLe.fresh hp) (r.new hp (show RO W _ p (.lst xs) from ⟨vs, upd_same, rs.mono (TLe.fresh hp)⟩)) (rep_ref.mpr rfl)

theorem RH.lst {W : Wd} {h : AH} {H : Hp} (r : RH W h H) {a : Addr} {xs : List AV} (e : h a = some (.lst xs)) : ∃ vs, H a = some (.lst vs) ∧ Reps W.K H xs vs := r a _ e
theorem RH.dK {W : Wd} {h : AH} {H : Hp} (r : RH W h H) {a : Addr} {kvs : List (Key × AV)} (e : h a = some (.dK kvs)) : ∃ vs, H a = some (.dK ((kvs.map (·.1)).zip vs)) ∧ Reps W.K H (kvs.map (·.2)) vs := r a _ e

theorem flatten_rep {K : PySem.W.Frag} {H : Hp} {xs : List AV} {vs : List V} (h : Reps K H xs vs) : ∀ n : Nat, Reps K H (List.replicate n xs).flatten (List.replicate n vs).flatten
  | 0 => reps_nil.mpr rfl
  | n + 1 => by
    rw [List.replicate_succ, List.replicate_succ, List.flatten_cons, List.flatten_cons]
    exact h.append (flatten_rep h n)

section
variable {X : Cx} {T : Tb}
theorem o_add : OpR X (binaryOp .Add) (cR2 (wd X T) addR) := by
  intro pins s σ H x y v u Q I rx ry q
  obtain ⟨ax, ay, h, rh, r1, r2, q⟩ := q
  cases ax with
  | int i =>
    cases ay with
    | int j => exact op_add pins s σ H x y v u Q I rx ry ⟨i, j, rep_int.mp r1, rep_int.mp r2, cQ.int q rh⟩
    | _ => exact False.elim q
  | str i =>
    cases ay with
    | str j => exact op_add_str pins s σ H x y v u Q I rx ry ⟨i, j, rep_str.mp r1, rep_str.mp r2, q.1, cQ.str q.2 rh⟩
    | _ => exact False.elim q
  | tup xs =>
    cases ay with
    | tup ys =>
      obtain ⟨a, vs, e1, q1, k1⟩ := rep_tupT r1
      obtain ⟨b, ws, e2, q2, k2⟩ := rep_tupT r2
      obtain ⟨hl, q⟩ := (show xs.length + ys.length ≤ sizeLine ∧ cQ (wd X T) H Q (.tup (xs ++ ys)) h from q)
      refine op_catP pins s σ H x y v u Q I rx ry ⟨a, b, vs, ws, e1, e2, q1, q2, by rw [k1.length, k2.length]; exact hl, fun e => ?_, fun n1 e => ?_, fun n1 n2 p o hp ho => cQ.tupN q rh hp ho (k1.append k2)⟩
      · subst e
        have : xs = [] := List.eq_nil_of_length_eq_zero (by rw [← k1.length]; rfl)
        subst this
        rw [← e2]
        exact q.here rh r2
      · subst e
        have : ys = [] := List.eq_nil_of_length_eq_zero (by rw [← k2.length]; rfl)
        subst this
        rw [List.append_nil] at q
        rw [← e1]
        exact q.here rh r1
    | _ => exact False.elim q
  | ref a =>
    cases ay with
    | ref b =>
      obtain ⟨xs, ys, e1, e2, hl, q⟩ := (show ∃ xs ys, h a = some (.lst xs) ∧ h b = some (.lst ys) ∧ xs.length + ys.length ≤ sizeLine ∧ newL h (xs ++ ys) (cQ (wd X T) H Q) from q)
      obtain ⟨vs, h1, k1⟩ := rh.lst e1
      obtain ⟨ws, h2, k2⟩ := rh.lst e2
      exact op_cat pins s σ H x y v u Q I rx ry ⟨a, b, vs, ws, rep_ref.mp r1, rep_ref.mp r2, h1, h2, by rw [k1.length, k2.length]; exact hl, fun p hp => cQ.lstN q rh hp (k1.append k2)⟩
    | _ => exact False.elim q
  | _ => cases ay <;> exact False.elim q
theorem o_sub : OpR X (binaryOp .Sub) (cR2 (wd X T) subR) := by
  intro pins s σ H x y v u Q I rx ry q
  obtain ⟨ax, ay, h, rh, r1, r2, q⟩ := q
  cases ax with
  | int i =>
    cases ay with
    | int j => exact op_sub pins s σ H x y v u Q I rx ry ⟨i, j, rep_int.mp r1, rep_int.mp r2, cQ.int q rh⟩
    | _ => exact False.elim q
  | _ => cases ay <;> exact False.elim q
theorem o_mul : OpR X (binaryOp .Mult) (cR2 (wd X T) mulR) := by
  intro pins s σ H x y v u Q I rx ry q
  obtain ⟨ax, ay, h, rh, r1, r2, q⟩ := q
  cases ax with
  | int i =>
    cases ay with
    | int j => exact op_mulW pins s σ H x y v u Q I rx ry ⟨i, j, rep_int.mp r1, rep_int.mp r2, q.1, cQ.int q.2 rh⟩
    | _ => exact False.elim q
  | tup xs =>
    cases ay with
    | int k =>
      obtain ⟨a, vs, e1, q1, k1⟩ := rep_tupT r1
      obtain ⟨n1, n2, n3, n4, q⟩ := (show xs ≠ [] ∧ 2 ≤ k ∧ k ≤ 1000 ∧ xs.length ≤ 1000 ∧ cQ (wd X T) H Q (.wt (List.replicate k.toNat xs).flatten) h from q)
      refine op_repT pins s σ H x y v u Q I rx ry ⟨a, k, vs, e1, rep_int.mp r2, q1, fun e => ?_, n2, n3, by rw [k1.length]; exact n4, fun p hp => cQ.wtN q rh hp (flatten_rep k1 _)⟩
      subst e
      exact n1 (List.eq_nil_of_length_eq_zero (by rw [← k1.length]; rfl))
    | _ => exact False.elim q
  | ref a =>
    cases ay with
    | int k =>
      obtain ⟨xs, e1, n1, n2, n3, q⟩ := (show ∃ xs, h a = some (.lst xs) ∧ -(2 ^ 63) ≤ k ∧ k < 2 ^ 63 ∧ xs.length * k.toNat ≤ sizeLine ∧ newL h (List.replicate k.toNat xs).flatten (cQ (wd X T) H Q) from q)
      obtain ⟨vs, h1, k1⟩ := rh.lst e1
      exact op_rep pins s σ H x y v u Q I rx ry ⟨a, k, vs, rep_ref.mp r1, rep_int.mp r2, h1, n1, n2, by rw [k1.length]; exact n3, fun p hp => cQ.lstN q rh hp (flatten_rep k1 _)⟩
    | _ => exact False.elim q
  | _ => cases ay <;> exact False.elim q
theorem op_fdivG : OpR X (binaryOp .FloorDiv) (rI (fun _ j => j ≠ 0 ∧ j.natAbs.log2 < 9000) fun i j => .int (i.fdiv j)) := opI fun _ _ _ _ _ _ _ hc q => floordiv_int hc.1 q (.inl (PyProof.noPylong_of_log2 hc.2))
theorem o_fdiv : OpR X (binaryOp .FloorDiv) (cR2 (wd X T) fdivR) := by
  intro pins s σ H x y v u Q I rx ry q
  obtain ⟨ax, ay, h, rh, r1, r2, q⟩ := q
  cases ax with
  | int i =>
    cases ay with
    | int j => exact op_fdivG pins s σ H x y v u Q I rx ry ⟨i, j, rep_int.mp r1, rep_int.mp r2, q.1, cQ.int q.2 rh⟩
    | _ => exact False.elim q
  | _ => cases ay <;> exact False.elim q
theorem o_mod : OpR X (binaryOp .Mod) (cR2 (wd X T) modR) := by
  intro pins s σ H x y v u Q I rx ry q
  obtain ⟨ax, ay, h, rh, r1, r2, q⟩ := q
  cases ax with
  | int i =>
    cases ay with
    | int j => exact op_mod pins s σ H x y v u Q I rx ry ⟨i, j, rep_int.mp r1, rep_int.mp r2, q.1, cQ.int q.2 rh⟩
    | _ => exact False.elim q
  | _ => cases ay <;> exact False.elim q
theorem o_pow : OpR X (binaryOp .Pow) (cR2 (wd X T) powR) := by
  intro pins s σ H x y v u Q I rx ry q
  obtain ⟨ax, ay, h, rh, r1, r2, q⟩ := q
  cases ax with
  | int i =>
    cases ay with
    | int j => exact op_pow pins s σ H x y v u Q I rx ry ⟨i, j, rep_int.mp r1, rep_int.mp r2, q.1, cQ.int q.2 rh⟩
    | _ => exact False.elim q
  | _ => cases ay <;> exact False.elim q
def bopPy : BOp → Operator
  | .add => .Add | .sub => .Sub | .mul => .Mult | .fdiv => .FloorDiv | .mod => .Mod | .pow => .Pow
theorem o_bin (op : BOp) : OpR X (binaryOp (bopPy op)) (cR2 (wd X T) (binR op)) := by
  cases op
  · exact o_add
  · exact o_sub
  · exact o_mul
  · exact o_fdiv
  · exact o_mod
  · exact o_pow

mutual
def AV.pd : AV → PyData
  | .non => .none
  | .bl b => .bool b
  | .int i => .int i
  | .str x => .str x
  | .tup xs => .tuple (AV.pds xs)
  | .wt xs => .tuple (AV.pds xs)
  | .rl xs => .list (AV.pds xs)
  | .ref _ => .none
def AV.pds : List AV → List PyData
  | [] => []
  | x :: xs => AV.pd x :: AV.pds xs
end
mutual
theorem dp_of {K : PySem.W.Frag} {H : Hp} : ∀ {n : Nat} {x : AV} {v : V}, AV.flat n x = true → Rep K H x v → Dp K H v x.pd
  | _, .non, v, _, r => by rw [rep_non.mp r]; unfold AV.pd; exact .non
  | _, .bl b, v, _, r => by rw [rep_bl.mp r]; unfold AV.pd; exact .bl b
  | _, .int b, v, _, r => by rw [rep_int.mp r]; unfold AV.pd; exact .int b
  | _, .str b, v, _, r => by rw [rep_str.mp r]; unfold AV.pd; exact .str b
  | 0, .tup xs, v, f, r => by unfold AV.flat at f; cases f
  | n + 1, .tup xs, v, f, r => by
    obtain ⟨a, vs, rfl, q, k⟩ := rep_tupT r
    unfold AV.pd
    exact .tup q (dps_of (n := n) (by unfold AV.flat at f; exact f) k)
  | n, .wt xs, v, f, r => by cases n <;> (unfold AV.flat at f; cases f)
  | n, .rl xs, v, f, r => by cases n <;> (unfold AV.flat at f; cases f)
  | n, .ref a, v, f, r => by cases n <;> (unfold AV.flat at f; cases f)
theorem dps_of {K : PySem.W.Frag} {H : Hp} : ∀ {n : Nat} {xs : List AV} {vs : List V}, AV.flats n xs = true → Reps K H xs vs → DpAll K H vs (AV.pds xs)
  | _, [], vs, _, r => by rw [reps_nil.mp r]; unfold AV.pds; exact .nil
  | n, x :: xs, vs, f, r => by
    obtain ⟨v, w, rfl, a, b⟩ := reps_cons.mp r
    unfold AV.flats at f
    rw [Bool.and_eq_true] at f
    unfold AV.pds
    exact .cons (dp_of f.1 a) (dps_of f.2 b)
end
mutual
theorem eqv_pd : ∀ {n m : Nat} {x y : AV}, AV.flat n x = true → AV.flat m y = true → AV.eqv x y = PyData.eqv x.pd y.pd
  | n, m, .non, y, f, g => by cases y <;> first | rfl | (cases m <;> (unfold AV.flat at g; cases g))
  | n, m, .bl _, y, f, g => by cases y <;> first | rfl | (cases m <;> (unfold AV.flat at g; cases g))
  | n, m, .int _, y, f, g => by cases y <;> first | rfl | (cases m <;> (unfold AV.flat at g; cases g))
  | n, m, .str _, y, f, g => by cases y <;> first | rfl | (cases m <;> (unfold AV.flat at g; cases g))
  | 0, m, .tup xs, y, f, g => by unfold AV.flat at f; cases f
  | n + 1, m, .tup xs, y, f, g => by
    cases y with
    | tup ys =>
      cases m with
      | zero => unfold AV.flat at g; cases g
      | succ m =>
        unfold AV.flat at f g
        have h := eqvs_pd f g
        show AV.eqvs xs ys = PyData.eqvAll (AV.pds xs) (AV.pds ys)
        exact h
    | wt ys => cases m <;> (unfold AV.flat at g; cases g)
    | rl ys => cases m <;> (unfold AV.flat at g; cases g)
    | ref a => cases m <;> (unfold AV.flat at g; cases g)
    | _ => rfl
  | n, m, .wt _, y, f, g => by cases n <;> (unfold AV.flat at f; cases f)
  | n, m, .rl _, y, f, g => by cases n <;> (unfold AV.flat at f; cases f)
  | n, m, .ref _, y, f, g => by cases n <;> (unfold AV.flat at f; cases f)
theorem eqvs_pd : ∀ {n m : Nat} {xs ys : List AV}, AV.flats n xs = true → AV.flats m ys = true → AV.eqvs xs ys = PyData.eqvAll (AV.pds xs) (AV.pds ys)
  | _, _, [], ys, _, _ => by cases ys <;> rfl
  | n, m, x :: xs, [], _, _ => rfl
  | n, m, x :: xs, y :: ys, f, g => by
    unfold AV.flats at f g
    rw [Bool.and_eq_true] at f g
    show (AV.eqv x y && AV.eqvs xs ys) = (PyData.eqv x.pd y.pd && PyData.eqvAll (AV.pds xs) (AV.pds ys))
    rw [eqv_pd f.1 g.1, eqvs_pd f.2 g.2]
end
mutual
theorem canLay_pd : ∀ {n : Nat} {x : AV}, AV.flat n x = true → x.pd.canLay0 = true ∧ x.pd.depth ≤ n + 1
  | n, .non, _ => by unfold AV.pd; exact ⟨by simp [PyData.canLay0], by simp [PyData.depth]⟩
  | n, .bl _, _ => by unfold AV.pd; exact ⟨by simp [PyData.canLay0], by simp [PyData.depth]⟩
  | n, .int _, _ => by unfold AV.pd; exact ⟨by simp [PyData.canLay0], by simp [PyData.depth]⟩
  | n, .str _, f => by unfold AV.pd; exact ⟨by simp only [PyData.canLay0]; cases n <;> (unfold AV.flat at f; exact f), by simp [PyData.depth]⟩
  | 0, .tup xs, f => by unfold AV.flat at f; cases f
  | n + 1, .tup xs, f => by
    unfold AV.flat at f
    have h := canLays_pd f
    unfold AV.pd
    exact ⟨by simp only [PyData.canLay0]; exact h.1, by simp only [PyData.depth]; have := h.2; omega⟩
  | n, .rl _, f => by cases n <;> (unfold AV.flat at f; cases f)
  | n, .ref _, f => by cases n <;> (unfold AV.flat at f; cases f)
theorem canLays_pd : ∀ {n : Nat} {xs : List AV}, AV.flats n xs = true → PyData.canLayAll0 (AV.pds xs) = true ∧ PyData.depthAll (AV.pds xs) ≤ n + 1
  | n, [], _ => by unfold AV.pds; exact ⟨by simp [PyData.canLayAll0], by simp [PyData.depthAll]⟩
  | n, x :: xs, f => by
    unfold AV.flats at f
    rw [Bool.and_eq_true] at f
    have h1 := canLay_pd f.1
    have h2 := canLays_pd f.2
    unfold AV.pds
    exact ⟨by simp only [PyData.canLayAll0, Bool.and_eq_true]; exact ⟨h1.1, h2.1⟩, by simp only [PyData.depthAll]; omega⟩
end
end
end PL

namespace PL
open PySem PySem.Spec PyProof.Rows L2
section
variable {X : Cx} {T : Tb}
theorem shaped_pd {x : AV} (h : AV.flat 50 x = true) : SeqAt.shaped x.pd = true := by
  obtain ⟨a, b⟩ := canLay_pd h
  unfold SeqAt.shaped
  rw [a, Bool.true_and, decide_eq_true_eq]
  omega
theorem shapedL_pd {xs : List AV} (h : AV.flats 50 xs = true) : SeqAt.shaped (.list (AV.pds xs)) = true := by
  obtain ⟨a, b⟩ := canLays_pd h
  unfold SeqAt.shaped
  have e : (PyData.list (AV.pds xs)).canLay0 = true := by simp only [PyData.canLay0]; exact a
  have d : (PyData.list (AV.pds xs)).depth = PyData.depthAll (AV.pds xs) + 1 := by simp only [PyData.depth]
  rw [e, d, Bool.true_and, decide_eq_true_eq]
  omega
theorem eq_data {H : Hp} {h : AH} {ax ay : AV} {x y : V} {Q : Bool → Prop} (rh : RH (wd X T) h H) (r1 : Rep X.K H ax x) (r2 : Rep X.K H ay y) (q : eqR ax ay h Q) :
    ∃ d e, Dp X.K H x d ∧ Dp X.K H y e ∧ SeqAt.shaped d = true ∧ SeqAt.shaped e = true ∧ Q (PyData.eqv d e) := by
  have go : AV.flat 50 ax = true ∧ AV.flat 50 ay = true ∧ Q (AV.eqv ax ay) → ∃ d e, Dp X.K H x d ∧ Dp X.K H y e ∧ SeqAt.shaped d = true ∧ SeqAt.shaped e = true ∧ Q (PyData.eqv d e) := fun ⟨f, g, q⟩ =>
    ⟨_, _, dp_of f r1, dp_of g r2, shaped_pd f, shaped_pd g, by rw [← eqv_pd f g]; exact q⟩
  cases ax with
  | ref a =>
    cases ay with
    | ref b =>
      obtain ⟨xs, ys, e1, e2, f, g, q⟩ := q
      obtain ⟨vs, h1, k1⟩ := rh.lst e1
      obtain ⟨ws, h2, k2⟩ := rh.lst e2
      refine ⟨.list (AV.pds xs), .list (AV.pds ys), ?_, ?_, shapedL_pd f, shapedL_pd g, ?_⟩
      · rw [rep_ref.mp r1]; exact .lst (SqL.of h1) (dps_of f k1)
      · rw [rep_ref.mp r2]; exact .lst (SqL.of h2) (dps_of g k2)
      · have e : PyData.eqv (.list (AV.pds xs)) (.list (AV.pds ys)) = PyData.eqvAll (AV.pds xs) (AV.pds ys) := by simp only [PyData.eqv]
        rw [e, ← eqvs_pd f g]; exact q
    | _ => exact go q
  | _ => exact go q
theorem o_eq (hu : X.A.units + 64 < cLine) : OpR X (compareOp .Eq) (cCmp (wd X T) eqR) := by
  intro pins s σ H x y v u Q I rx ry q
  obtain ⟨ax, ay, h, rh, r1, r2, q⟩ := q
  obtain ⟨d, e, a⟩ := eq_data rh r1 r2 q
  exact op_eqD hu pins s σ H x y v u Q I rx ry ⟨d, e, a⟩
theorem o_ne (hu : X.A.units + 64 < cLine) : OpR X (compareOp .NotEq) (cCmp (wd X T) fun x y h Q => eqR x y h fun b => Q (!b)) := by
  intro pins s σ H x y v u Q I rx ry q
  obtain ⟨ax, ay, h, rh, r1, r2, q⟩ := q
  obtain ⟨d, e, a⟩ := eq_data rh r1 r2 q
  exact op_neD hu pins s σ H x y v u Q I rx ry ⟨d, e, a⟩
theorem o_lt : OpR X (compareOp .Lt) (cCmp (wd X T) fun x y _ Q => ltR x y Q) := by
  intro pins s σ H x y v u Q I rx ry q
  obtain ⟨ax, ay, h, rh, r1, r2, q⟩ := q
  cases ax with
  | int i =>
    cases ay with
    | int j => exact op_lt pins s σ H x y v u Q I rx ry ⟨i, j, rep_int.mp r1, rep_int.mp r2, q⟩
    | _ => exact False.elim q
  | str i =>
    cases ay with
    | str j => exact op_lt_str pins s σ H x y v u Q I rx ry ⟨i, j, rep_str.mp r1, rep_str.mp r2, q⟩
    | _ => exact False.elim q
  | _ => cases ay <;> exact False.elim q
theorem o_le : OpR X (compareOp .LtE) (cCmp (wd X T) fun x y _ Q => leR x y Q) := by
  intro pins s σ H x y v u Q I rx ry q
  obtain ⟨ax, ay, h, rh, r1, r2, q⟩ := q
  cases ax with
  | int i =>
    cases ay with
    | int j => exact op_le pins s σ H x y v u Q I rx ry ⟨i, j, rep_int.mp r1, rep_int.mp r2, q⟩
    | _ => exact False.elim q
  | _ => cases ay <;> exact False.elim q
theorem o_gt : OpR X (compareOp .Gt) (cCmp (wd X T) fun x y _ Q => gtR x y Q) := by
  intro pins s σ H x y v u Q I rx ry q
  obtain ⟨ax, ay, h, rh, r1, r2, q⟩ := q
  cases ax with
  | int i =>
    cases ay with
    | int j => exact op_gt pins s σ H x y v u Q I rx ry ⟨i, j, rep_int.mp r1, rep_int.mp r2, q⟩
    | _ => exact False.elim q
  | _ => cases ay <;> exact False.elim q
theorem o_ge : OpR X (compareOp .GtE) (cCmp (wd X T) fun x y _ Q => geR x y Q) := by
  intro pins s σ H x y v u Q I rx ry q
  obtain ⟨ax, ay, h, rh, r1, r2, q⟩ := q
  cases ax with
  | int i =>
    cases ay with
    | int j => exact op_ge pins s σ H x y v u Q I rx ry ⟨i, j, rep_int.mp r1, rep_int.mp r2, q⟩
    | _ => exact False.elim q
  | _ => cases ay <;> exact False.elim q
theorem is_data {H : Hp} {ax ay : AV} {x y : V} {Q : Bool → Prop} (r1 : Rep X.K H ax x) (r2 : Rep X.K H ay y) (q : isR ax ay Q) :
    (y = .non ∧ Q (decide (x = .non))) ∨ ∃ a b, x = .bl a ∧ y = .bl b ∧ Q (decide (a = b)) := by
  cases ay with
  | non =>
    refine .inl ⟨rep_non.mp r2, ?_⟩
    cases ax with
    | non => rw [rep_non.mp r1]; exact q
    | bl _ => rw [rep_bl.mp r1]; exact q
    | int _ => rw [rep_int.mp r1]; exact q
    | str _ => rw [rep_str.mp r1]; exact q
    | ref _ => rw [rep_ref.mp r1]; exact q
    | tup _ => obtain ⟨a, _, rfl, _⟩ := rep_tupT r1; exact q
    | wt _ => obtain ⟨a, _, rfl, _⟩ := rep_wt.mp r1; exact q
    | rl _ => obtain ⟨a, _, rfl, _⟩ := rep_rl.mp r1; exact q
  | bl b =>
    cases ax with
    | bl a => exact .inr ⟨a, b, rep_bl.mp r1, rep_bl.mp r2, q⟩
    | _ => exact False.elim q
  | _ => cases ax <;> exact False.elim q
theorem o_is : OpR X (compareOp .Is) (cCmp (wd X T) fun x y _ Q => isR x y Q) := by
  intro pins s σ H x y v u Q I rx ry q
  obtain ⟨ax, ay, h, rh, r1, r2, q⟩ := q
  rcases is_data r1 r2 q with q | q
  · exact op_isN pins s σ H x y v u Q I rx ry q
  · exact op_is_bl pins s σ H x y v u Q I rx ry q
theorem o_isnot : OpR X (compareOp .IsNot) (cCmp (wd X T) fun x y _ Q => isR x y fun b => Q (!b)) := by
  intro pins s σ H x y v u Q I rx ry q
  obtain ⟨ax, ay, h, rh, r1, r2, q⟩ := q
  rcases is_data r1 r2 q with q | q
  · exact op_notN pins s σ H x y v u Q I rx ry q
  · exact op_isnot_bl pins s σ H x y v u Q I rx ry q
theorem scal_rep {K : PySem.W.Frag} {H : Hp} {x : AV} {v : V} (f : x.scal = true) (r : Rep K H x v) : flatV v = true ∧ ∀ {y : AV} {w : V}, y.scal = true → Rep K H y w → eqV w v = AV.eqv y x := by
  cases x with
  | non => rw [rep_non.mp r]; refine ⟨rfl, fun {y w} g r' => ?_⟩; cases y <;> first | (rw [rep_non.mp r'] <;> rfl) | (rw [rep_bl.mp r'] <;> rfl) | (rw [rep_int.mp r'] <;> rfl) | (rw [rep_str.mp r'] <;> rfl) | cases g
  | bl _ => rw [rep_bl.mp r]; refine ⟨rfl, fun {y w} g r' => ?_⟩; cases y <;> first | (rw [rep_non.mp r'] <;> rfl) | (rw [rep_bl.mp r'] <;> rfl) | (rw [rep_int.mp r'] <;> rfl) | (rw [rep_str.mp r'] <;> rfl) | cases g
  | int _ => rw [rep_int.mp r]; refine ⟨rfl, fun {y w} g r' => ?_⟩; cases y <;> first | (rw [rep_non.mp r'] <;> rfl) | (rw [rep_bl.mp r'] <;> rfl) | (rw [rep_int.mp r'] <;> rfl) | (rw [rep_str.mp r'] <;> rfl) | cases g
  | str _ => rw [rep_str.mp r]; refine ⟨rfl, fun {y w} g r' => ?_⟩; cases y <;> first | (rw [rep_non.mp r'] <;> rfl) | (rw [rep_bl.mp r'] <;> rfl) | (rw [rep_int.mp r'] <;> rfl) | (rw [rep_str.mp r'] <;> rfl) | cases g
  | _ => cases f
theorem scals_rep {K : PySem.W.Frag} {H : Hp} {x : AV} {v : V} (f : x.scal = true) (r : Rep K H x v) : ∀ {ys : List AV} {ws : List V}, ys.all AV.scal = true → Reps K H ys ws → ws.all flatV = true ∧ inV v ws = anyEq x ys
  | [], ws, _, k => by rw [reps_nil.mp k]; exact ⟨rfl, rfl⟩
  | y :: ys, ws, g, k => by
    obtain ⟨w, r', rfl, a, b⟩ := reps_cons.mp k
    rw [List.all_cons, Bool.and_eq_true] at g
    obtain ⟨h1, h2⟩ := scals_rep f r g.2 b
    refine ⟨?_, ?_⟩
    · rw [List.all_cons, (scal_rep g.1 a).1, h1]; rfl
    · show (eqV w v || inV v r') = (AV.eqv y x || anyEq x ys)
      rw [(scal_rep f r).2 g.1 a, h2]
theorem key_rep {K : PySem.W.Frag} {H : Hp} {x : AV} {v : V} {k : Key} (e : x.toKey = some k) (r : Rep K H x v) : v = kV k := by
  cases x with
  | int i => cases e; exact rep_int.mp r
  | str i => cases e; exact rep_str.mp r
  | _ => cases e
theorem dget_rel {K : PySem.W.Frag} {H : Hp} (k : Key) : ∀ {kvs : List (Key × AV)} {vs : List V}, Reps K H (kvs.map (·.2)) vs →
    (dget kvs k = none ∧ valV ((kvs.map (·.1)).zip vs) k = none) ∨ ∃ x v, dget kvs k = some x ∧ valV ((kvs.map (·.1)).zip vs) k = some v ∧ Rep K H x v
  | [], vs, h => by rw [reps_nil.mp h]; exact .inl ⟨rfl, rfl⟩
  | (k0, x0) :: r, vs, h => by
    obtain ⟨w, ws, rfl, a, b⟩ := reps_cons.mp h
    by_cases e : k0 = k
    · refine .inr ⟨x0, w, ?_, valV_pos e, a⟩
      unfold dget; simp [List.find?_cons, e]
    · have e1 : dget ((k0, x0) :: r) k = dget r k := by unfold dget; simp [List.find?_cons, e]
      have e2 : valV ((((k0, x0) :: r).map (·.1)).zip (w :: ws)) k = valV ((r.map (·.1)).zip ws) k := valV_neg (p := (k0, w)) e
      rw [e1, e2]
      exact dget_rel k b
theorem zip_any (k : Key) : ∀ {kvs : List (Key × AV)} {vs : List V}, vs.length = kvs.length → (((kvs.map (·.1)).zip vs).any fun kv => decide (kv.1 = k)) = (kvs.any fun kv => decide (kv.1 = k))
  | [], _, _ => rfl
  | p :: r, [], h => by cases h
  | p :: r, v :: vs, h => by
    show (decide (p.1 = k) || ((r.map (·.1)).zip vs).any _) = (decide (p.1 = k) || r.any _)
    rw [zip_any k (kvs := r) (vs := vs) (by simpa using h)]
theorem dput_rel {K : PySem.W.Frag} {H : Hp} {k : Key} {x : AV} {v : V} (hx : Rep K H x v) {kvs : List (Key × AV)} {vs : List V} (h : Reps K H (kvs.map (·.2)) vs) :
    ∃ ws, putK ((kvs.map (·.1)).zip vs) k v = ((dput kvs k x).map (·.1)).zip ws ∧ Reps K H ((dput kvs k x).map (·.2)) ws := by
  have hl : vs.length = kvs.length := by rw [h.length, List.length_map]
  unfold putK dput
  rw [zip_any k hl]
  split
  · have go : ∀ {kvs : List (Key × AV)} {vs : List V}, Reps K H (kvs.map (·.2)) vs → ∃ ws, ((kvs.map (·.1)).zip vs).map (fun kv => if kv.1 = k then (kv.1, v) else kv) = ((kvs.map fun kv => if kv.1 = k then (kv.1, x) else kv).map (·.1)).zip ws ∧
        Reps K H ((kvs.map fun kv => if kv.1 = k then (kv.1, x) else kv).map (·.2)) ws := by
      intro kvs
      induction kvs with
      | nil => intro vs h; exact ⟨[], rfl, reps_nil.mpr rfl⟩
      | cons p r ih =>
        intro vs h
        obtain ⟨w, ws, rfl, a, b⟩ := reps_cons.mp h
        obtain ⟨zs, e, q⟩ := ih b
        by_cases ek : p.1 = k
        · refine ⟨v :: zs, ?_, ?_⟩
          · simp only [List.map_cons, List.zip_cons_cons, if_pos ek]; rw [e]
          · simp only [List.map_cons, if_pos ek]; exact reps_cons.mpr ⟨v, zs, rfl, hx, q⟩
        · refine ⟨w :: zs, ?_, ?_⟩
          · simp only [List.map_cons, List.zip_cons_cons, if_neg ek]; rw [e]
          · simp only [List.map_cons, if_neg ek]; exact reps_cons.mpr ⟨w, zs, rfl, a, q⟩
    exact go h
  · refine ⟨vs ++ [v], ?_, ?_⟩
    · rw [List.map_append, List.zip_append (by rw [List.length_map, hl])]
      rfl
    · rw [List.map_append]
      exact h.append (Reps.one hx)
theorem in_data {H : Hp} {h : AH} {ax ay : AV} {x y : V} {Q : Bool → Prop} (rh : RH (wd X T) h H) (r1 : Rep X.K H ax x) (r2 : Rep X.K H ay y) (q : inR ax ay h Q) :
    (∃ p xs, y = .ref p ∧ (SqL X.K H p xs ∨ SqT X.K H p xs) ∧ flatV x = true ∧ xs.all flatV = true ∧ Q (inV x xs)) ∨ (∃ (c : Nat) (z : Str), x = .str ⟨#[c]⟩ ∧ y = .str z ∧ Q (decide (c ∈ z.cps.toList))) ∨ (∃ a o, y = .ref a ∧ DGet H a x o ∧ Q o.isSome) := by
  cases ay with
  | tup ys =>
    obtain ⟨f, g, q⟩ := q
    obtain ⟨a, vs, rfl, t, k⟩ := rep_tupT r2
    obtain ⟨k1, k2⟩ := scals_rep f r1 g k
    exact .inl ⟨a, vs, rfl, .inr t, (scal_rep f r1).1, k1, by rw [k2]; exact q⟩
  | str z =>
    cases ax with
    | str y =>
      obtain ⟨c, rfl, q⟩ := q
      exact .inr (.inl ⟨c, z, rep_str.mp r1, rep_str.mp r2, q⟩)
    | _ => exact False.elim q
  | ref a =>
    rcases q with ⟨ys, e, f, g, q⟩ | ⟨kvs, k, e, ek, q⟩
    · obtain ⟨vs, h1, k⟩ := rh.lst e
      obtain ⟨k1, k2⟩ := scals_rep f r1 g k
      exact .inl ⟨a, vs, rep_ref.mp r2, .inl (SqL.of h1), (scal_rep f r1).1, k1, by rw [k2]; exact q⟩
    · obtain ⟨vs, h1, h2⟩ := rh.dK e
      have ex := key_rep ek r1
      refine .inr (.inr ⟨a, valV ((kvs.map (·.1)).zip vs) k, rep_ref.mp r2, by rw [ex]; exact DGet.k h1, ?_⟩)
      rcases dget_rel k h2 with ⟨e1, e2⟩ | ⟨_, _, e1, e2, _⟩
      · rw [e2]; rw [e1] at q; exact q
      · rw [e2]; rw [e1] at q; exact q
  | _ => exact False.elim q
theorem o_in (hu : X.A.units + 1 < cLine) : OpR X (compareOp .In) (cCmp (wd X T) inR) := by
  intro pins s σ H x y v u Q I rx ry q
  obtain ⟨ax, ay, h, rh, r1, r2, q⟩ := q
  rcases in_data rh r1 r2 q with q | q | ⟨a, o, ey, g, q⟩
  · exact op_in_seq pins s σ H x y v u Q I rx ry q
  · exact op_in_sign pins s σ H x y v u Q I rx ry q
  · subst ey
    cases (show u = Value.ref a from ry)
    exact d_in hu I g rx fun s' I' => ⟨.bl _, H, I', rfl, q⟩
theorem o_notin (hu : X.A.units + 1 < cLine) : OpR X (compareOp .NotIn) (cCmp (wd X T) fun x y h Q => inR x y h fun b => Q (!b)) := by
  intro pins s σ H x y v u Q I rx ry q
  obtain ⟨ax, ay, h, rh, r1, r2, q⟩ := q
  rcases in_data rh r1 r2 q with q | q | ⟨a, o, ey, g, q⟩
  · exact op_notIn_seq pins s σ H x y v u Q I rx ry q
  · exact op_notIn_sign pins s σ H x y v u Q I rx ry q
  · subst ey
    cases (show u = Value.ref a from ry)
    exact d_notIn hu I g rx fun s' I' => ⟨.bl _, H, I', rfl, q⟩
def copPy : COp → CmpOp
  | .eq => .Eq | .ne => .NotEq | .lt => .Lt | .le => .LtE | .gt => .Gt | .ge => .GtE | .is => .Is | .isnot => .IsNot | .inn => .In | .notin => .NotIn
theorem o_cmp (hu : X.A.units + 64 < cLine) (op : COp) : OpR X (compareOp (copPy op)) (cCmp (wd X T) (cmpR op)) := by
  have h1 : X.A.units + 1 < cLine := by omega
  cases op
  · exact o_eq hu
  · exact o_ne hu
  · exact o_lt
  · exact o_le
  · exact o_gt
  · exact o_ge
  · exact o_is
  · exact o_isnot
  · exact o_in h1
  · exact o_notin h1

theorem tru_data {H : Hp} {h : AH} {ax : AV} {x : V} {Q : Bool → Prop} (rh : RH (wd X T) h H) (r : Rep X.K H ax x) (q : truR ax h Q) : ∃ k, TruV X.K x H k ∧ Q k := by
  cases ax with
  | non => rw [rep_non.mp r]; exact ⟨_, rfl, q⟩
  | bl b => rw [rep_bl.mp r]; exact ⟨_, rfl, q⟩
  | int i => rw [rep_int.mp r]; exact ⟨_, rfl, q⟩
  | tup xs =>
    obtain ⟨a, vs, rfl, t, k⟩ := rep_tupT r
    refine ⟨!xs.isEmpty, .inr (.inl ⟨vs, t, ?_⟩), q⟩
    have := k.length
    cases xs <;> cases vs <;> simp_all
  | ref a =>
    obtain ⟨xs, e, q⟩ := q
    obtain ⟨vs, h1, k⟩ := rh.lst e
    rw [rep_ref.mp r]
    refine ⟨!xs.isEmpty, .inl ⟨vs, SqL.of h1, ?_⟩, q⟩
    have := k.length
    cases xs <;> cases vs <;> simp_all
  | _ => exact False.elim q

theorem atI_eq {xs : List AV} {vs : List V} {K : PySem.W.Frag} {H : Hp} {i : Int} {x : AV} (k : Reps K H xs vs) (e : PL.atI xs i = some x) : ∃ v, L2.atI vs i = some v ∧ Rep K H x v := by
  have hl := k.length
  unfold PL.atI at e
  unfold L2.atI ixN
  by_cases h0 : 0 ≤ i
  · rw [if_pos h0] at e ⊢
    have hi : i.toNat < xs.length := (List.getElem?_eq_some_iff.mp e).1
    rw [if_pos (by omega)]
    obtain ⟨v, e1, r⟩ := k.get e
    exact ⟨v, e1, r⟩
  · rw [if_neg h0] at e ⊢
    by_cases h1 : -(xs.length : Int) ≤ i
    · rw [if_pos h1] at e
      rw [if_pos (by omega)]
      obtain ⟨v, e1, r⟩ := k.get e
      refine ⟨v, ?_, r⟩
      show vs[(i + (vs.length : Int)).toNat]? = some v
      rw [hl, Int.add_comm]
      exact e1
    · rw [if_neg h1] at e; cases e
theorem x_ix (hu : X.A.units + 1 < cLine) : IxR X (cR2 (wd X T) ixR) := by
  intro value slice pins s σ H x y v u Q I rx ry q hs
  obtain ⟨ax, ay, h, rh, r1, r2, q⟩ := q
  cases ax with
  | tup xs =>
    cases ay with
    | int i =>
      obtain ⟨w, e, q⟩ := q
      obtain ⟨a, vs, ex, t, k⟩ := rep_tupT r1
      obtain ⟨z, e1, rz⟩ := atI_eq k e
      exact ix_tup value slice pins s σ H x y v u Q I rx ry ⟨a, vs, i, z, ex, rep_int.mp r2, t, e1, q.here rh rz⟩ hs
    | _ => exact False.elim q
  | rl xs =>
    cases ay with
    | int i =>
      obtain ⟨w, e, q⟩ := q
      obtain ⟨a, vs, ex, t, k⟩ := rep_rl.mp r1
      obtain ⟨z, e1, rz⟩ := atI_eq k e
      exact ix_list value slice pins s σ H x y v u Q I rx ry ⟨a, vs, i, z, ex, rep_int.mp r2, t.sq, e1, q.here rh rz⟩ hs
    | _ => exact False.elim q
  | str z =>
    cases ay with
    | int i =>
      obtain ⟨hl, c, e, q⟩ := q
      exact ix_str value slice pins s σ H x y v u Q I rx ry ⟨z, i, c, rep_str.mp r1, rep_int.mp r2, hl, e, q.here rh (rep_str.mpr rfl)⟩ hs
    | _ => exact False.elim q
  | ref a =>
    rcases q with ⟨xs, i, w, rfl, e1, e, q⟩ | ⟨kvs, k, w, ek, e1, e, q⟩
    · obtain ⟨vs, h1, k⟩ := rh.lst e1
      obtain ⟨z, e2, rz⟩ := atI_eq k e
      exact ix_list value slice pins s σ H x y v u Q I rx ry ⟨a, vs, i, z, rep_ref.mp r1, rep_int.mp r2, SqL.of h1, e2, q.here rh rz⟩ hs
    · obtain ⟨vs, h1, h2⟩ := rh.dK e1
      have ex := key_rep ek r2
      rcases dget_rel k h2 with ⟨e3, _⟩ | ⟨x', z, e3, e4, rz⟩
      · rw [e3] at e; cases e
      · rw [e3] at e; cases e
        have exr := rep_ref.mp r1
        subst exr
        cases (show v = Value.ref a from rx)
        have g : DGet H a y (some z) := by rw [ex, ← e4]; exact DGet.k h1
        refine tail_any (dict_typeIs I g) PySem.F.slot_dict_getitem.lookup (d_getItem hu I g ry fun w' s' I' rw' => ⟨z, H, I', rw', q.here rh rz⟩) hs
  | _ => exact False.elim q
end
end PL

namespace SrtO
open PySem PySem.Spec PyProof.Rows PySem.Calls
def sB (a b : PySem.Str) : Bool := decide (a.cps.toList < b.cps.toList)
theorem sB_no {a b : PySem.Str} : sB a b = false ↔ b.cps.toList ≤ a.cps.toList := by
  unfold sB
  rw [decide_eq_false_iff_not, List.not_lt]
theorem swo_s {α : Type} (k : α → PySem.Str) : Swo fun v u => sB (k v) (k u) := by
  refine ⟨fun x y h => ?_, fun x y z h1 h2 => ?_⟩
  · refine sB_no.mpr ?_
    exact List.le_of_lt (of_decide_eq_true h)
  · exact sB_no.mpr (List.le_trans (sB_no.mp h1) (sB_no.mp h2))
def IsSP (h : Heap) (v : Value) (x : PySem.Str) : Prop := ∃ a o t xs n, v = .ref a ∧ h.get? a = some o ∧ o.cls = .type "tuple" ∧ o.data = .seq (⟨.str x t :: xs⟩ : Array Value) n ∧ xs.length = 1
theorem IsSP.keeps {h h' : Heap} {v : Value} {x : PySem.Str} (p : IsSP h v x) (k : ∀ b o, h.get? b = some o → o.cls = .type "tuple" → h'.get? b = some o) : IsSP h' v x := by
  obtain ⟨a, o, t, xs, n, e, ho, hc, hd⟩ := p
  exact ⟨a, o, t, xs, n, e, k a o ho hc, hc, hd⟩
theorem firsts_s {h : Heap} : ∀ {vs : List Value}, (∀ v ∈ vs, ∃ x, IsSP h v x) → ∃ fs : List Value, PySem.W.KatTups h vs fs ∧ fs.length = vs.length ∧ ∀ f ∈ fs, ∃ x t, f = Value.str x t
  | [], _ => ⟨[], PySem.W.KatTups.nil, rfl, fun _ hm => by simp at hm⟩
  | v :: vs, hp => by
    obtain ⟨fs, h1, h2, h3⟩ := firsts_s (vs := vs) fun v' hm => hp v' (List.mem_cons_of_mem _ hm)
    obtain ⟨x, a, o, t, xs, n, e, ho, hc, hd, _⟩ := hp v (List.mem_cons_self ..)
    subst e
    refine ⟨.str x t :: fs, PySem.W.KatTups.cons ho hc hd rfl h1, by rw [List.length_cons, List.length_cons, h2], fun f hm => ?_⟩
    rcases List.mem_cons.mp hm with rfl | hm
    · exact ⟨x, t, rfl⟩
    · exact h3 f hm
section
variable {prog : Program} {w : World} {A : Around} {E : Value → Shared → Prop} {s : Shared}
theorem sp_cmp {vs : List Value} {k : Value → PySem.Str} (hp : ∀ v ∈ vs, IsSP s.heap v (k v)) (hu : ∀ v ∈ vs, ∀ u ∈ vs, k v = k u → v = u) : Cmp prog w A s (tuples' true) (fun p => p.1 ∈ vs) (lt2 fun v u => sB (k v) (k u)) := by
  intro p q hm hm'
  show wpAny (model prog w) A (keyLt' (tuples' true) p.1 q.1) (fun r s' => s' = s ∧ r = sB (k p.1) (k q.1)) (fun _ _ => False) s
  have h1 := hp _ hm
  have h2 := hp _ hm'
  by_cases ek : k p.1 = k q.1
  · have e := hu _ hm _ hm' ek
    rw [← e]
    obtain ⟨a, o, t, xs, n, e, ho, hc, hd, hx⟩ := h1
    rw [e]
    refine PySem.W.kat_lt ho hd ho hd ?_
    obtain ⟨y, rfl⟩ : ∃ y, xs = [y] := List.length_eq_one_iff.mp hx
    show PySem.W.KatLex prog w A true _ _ [(.str _ t, .str _ t), (y, y)] 0 s
    refine PySem.W.kat_cons (SeqAt.EqAt.same _ prog w _ _ ?_)
    refine PySem.W.kat_go (fun _ => ?_) (fun e1 => by cases e1)
    refine PySem.W.kat_yes (PySem.W.kat_cons (SeqAt.EqAt.same _ prog w _ _ ?_))
    refine PySem.W.kat_go (fun _ => ?_) (fun e1 => by cases e1)
    refine PySem.W.kat_yes (PySem.W.kat_nil ⟨rfl, ?_⟩)
    rw [← e, (swo_s k).refl]
    simp
  · generalize k p.1 = x at h1 ek ⊢
    generalize k q.1 = x' at h2 ek ⊢
    obtain ⟨a, o, t, xs, n, e, ho, hc, hd, hx⟩ := h1
    obtain ⟨a', o', t', xs', n', e', ho', hc', hd', hx'⟩ := h2
    rw [e, e']
    refine PySem.W.kat_lt ho hd ho' hd' ?_
    show PySem.W.KatLex prog w A true _ _ ((.str x t, .str x' t') :: xs.zip xs') 0 s
    refine PySem.W.kat_cons (SeqAt.EqAt.str_str x t x' t' prog w _ _ ?_)
    refine PySem.W.kat_go (fun e1 => absurd (by simpa using e1) ek) (fun e1 => ?_)
    exact PySem.W.kat_no (oneLt_str ⟨rfl, rfl⟩)
theorem sp_sortable {a : Addr} {vs : List Value} {k : Value → PySem.Str} (h0 : 0 < vs.length) (hp : ∀ v ∈ vs, IsSP s.heap v (k v)) (hu : ∀ v ∈ vs, ∀ u ∈ vs, k v = k u → v = u) (ha : ∀ o, s.heap.get? a = some o → o.cls ≠ .type "tuple") : SortableO prog w A s a vs fun v u => sB (k v) (k u) := by
  intro h' keep
  have hp' : ∀ v ∈ vs, IsSP h' v (k v) := fun v hm => (hp v hm).keeps fun b o e c => keep b o (fun z => by subst z; exact ha o e c) e
  obtain ⟨fs, h1, h2, h3⟩ := firsts_s fun v hm => ⟨_, hp' v hm⟩
  refine ⟨tuples' true, fun Q E hq => ?_, sp_cmp hp' hu⟩
  refine PySem.W.kat_kind (T := .type "str") h1 (by omega) (fun f hm => ?_) (by rfl) ?_
  · obtain ⟨x, t, rfl⟩ := h3 f hm
    exact PySem.W.Looks.of_pure rfl
  · have e : (Value.type "str" != Value.type "tuple") = true := by first | decide +kernel | rfl | decide
    rw [e]
    exact hq
theorem sorted_sp {l : Addr} {vs : List Value} {k : Value → PySem.Str} {Q : Value → Shared → Prop} (hl : s.heap.IsList l vs.toArray) (hz : vs.length ≤ sizeLine) (hp : ∀ v ∈ vs, IsSP s.heap v (k v)) (hu : ∀ v ∈ vs, ∀ u ∈ vs, k v = k u → v = u)
    (h : ∀ (h' : Heap) (d : Addr) (out : List Value), Srtd (fun v u => sB (k v) (k u)) out → out.Perm vs → (∀ b o, s.heap.get? b = some o → h'.get? b = some o) → s.heap.objs.size ≤ d → (∃ n, h'.get? d = some (seqObj "list" out.toArray n)) → Q (.ref d) { s with heap := h' }) :
    wpAny (model prog w) A (call (.builtin "sorted") [.ref l]) Q E s := by
  refine sorted_ord (swo_s k) hl hz (fun h2 h₁ a ha kk => ?_) fun out hs hb => ?_
  · refine sp_sortable (s := { s with heap := h₁ }) (by omega) (fun v hm => (hp v hm).keeps fun b o e _ => (kk b o e).2) hu fun o e => ?_
    have e' : some o = some (seqObj "list" vs.toArray 0) := e.symm.trans ha
    cases e'
    intro c
    exact absurd (Value.type.inj c) (by decide)
  · exact h _ _ out hs hb.perm (fun b o e => sortedAll_old e) (Nat.le_succ _) (sortedAll_at s.heap vs out.toArray)
end
end SrtO
namespace L2
open PySem PySem.Spec PyProof.Rows
def SPs (K : PySem.W.Frag) (H : Hp) : List V → List Str → Prop
  | [], [] => True
  | x :: xs, s :: ss => (∃ t y, x = V.ref t ∧ SqT K H t [.str s, y]) ∧ SPs K H xs ss
  | _, _ => False
def rSortedSP (K : PySem.W.Frag) : List V → Hp → VK → Prop := fun vs H Q => ∃ (a : Addr) (xs : List V) (ss : List Str), vs = [V.ref a] ∧ SqL K H a xs ∧ SPs K H xs ss ∧ ss.Nodup ∧
  ∀ (ys : List V) (k : V → Str) p, xs.map k = ss → ys.Pairwise (fun x y => SrtO.sB (k y) (k x) = false) → ys.Perm xs → H p = none → Q (.ref p) (upd H p (.lst ys))
theorem inj_of_nodup {α β : Type} {f : α → β} : ∀ {l : List α}, (l.map f).Nodup → ∀ {x y : α}, x ∈ l → y ∈ l → f x = f y → x = y
  | a :: l, h, x, y, hx, hy, e => by
    rw [List.map_cons, List.nodup_cons] at h
    rcases List.mem_cons.mp hx with ex | hx' <;> rcases List.mem_cons.mp hy with ey | hy'
    · rw [ex, ey]
    · exact absurd (List.mem_map.mpr ⟨y, hy', by rw [← e, ex]⟩) h.1
    · exact absurd (List.mem_map.mpr ⟨x, hx', by rw [e, ey]⟩) h.1
    · exact inj_of_nodup h.2 hx' hy' e
open Classical in
noncomputable def keyOfH (K : PySem.W.Frag) (H : Hp) (v : V) : Str := if h : ∃ s t y, v = V.ref t ∧ SqT K H t [.str s, y] then h.choose else ⟨#[]⟩
section
variable {X : Cx}
theorem keyOfH_eq {pins : List (Addr × Obj)} {σ : St} {H : Hp} {s : Shared} (I : Inv X pins σ H s) {t : Addr} {z : Str} {y : V} (h : SqT X.K H t [.str z, y]) : keyOfH X.K H (.ref t) = z := by
  have ex : ∃ s t' y, V.ref t = V.ref t' ∧ SqT X.K H t' [.str s, y] := ⟨z, t, y, rfl, h⟩
  unfold keyOfH
  rw [dif_pos ex]
  obtain ⟨t', y', e, h'⟩ := ex.choose_spec
  cases e
  have := I.tuple_inj h' h
  exact V.str.inj (List.cons.inj this).1
theorem sps_keys {pins : List (Addr × Obj)} {σ : St} {H : Hp} {s : Shared} (I : Inv X pins σ H s) : ∀ {xs : List V} {ss : List Str}, SPs X.K H xs ss → xs.map (keyOfH X.K H) = ss ∧ ∀ x ∈ xs, ∃ t y, x = V.ref t ∧ SqT X.K H t [.str (keyOfH X.K H x), y]
  | [], [], _ => ⟨rfl, by simp⟩
  | x :: xs, z :: ss, h => by
    obtain ⟨⟨t, y, rfl, hs⟩, r⟩ := h
    obtain ⟨i1, i2⟩ := sps_keys I r
    have e := keyOfH_eq I hs
    refine ⟨by rw [List.map_cons, i1, e], fun x hx => ?_⟩
    rcases List.mem_cons.mp hx with rfl | hx
    · exact ⟨t, y, rfl, by rw [e]; exact hs⟩
    · exact i2 x hx
theorem cr_sortedSP : CallR X (.builtin "sorted") (rSortedSP X.K) := by
  intro pins s σ H vs us Q I r h
  obtain ⟨a, xs, ss, rfl, hs, hsp, nd, q⟩ := h
  obtain ⟨ek, hx⟩ := sps_keys I hsp
  have hu : ∀ x ∈ xs, ∀ y ∈ xs, keyOfH X.K H x = keyOfH X.K H y → x = y := fun x h1 y h2 e => inj_of_nodup (by rw [ek]; exact nd) h1 h2 e
  obtain ⟨its, rv, hl, hz⟩ := I.list hs
  obtain ⟨u, rfl, ru⟩ := vals1 r
  obtain rfl : u = Value.ref a := ru
  obtain ⟨e1, e2⟩ := refs_back rv fun x m => by
    obtain ⟨t, _, e, _⟩ := hx x m
    exact ⟨t, e⟩
  have mem : ∀ v ∈ its, backV v ∈ xs := fun v hv => by rw [e1]; exact List.mem_map.mpr ⟨v, hv, rfl⟩
  refine SrtO.sorted_sp (k := fun u => keyOfH X.K H (backV u)) hl.isList (by rw [← rv.length]; exact hz) (fun v hv => ?_) (fun v hv u hu' e => ?_) fun h' d out h1 h2 kp hd hn => ?_
  · obtain ⟨t, rfl⟩ := e2 v hv
    have hm : V.ref t ∈ xs := mem _ hv
    obtain ⟨t', y, e, ht⟩ := hx _ hm
    cases e
    obtain ⟨its2, r2, ⟨o, ho, hc, n, hd⟩, _⟩ := I.tuple ht
    obtain ⟨u1, u2, rfl, ri, rj⟩ := vals2 r2
    obtain ⟨t1, rfl⟩ := ri
    exact ⟨t, o, t1, [u2], n, rfl, ho, hc, hd, rfl⟩
  · obtain ⟨t, rfl⟩ := e2 v hv
    obtain ⟨t', rfl⟩ := e2 u hu'
    have := hu _ (mem _ hv) _ (mem _ hu') e
    exact congrArg Value.ref (V.ref.inj this)
  · have h3 : ∀ u ∈ out, ∃ a, u = Value.ref a := fun u hu => e2 u (h2.mem_iff.mp hu)
    obtain ⟨n, hn⟩ := hn
    have hb : (out.map backV).Perm xs := by rw [e1]; exact h2.map _
    refine ⟨.ref d, upd H d (.lst (out.map backV)), I.laid (t' := s.toks) kp hd ⟨?_, out, n, vals_back h3, hn⟩, rfl, q _ (keyOfH X.K H) d ek (List.pairwise_map.mpr h1) hb (I.hok.fresh hd)⟩
    rw [hb.length_eq]
    exact hz
end
end L2

namespace PL
open PySem PySem.Spec PyProof.Rows L2
def cSl (W : Wd) (r : AV → Option Int → Option Int → AH → AQ → Prop) : V → Option Int → Option Int → Hp → VK → Prop := fun x lo hi H Q => ∃ ax h, RH W h H ∧ Rep W.K H ax x ∧ r ax lo hi h (cQ W H Q)
def cCall (W : Wd) (r : List AV → AH → AQ → Prop) : List V → Hp → VK → Prop := fun xs H Q => ∃ axs h, RH W h H ∧ Reps W.K H axs xs ∧ r axs h (cQ W H Q)
def cMt (W : Wd) (r : AV → List AV → AH → AQ → Prop) : V → List V → Hp → VK → Prop := fun x xs H Q => ∃ ax axs h, RH W h H ∧ Rep W.K H ax x ∧ Reps W.K H axs xs ∧ r ax axs h (cQ W H Q)
section
variable {X : Cx} {T : Tb}
theorem acut_rep {K : PySem.W.Frag} {H : Hp} {xs : List AV} {vs : List V} (k : Reps K H xs vs) (lo hi : Option Int) : Reps K H (acut xs lo hi) (cutV vs lo hi) := by
  unfold acut cutV
  rw [k.length]
  exact (k.drop _).take _
theorem acut_whole {xs : List AV} {lo hi : Option Int} (h : HT.sIx xs.length 0 lo = 0 ∧ HT.sIx xs.length xs.length hi = xs.length) : acut xs lo hi = xs := by
  unfold acut
  rw [h.1, h.2]
  simp
theorem x_sl : SlR X (cSl (wd X T) slR) := by
  intro pins s σ H x v vl vu lo hi sl Q I rx hs pl pu q
  obtain ⟨ax, h, rh, r1, q⟩ := q
  cases ax with
  | tup xs =>
    obtain ⟨a, vs, ex, t, k⟩ := rep_tupT r1
    refine sl_tupP pins s σ H x v vl vu lo hi sl Q I rx hs pl pu ⟨a, vs, ex, t, fun hw => ?_, fun _ p o hp ho => cQ.tupN q rh hp ho (acut_rep k lo hi)⟩
    rw [k.length] at hw
    have q' : cQ (wd X T) H Q (.tup (acut xs lo hi)) h := q
    rw [acut_whole hw] at q'
    rw [← ex]
    exact q'.here rh r1
  | rl xs =>
    obtain ⟨a, vs, ex, t, k⟩ := rep_rl.mp r1
    exact sl_list pins s σ H x v vl vu lo hi sl Q I rx hs pl pu ⟨a, vs, ex, t.sq, fun p hp => cQ.lstN q rh hp (acut_rep k lo hi)⟩
  | ref a =>
    obtain ⟨xs, e, q⟩ := q
    obtain ⟨vs, h1, k⟩ := rh.lst e
    exact sl_list pins s σ H x v vl vu lo hi sl Q I rx hs pl pu ⟨a, vs, rep_ref.mp r1, SqL.of h1, fun p hp => cQ.lstN q rh hp (acut_rep k lo hi)⟩
  | _ => exact False.elim q

theorem bls_rep {K : PySem.W.Frag} {H : Hp} : ∀ {xs : List AV} {bs : List Bool} {vs : List V}, bls? xs = some bs → Reps K H xs vs → vs = bs.map V.bl
  | [], bs, vs, e, k => by cases e; exact reps_nil.mp k
  | .bl b :: r, bs, vs, e, k => by
    obtain ⟨v, w, rfl, a, q⟩ := reps_cons.mp k
    have e' : (bls? r).map (b :: ·) = some bs := e
    obtain ⟨cs, e1, rfl⟩ := Option.map_eq_some_iff.mp e'
    rw [rep_bl.mp a, bls_rep e1 q]; rfl
  | .non :: _, _, _, e, _ => by cases e
  | .int _ :: _, _, _, e, _ => by cases e
  | .str _ :: _, _, _, e, _ => by cases e
  | .tup _ :: _, _, _, e, _ => by cases e
  | .rl _ :: _, _, _, e, _ => by cases e
  | .ref _ :: _, _, _, e, _ => by cases e
theorem ints_rep {K : PySem.W.Frag} {H : Hp} : ∀ {xs : List AV} {bs : List Int} {vs : List V}, ints? xs = some bs → Reps K H xs vs → vs = bs.map V.int
  | [], bs, vs, e, k => by cases e; exact reps_nil.mp k
  | .int b :: r, bs, vs, e, k => by
    obtain ⟨v, w, rfl, a, q⟩ := reps_cons.mp k
    have e' : (ints? r).map (b :: ·) = some bs := e
    obtain ⟨cs, e1, rfl⟩ := Option.map_eq_some_iff.mp e'
    rw [rep_int.mp a, ints_rep e1 q]; rfl
  | .non :: _, _, _, e, _ => by cases e
  | .bl _ :: _, _, _, e, _ => by cases e
  | .str _ :: _, _, _, e, _ => by cases e
  | .tup _ :: _, _, _, e, _ => by cases e
  | .rl _ :: _, _, _, e, _ => by cases e
  | .ref _ :: _, _, _, e, _ => by cases e
theorem reps1 {K : PySem.W.Frag} {H : Hp} {x : AV} {vs : List V} (k : Reps K H [x] vs) : ∃ v, vs = [v] ∧ Rep K H x v := by
  obtain ⟨v, r, rfl, a, b⟩ := reps_cons.mp k
  rw [reps_nil.mp b]
  exact ⟨v, rfl, a⟩
theorem reps2 {K : PySem.W.Frag} {H : Hp} {x y : AV} {vs : List V} (k : Reps K H [x, y] vs) : ∃ v w, vs = [v, w] ∧ Rep K H x v ∧ Rep K H y w := by
  obtain ⟨v, r, rfl, a, b⟩ := reps_cons.mp k
  obtain ⟨w, rfl, c⟩ := reps1 b
  exact ⟨v, w, rfl, a, c⟩
def bltNm : Blt → Str
  | .len => "len" | .abs => "abs" | .int => "int" | .str => "str" | .tuple => "tuple" | .list => "list" | .dict => "dict" | .sorted => "sorted" | .sum => "sum" | .max => "max" | .min => "min" | .all => "all" | .any => "any" | .bool => "bool" | .repr => "repr" | .set => "set"
def bltVal : Blt → Value
  | .len => .builtin "len" | .abs => .builtin "abs" | .int => .type "int" | .str => .type "str" | .tuple => .type "tuple" | .list => .type "list" | .dict => .type "dict" | .sorted => .builtin "sorted" | .sum => .builtin "sum" | .max => .builtin "max" | .min => .builtin "min" | .all => .builtin "all" | .any => .builtin "any" | .bool => .type "bool" | .repr => .builtin "repr" | .set => .type "set"
theorem b_len : CallR X (.builtin "len") (cCall (wd X T) (bltR .len)) := by
  intro pins s σ H xs us Q I r q
  obtain ⟨axs, h, rh, k, q⟩ := q
  obtain ⟨ax, rfl, q⟩ := one_ex q
  obtain ⟨x, rfl, r1⟩ := reps1 k
  cases ax with
  | tup ys =>
    obtain ⟨a, vs, rfl, t, k2⟩ := rep_tupT r1
    exact call_len_seq pins s σ H _ us Q I r ⟨a, vs, rfl, .inr t, by rw [k2.length]; exact cQ.int q rh⟩
  | rl ys =>
    obtain ⟨a, vs, rfl, t, k2⟩ := rep_rl.mp r1
    exact call_len_seq pins s σ H _ us Q I r ⟨a, vs, rfl, .inl t.sq, by rw [k2.length]; exact cQ.int q rh⟩
  | str z =>
    obtain ⟨hl, q⟩ := q
    rw [rep_str.mp r1] at r
    exact call_len pins s σ H _ us Q I r ⟨.str z, z.length, rfl, ⟨hl, rfl⟩, cQ.int q rh⟩
  | ref a =>
    rw [rep_ref.mp r1] at r
    rcases q with ⟨ys, e, q⟩ | ⟨kvs, e, q⟩
    · obtain ⟨vs, h1, k2⟩ := rh.lst e
      exact call_len_seq pins s σ H _ us Q I r ⟨a, vs, rfl, .inl (SqL.of h1), by rw [k2.length]; exact cQ.int q rh⟩
    · obtain ⟨vs, h1, k2⟩ := rh.dK e
      refine call_lenD pins s σ H _ us Q I r ⟨a, _, rfl, h1, ?_⟩
      have := k2.length
      rw [List.length_zip, List.length_map, this, List.length_map, Nat.min_self]
      exact cQ.int q rh
  | _ => exact False.elim q
theorem b_abs : CallR X (.builtin "abs") (cCall (wd X T) (bltR .abs)) := by
  intro pins s σ H xs us Q I r q
  obtain ⟨axs, h, rh, k, q⟩ := q
  obtain ⟨ax, rfl, q⟩ := one_ex q
  obtain ⟨x, rfl, r1⟩ := reps1 k
  cases ax with
  | int i => exact call_abs pins s σ H _ us Q I r ⟨i, by rw [rep_int.mp r1], cQ.int q rh⟩
  | _ => exact False.elim q
theorem b_int : CallR X (.type "int") (cCall (wd X T) (bltR .int)) := by
  intro pins s σ H xs us Q I r q
  obtain ⟨axs, h, rh, k, q⟩ := q
  obtain ⟨ax, rfl, q⟩ := one_ex q
  obtain ⟨x, rfl, r1⟩ := reps1 k
  cases ax with
  | int i => exact call_int1 pins s σ H _ us Q I r (.inl ⟨i, by rw [rep_int.mp r1], cQ.int q rh⟩)
  | bl i => exact call_int1 pins s σ H _ us Q I r (.inr ⟨i, by rw [rep_bl.mp r1], cQ.int q rh⟩)
  | _ => exact False.elim q
theorem b_tuple : CallR X (.type "tuple") (cCall (wd X T) (bltR .tuple)) := by
  intro pins s σ H xs us Q I r q
  obtain ⟨axs, h, rh, k, q⟩ := q
  obtain ⟨ax, rfl, q⟩ := one_ex q
  obtain ⟨x, rfl, r1⟩ := reps1 k
  cases ax with
  | ref a =>
    obtain ⟨ys, e, q⟩ := q
    obtain ⟨vs, h1, k2⟩ := rh.lst e
    exact call_tupleP pins s σ H _ us Q I r ⟨a, vs, by rw [rep_ref.mp r1], SqL.of h1, fun p o hp ho => cQ.tupN q rh hp ho k2⟩
  | tup ys =>
    obtain ⟨a, vs, rfl, t, k2⟩ := rep_tupT r1
    exact call_tuple_of pins s σ H _ us Q I r ⟨a, vs, rfl, .inr ⟨t, cQ.here (W := wd X T) q rh r1⟩⟩
  | _ => exact False.elim q
theorem b_list : CallR X (.type "list") (cCall (wd X T) (bltR .list)) := by
  intro pins s σ H xs us Q I r q
  obtain ⟨axs, h, rh, k, q⟩ := q
  obtain ⟨ax, rfl, q⟩ := one_ex q
  obtain ⟨x, rfl, r1⟩ := reps1 k
  cases ax with
  | ref a =>
    obtain ⟨ys, e, q⟩ := q
    obtain ⟨vs, h1, k2⟩ := rh.lst e
    exact call_list_of pins s σ H _ us Q I r ⟨a, vs, by rw [rep_ref.mp r1], .inl (SqL.of h1), fun p hp => cQ.lstN q rh hp k2⟩
  | tup ys =>
    obtain ⟨a, vs, rfl, t, k2⟩ := rep_tupT r1
    exact call_list_of pins s σ H _ us Q I r ⟨a, vs, rfl, .inr t, fun p hp => cQ.lstN q rh hp k2⟩
  | _ => exact False.elim q
theorem b_all (hc : X.calm = true) : CallR X (.builtin "all") (cCall (wd X T) (bltR .all)) := by
  intro pins s σ H xs us Q I r q
  obtain ⟨axs, h, rh, k, q⟩ := q
  obtain ⟨ax, rfl, q⟩ := one_ex q
  obtain ⟨x, rfl, r1⟩ := reps1 k
  cases ax with
  | ref a =>
    obtain ⟨ys, bs, e, eb, q⟩ := q
    obtain ⟨vs, h1, k2⟩ := rh.lst e
    exact cr_all hc pins s σ H _ us Q I r ⟨a, bs, by rw [rep_ref.mp r1], by rw [← bls_rep eb k2]; exact SqL.of h1, cQ.bl q rh⟩
  | _ => exact False.elim q
theorem b_any (hc : X.calm = true) : CallR X (.builtin "any") (cCall (wd X T) (bltR .any)) := by
  intro pins s σ H xs us Q I r q
  obtain ⟨axs, h, rh, k, q⟩ := q
  obtain ⟨ax, rfl, q⟩ := one_ex q
  obtain ⟨x, rfl, r1⟩ := reps1 k
  cases ax with
  | ref a =>
    obtain ⟨ys, bs, e, eb, q⟩ := q
    obtain ⟨vs, h1, k2⟩ := rh.lst e
    exact cr_any hc pins s σ H _ us Q I r ⟨a, bs, by rw [rep_ref.mp r1], by rw [← bls_rep eb k2]; exact SqL.of h1, cQ.bl q rh⟩
  | _ => exact False.elim q
theorem b_sum (hc : X.calm = true) : CallR X (.builtin "sum") (cCall (wd X T) (bltR .sum)) := by
  intro pins s σ H xs us Q I r q
  obtain ⟨axs, h, rh, k, q⟩ := q
  obtain ⟨ax, rfl, q⟩ := one_ex q
  obtain ⟨x, rfl, r1⟩ := reps1 k
  cases ax with
  | ref a =>
    obtain ⟨ys, bs, e, eb, q⟩ := q
    obtain ⟨vs, h1, k2⟩ := rh.lst e
    exact cr_sum hc pins s σ H _ us Q I r ⟨a, bs, by rw [rep_ref.mp r1], by rw [← ints_rep eb k2]; exact SqL.of h1, cQ.int q rh⟩
  | _ => exact False.elim q
theorem b_max (hc : X.calm = true) : CallR X (.builtin "max") (cCall (wd X T) (bltR .max)) := by
  intro pins s σ H xs us Q I r q
  obtain ⟨axs, h, rh, k, q⟩ := q
  obtain ⟨_, _, rfl, q⟩ := two_ex q
  obtain ⟨i, j, rfl, rfl, q2⟩ := q
  obtain ⟨x, y, rfl, r1, r2⟩ := reps2 k
  exact call_max2 hc pins s σ H _ us Q I r ⟨i, j, by rw [rep_int.mp r1, rep_int.mp r2], cQ.int q2 rh⟩
theorem b_min (hc : X.calm = true) : CallR X (.builtin "min") (cCall (wd X T) (bltR .min)) := by
  intro pins s σ H xs us Q I r q
  obtain ⟨axs, h, rh, k, q⟩ := q
  obtain ⟨_, _, rfl, q⟩ := two_ex q
  obtain ⟨i, j, rfl, rfl, q2⟩ := q
  obtain ⟨x, y, rfl, r1, r2⟩ := reps2 k
  exact call_min2 hc pins s σ H _ us Q I r ⟨i, j, by rw [rep_int.mp r1, rep_int.mp r2], cQ.int q2 rh⟩
theorem strs_rep {K : PySem.W.Frag} {H : Hp} : ∀ {xs : List AV} {ns : List Str} {vs : List V}, strs? xs = some ns → Reps K H xs vs → vs = ns.map V.str
  | [], ns, vs, e, r => by
    unfold strs? at e
    cases e
    rw [reps_nil.mp r]; rfl
  | x :: xs, ns, vs, e, r => by
    obtain ⟨v, w, rfl, a, b⟩ := reps_cons.mp r
    cases x with
    | str t =>
      unfold strs? at e
      obtain ⟨ms, e1, rfl⟩ := Option.map_eq_some_iff.mp e
      rw [rep_str.mp a, strs_rep e1 b]; rfl
    | _ => unfold strs? at e; cases e
theorem reps_strs {K : PySem.W.Frag} {H : Hp} : ∀ {ys : List Str}, Reps K H (ys.map AV.str) (ys.map V.str)
  | [] => reps_nil.mpr rfl
  | y :: ys => reps_cons.mpr ⟨_, _, rfl, rep_str.mpr rfl, reps_strs⟩
theorem reps_nums {K : PySem.W.Frag} {H : Hp} : ∀ {ys : List Int}, Reps K H (ys.map AV.int) (ys.map V.int)
  | [] => reps_nil.mpr rfl
  | y :: ys => reps_cons.mpr ⟨_, _, rfl, rep_int.mpr rfl, reps_nums⟩
theorem zip_fst {K : PySem.W.Frag} {H : Hp} {kvs : List (Key × AV)} {vs : List V} (k : Reps K H (kvs.map (·.2)) vs) : ((kvs.map (·.1)).zip vs).map (·.1) = kvs.map (·.1) := by
  have hl := k.length
  rw [List.length_map] at hl
  exact List.map_fst_zip (by rw [List.length_map, hl]; exact Nat.le_refl _)
theorem sps_rep {K : PySem.W.Frag} {H : Hp} : ∀ {xs : List AV} {vs : List V}, Reps K H xs vs → (∀ x ∈ xs, pairA x) → SPs K H vs (xs.map keyA)
  | [], vs, r, _ => by rw [reps_nil.mp r]; trivial
  | x :: xs, vs, r, p => by
    obtain ⟨v, ys, rfl, r1, r2⟩ := reps_cons.mp r
    refine ⟨?_, sps_rep r2 fun z hz => p z (List.mem_cons_of_mem _ hz)⟩
    match x, p x List.mem_cons_self, r1 with
    | .tup [.str s, y], _, r1 =>
      obtain ⟨t, vs, rfl, ht, rv⟩ := rep_tup.mp r1
      obtain ⟨v1, vs1, rfl, r1, r2⟩ := reps_cons.mp rv
      obtain ⟨v2, rfl, r3⟩ := reps1 r2
      have e1 := rep_str.mp r1
      subst e1
      exact ⟨t, v2, rfl, ht.sq⟩
theorem reps_perm {K : PySem.W.Frag} {H : Hp} {k : V → Str} {xs : List AV} {vs ws : List V} (r : Reps K H xs vs) (ek : xs.map keyA = vs.map k) (p : ws.Perm vs) : ∃ ys : List AV, ys.Perm xs ∧ Reps K H ys ws ∧ ys.map keyA = ws.map k := by
  have p' := p.symm
  clear p
  induction p' generalizing xs with
  | nil => exact ⟨xs, List.Perm.refl _, r, ek⟩
  | cons x p ih =>
    cases xs with
    | nil => cases reps_nil.mp r
    | cons a as =>
      obtain ⟨y, ys, e, r1, r2⟩ := reps_cons.mp r
      cases e
      rw [List.map_cons, List.map_cons] at ek
      obtain ⟨ea, ek⟩ := List.cons.inj ek
      obtain ⟨bs, pb, rb, eb⟩ := ih r2 ek
      exact ⟨a :: bs, pb.cons a, reps_cons.mpr ⟨_, _, rfl, r1, rb⟩, by rw [List.map_cons, List.map_cons, ea, eb]⟩
  | swap x y l =>
    cases xs with
    | nil => cases reps_nil.mp r
    | cons a as =>
      obtain ⟨_, _, e, r1, r2⟩ := reps_cons.mp r
      cases e
      cases as with
      | nil => cases reps_nil.mp r2
      | cons b bs =>
        obtain ⟨_, _, e, r3, r4⟩ := reps_cons.mp r2
        cases e
        simp only [List.map_cons] at ek
        obtain ⟨ea, ek⟩ := List.cons.inj ek
        obtain ⟨eb, ek⟩ := List.cons.inj ek
        exact ⟨b :: a :: bs, List.Perm.swap a b bs, reps_cons.mpr ⟨_, _, rfl, r3, reps_cons.mpr ⟨_, _, rfl, r1, r4⟩⟩, by simp only [List.map_cons, ea, eb, ek]⟩
  | trans p q ihp ihq =>
    obtain ⟨as, pa, ra, ea⟩ := ihp r ek
    obtain ⟨bs, pb, rb, eb⟩ := ihq ra ea
    exact ⟨bs, pb.trans pa, rb, eb⟩
theorem str_ext {a b : Str} (h : a.cps.toList = b.cps.toList) : a = b := by
  cases a; cases b
  exact congrArg _ (Array.toList_inj.mp h)
theorem strict_of {as : List AV} {ys : List V} {k : V → Str} (e : as.map keyA = ys.map k) (nd : (as.map keyA).Nodup) (so : ys.Pairwise fun x y => SrtO.sB (k y) (k x) = false) : as.Pairwise fun x y => (keyA x).cps.toList < (keyA y).cps.toList := by
  have h1 : (ys.map k).Pairwise fun a b => SrtO.sB b a = false := List.pairwise_map.mpr so
  rw [← e] at h1
  have h2 : (as.map keyA).Pairwise fun a b => a ≠ b := nd
  have h3 := h1.and h2
  rw [List.pairwise_map] at h3
  refine h3.imp fun {x y} hxy => ?_
  have h4 := SrtO.sB_no.mp hxy.1
  rcases List.le_iff_lt_or_eq.mp h4 with h5 | h5
  · exact h5
  · exact absurd (str_ext h5) hxy.2
theorem b_sorted (hc : X.calm = true) : CallR X (.builtin "sorted") (cCall (wd X T) (bltR .sorted)) := by
  intro pins s σ H xs us Q I r q
  obtain ⟨axs, h, rh, k, q⟩ := q
  obtain ⟨ax, rfl, q⟩ := one_ex q
  obtain ⟨x, rfl, r1⟩ := reps1 k
  cases ax with
  | ref a =>
    have ea := rep_ref.mp r1
    rcases q with ⟨xs, ns, e, e2, l, q⟩ | ⟨xs, ns, e, e2, q⟩ | ⟨kvs, ns, e, e2, l, q⟩ | ⟨kvs, ns, e, e2, l, q⟩ | ⟨xs, e, e2, e3, q⟩
    · obtain ⟨vs, h1, k2⟩ := rh.lst e
      exact cr_sortedS pins s σ H _ us Q I r ⟨a, ns, by rw [ea], by rw [← strs_rep e2 k2]; exact SqL.of h1, l, fun ys p pm so hp => cQ.lstN (q ys pm so) rh hp reps_strs⟩
    · obtain ⟨vs, h1, k2⟩ := rh.lst e
      exact cr_sortedI pins s σ H _ us Q I r ⟨a, ns, by rw [ea], by rw [← ints_rep e2 k2]; exact SqL.of h1, fun ys p pm so hp => cQ.lstN (q ys pm so) rh hp reps_nums⟩
    · obtain ⟨vs, h1, k2⟩ := rh.dK e
      exact call_sortedD hc pins s σ H _ us Q I r ⟨a, _, ns, by rw [ea], .inl h1, by rw [zip_fst k2]; exact e2, l, fun ys p pm so hp => cQ.lstN (q ys pm so) rh hp reps_strs⟩
    · obtain ⟨vs, h1, k2⟩ := rh.dK e
      exact call_sortedDI hc pins s σ H _ us Q I r ⟨a, _, ns, by rw [ea], .inl h1, by rw [zip_fst k2]; exact e2, l, fun ys p pm so hp => cQ.lstN (q ys pm so) rh hp reps_nums⟩
    · obtain ⟨vs, h1, k2⟩ := rh.lst e
      refine cr_sortedSP pins s σ H _ us Q I r ⟨a, vs, xs.map keyA, by rw [ea], SqL.of h1, sps_rep k2 e2, e3, fun ys k p ek so pm hp => ?_⟩
      obtain ⟨as, pa, ra, eas⟩ := reps_perm k2 ek.symm pm
      exact cQ.lstN (q as pa (strict_of eas ((pa.map keyA).nodup_iff.mpr e3) so)) rh hp ra
  | _ => exact False.elim q
theorem pairs_rep {K : PySem.W.Frag} {H : Hp} : ∀ {xs : List AV} {ps : List (Key × AV)} {vs : List V}, pairs? xs = some ps → Reps K H xs vs →
    ∃ (as : List Addr) (ws : List V), vs = as.map V.ref ∧ Paired (fun p kv => SqT K H p [kV kv.1, kv.2]) as ((ps.map (·.1)).zip ws) ∧ Reps K H (ps.map (·.2)) ws
  | [], ps, vs, e, r => by
    unfold pairs? at e
    cases e
    rw [reps_nil.mp r]
    exact ⟨[], [], rfl, .nil, reps_nil.mpr rfl⟩
  | x :: xs, ps, vs, e, r => by
    obtain ⟨v, w, rfl, a, b⟩ := reps_cons.mp r
    unfold pairs? at e
    split at e
    · rename_i heq; cases heq
    · rename_i k z rest heq
      cases heq
      split at e
      · rename_i key qs ek eq
        cases e
        obtain ⟨as, ws, rfl, pr, rs⟩ := pairs_rep eq b
        obtain ⟨t, us, rfl, st, ku⟩ := rep_tupT a
        obtain ⟨u1, r1, rfl, ra, ku⟩ := reps_cons.mp ku
        obtain ⟨u2, r2, rfl, rb, ku⟩ := reps_cons.mp ku
        cases reps_nil.mp ku
        rw [key_rep ek ra] at st
        exact ⟨t :: as, u2 :: ws, rfl, .cons st pr, reps_cons.mpr ⟨_, _, rfl, rb, rs⟩⟩
      · cases e
    · cases e
theorem merge_rel {K : PySem.W.Frag} {H : Hp} : ∀ {more acc : List (Key × AV)} {as ws : List V}, Reps K H (acc.map (·.2)) as → Reps K H (more.map (·.2)) ws →
    ∃ rs, mergeK ((acc.map (·.1)).zip as) ((more.map (·.1)).zip ws) = ((merge acc more).map (·.1)).zip rs ∧ Reps K H ((merge acc more).map (·.2)) rs
  | [], acc, as, ws, ra, rw' => by
    cases reps_nil.mp rw'
    exact ⟨as, rfl, ra⟩
  | (k, x) :: more, acc, as, ws, ra, rw' => by
    obtain ⟨v, r, rfl, rx, rr⟩ := reps_cons.mp rw'
    obtain ⟨bs, e1, rb⟩ := dput_rel (k := k) rx ra
    obtain ⟨rs, e2, rr2⟩ := merge_rel (more := more) (acc := dput acc k x) rb rr
    refine ⟨rs, ?_, rr2⟩
    show mergeK (putK ((acc.map (·.1)).zip as) k v) ((more.map (·.1)).zip r) = ((merge (dput acc k x) more).map (·.1)).zip rs
    rw [e1]
    exact e2
theorem cQ.dN {W : Wd} {H : Hp} {Q : VK} {kvs : List (Key × AV)} {rs : List V} {h : AH} {p : Addr} (q : newD h kvs (cQ W H Q)) (r : RH W h H) (hp : H p = none) (k : Reps W.K H (kvs.map (·.2)) rs) : Q (.ref p) (upd H p (.dK ((kvs.map (·.1)).zip rs))) :=
  q p (r.isNone hp) _ _ (TLe.fresh hp) (r.new hp (show RO W _ p (.dK kvs) from ⟨rs, upd_same, k.mono (TLe.fresh hp)⟩)) (rep_ref.mpr rfl)
theorem b_dict (hc : X.calm = true) : CallR X (.type "dict") (cCall (wd X T) (bltR .dict)) := by
  intro pins s σ H xs us Q I r q
  obtain ⟨axs, h, rh, k, q⟩ := q
  obtain ⟨ax, rfl, q⟩ := one_ex q
  obtain ⟨x, rfl, r1⟩ := reps1 k
  cases ax with
  | ref a =>
    have ea := rep_ref.mp r1
    rcases q with ⟨xs, ps, e, e2, q⟩ | ⟨kvs, e, q⟩
    · obtain ⟨vs, h1, k2⟩ := rh.lst e
      obtain ⟨as, ws, ev, pr, rs⟩ := pairs_rep e2 k2
      obtain ⟨ms, em, rm⟩ := merge_rel (acc := []) (as := []) (reps_nil.mpr rfl) rs
      exact call_dictP hc pins s σ H _ us Q I r ⟨a, as, _, by rw [ea], by rw [← ev]; exact SqL.of h1, pr, fun p hp => by
        have e0 : mergeK [] ((ps.map (·.1)).zip ws) = _ := em
        rw [e0]
        exact cQ.dN q rh hp rm⟩
    · obtain ⟨vs, h1, k2⟩ := rh.dK e
      exact call_dictD pins s σ H _ us Q I r ⟨a, _, by rw [ea], .inl h1, fun p hp => cQ.dN q rh hp k2⟩
  | tup xs =>
    obtain ⟨ps, e2, q⟩ := q
    obtain ⟨a, vs, ea, sp, k2⟩ := rep_tup.mp r1
    obtain ⟨as, ws, ev, pr, rs⟩ := pairs_rep e2 k2
    obtain ⟨ms, em, rm⟩ := merge_rel (acc := []) (as := []) (reps_nil.mpr rfl) rs
    exact call_dictTP hc pins s σ H _ us Q I r ⟨a, as, _, by rw [ea], by rw [← ev]; exact sp, pr, fun p hp => by
      have e0 : mergeK [] ((ps.map (·.1)).zip ws) = _ := em
      rw [e0]
      exact cQ.dN q rh hp rm⟩
  | _ => exact False.elim q
theorem b_none {f : Blt} {v : Value} (hf : ∀ axs h Q, ¬ bltR f axs h Q) : CallR X v (cCall (wd X T) (bltR f)) := fun pins s σ H xs us Q I r ⟨axs, h, rh, k, q⟩ => absurd q (hf _ _ _)
theorem b_blt (hc : X.calm = true) (f : Blt) : CallR X (bltVal f) (cCall (wd X T) (bltR f)) := by
  cases f
  · exact b_len
  · exact b_abs
  · exact b_int
  · exact b_none fun axs h Q q => q
  · exact b_tuple
  · exact b_list
  · exact b_dict hc
  · exact b_sorted hc
  · exact b_sum hc
  · exact b_max hc
  · exact b_min hc
  · exact b_all hc
  · exact b_any hc
  · exact b_none fun axs h Q q => q
  · exact b_none fun axs h Q q => q
  · exact b_none fun axs h Q q => q
theorem boot_blt (f : Blt) : bootBuiltins (bltNm f) = some (bltVal f) := by cases f <;> decide +kernel
theorem blt_name (f : Blt) : bltNm f ≠ "__name__" ∧ (bltNm f == ("__debug__" : Str)) = false := by cases f <;> (constructor <;> decide +kernel)

theorem m_append : MtR X "list.append" (cMt (wd X T) (mthR .append)) := by
  intro pins s σ H x xs v us Q I rx r q
  obtain ⟨ax, axs, h, rh, r1, k, q⟩ := q
  obtain ⟨y, rfl, q⟩ := one_ex q
  obtain ⟨w, rfl, r2⟩ := reps1 k
  cases ax with
  | ref a =>
    obtain ⟨ys, e, hl, q⟩ := q
    obtain ⟨vs, h1, k2⟩ := rh.lst e
    have t : TLe X.K H (upd H a (.lst (vs ++ [w]))) := TLe.write h1 trivial
    exact mt_append pins s σ H x _ v us Q I rx r ⟨a, vs, w, rep_ref.mp r1, rfl, h1, by rw [k2.length]; exact hl,
      q _ _ t (rh.write h1 trivial (show RO (wd X T) _ a (.lst (ys ++ [y])) from ⟨_, upd_same, (k2.append (Reps.one r2)).mono t⟩)) (rep_non.mpr rfl)⟩
  | _ => exact False.elim q
theorem m_extend : MtR X "list.extend" (cMt (wd X T) (mthR .extend)) := by
  intro pins s σ H x xs v us Q I rx r q
  obtain ⟨ax, axs, h, rh, r1, k, q⟩ := q
  obtain ⟨y, rfl, q⟩ := one_ex q
  obtain ⟨w, rfl, r2⟩ := reps1 k
  obtain ⟨a, b, ys, zs, rfl, rfl, e1, e2, hl, q⟩ := q
  obtain ⟨vs, h1, k1⟩ := rh.lst e1
  obtain ⟨ws, h2, k2⟩ := rh.lst e2
  have t : TLe X.K H (upd H a (.lst (vs ++ ws))) := TLe.write h1 trivial
  exact mt_extend pins s σ H x _ v us Q I rx r ⟨a, b, vs, ws, rep_ref.mp r1, by rw [rep_ref.mp r2], h1, h2, by rw [k1.length, k2.length]; exact hl,
    q _ _ t (rh.write h1 trivial (show RO (wd X T) _ a (.lst (ys ++ zs)) from ⟨_, upd_same, (k1.append k2).mono t⟩)) (rep_non.mpr rfl)⟩
theorem reps_snoc {K : PySem.W.Frag} {H : Hp} : ∀ {xs : List AV} {y : AV} {vs : List V}, Reps K H (xs ++ [y]) vs → ∃ ws w, vs = ws ++ [w] ∧ Reps K H xs ws ∧ Rep K H y w
  | [], y, vs, k => by
    obtain ⟨v, rfl, r⟩ := reps1 k
    exact ⟨[], v, rfl, reps_nil.mpr rfl, r⟩
  | x :: xs, y, vs, k => by
    obtain ⟨v, r, rfl, a, b⟩ := reps_cons.mp k
    obtain ⟨ws, w, rfl, c, d⟩ := reps_snoc b
    exact ⟨v :: ws, w, rfl, reps_cons.mpr ⟨v, ws, rfl, a, c⟩, d⟩
theorem m_pop : MtR X "list.pop" (cMt (wd X T) (mthR .pop)) := by
  intro pins s σ H x xs v us Q I rx r q
  obtain ⟨ax, axs, h, rh, r1, k, q⟩ := q
  rcases q with ⟨rfl, q⟩ | ⟨rfl, q⟩
  · have e0 := reps_nil.mp k
    subst e0
    cases ax with
    | ref a =>
      obtain ⟨ys, y, e, q⟩ := q
      obtain ⟨vs, h1, k2⟩ := rh.lst e
      obtain ⟨ws, w, rfl, k3, r3⟩ := reps_snoc k2
      have t : TLe X.K H (upd H a (.lst ws)) := TLe.write h1 trivial
      refine mt_pop pins s σ H x _ v us Q I rx r ⟨a, ws ++ [w], w, rep_ref.mp r1, rfl, h1, by simp, ?_⟩
      rw [List.dropLast_concat]
      exact q _ _ t (rh.write h1 trivial (show RO (wd X T) _ a (.lst ys) from ⟨_, upd_same, k3.mono t⟩)) (r3.mono t)
    | _ => exact False.elim q
  · obtain ⟨iv, rfl, ri⟩ := reps1 k
    obtain rfl := rep_int.mp ri
    cases ax with
    | ref a =>
      obtain ⟨ys, y, e, q⟩ := q
      obtain ⟨vs, h1, k2⟩ := rh.lst e
      obtain ⟨w, ws, rfl, r3, k3⟩ := reps_cons.mp k2
      have t : TLe X.K H (upd H a (.lst ws)) := TLe.write h1 trivial
      refine mt_popAt pins s σ H x _ v us Q I rx r ⟨a, w :: ws, 0, 0, w, rep_ref.mp r1, rfl, h1, by decide, by decide, by simp [seqIndex?], rfl, ?_⟩
      exact q _ _ t (rh.write h1 trivial (show RO (wd X T) _ a (.lst ys) from ⟨_, upd_same, k3.mono t⟩)) (r3.mono t)
    | _ => exact False.elim q
end
end PL

namespace PL
open PySem PySem.Spec PyProof.Rows L2

structure REnv (K : PySem.W.Frag) (H : Hp) (env : AEnv) (σ : L2.St) : Prop where
  len : env.length = σ.length
  get : ∀ (i : Nat) (av : AV), env[i]? = some (some av) → ∃ v, σ[i]? = some (some v) ∧ Rep K H av v
theorem REnv.mono {K : PySem.W.Frag} {H H' : Hp} {env : AEnv} {σ : L2.St} (r : REnv K H env σ) (t : TLe K H H') : REnv K H' env σ := ⟨r.len, fun i av e => let ⟨v, e1, a⟩ := r.get i av e; ⟨v, e1, a.mono t⟩⟩
theorem REnv.sub {K : PySem.W.Frag} {H : Hp} {env env' : AEnv} {σ : L2.St} (r : REnv K H env' σ) (l : SLe env env') : REnv K H env σ := ⟨l.1.trans r.len, fun i av e => r.get i av (l.2 i av e)⟩
theorem REnv.set {K : PySem.W.Frag} {H : Hp} {env : AEnv} {σ : L2.St} {av : AV} {v : V} (r : REnv K H env σ) (i : Nat) (a : Rep K H av v) : REnv K H (env.set i (some av)) (σ.set i (some v)) := by
  refine ⟨by rw [List.length_set, List.length_set, r.len], fun j w e => ?_⟩
  by_cases h : i = j
  · subst h
    by_cases hi : i < env.length
    · rw [List.getElem?_set_self hi] at e
      cases e
      exact ⟨v, List.getElem?_set_self (by rw [← r.len]; exact hi), a⟩
    · rw [List.getElem?_eq_none (by simpa using hi)] at e; cases e
  · rw [List.getElem?_set_ne h] at e
    obtain ⟨u, e1, b⟩ := r.get j w e
    exact ⟨u, by rw [List.getElem?_set_ne h]; exact e1, b⟩
theorem REnv.clear {K : PySem.W.Frag} {H : Hp} {env : AEnv} {σ : L2.St} (r : REnv K H env σ) (i : Nat) : REnv K H (env.set i none) (σ.set i none) := by
  refine ⟨by rw [List.length_set, List.length_set, r.len], fun j w e => ?_⟩
  by_cases h : i = j
  · subst h
    by_cases hi : i < env.length
    · rw [List.getElem?_set_self hi] at e; cases e
    · rw [List.getElem?_eq_none (by simpa using hi)] at e; cases e
  · rw [List.getElem?_set_ne h] at e
    obtain ⟨u, e1, b⟩ := r.get j w e
    exact ⟨u, by rw [List.getElem?_set_ne h]; exact e1, b⟩
theorem REnv.wipe {K : PySem.W.Frag} {H : Hp} {env : AEnv} {σ : L2.St} (r : REnv K H env σ) : ∀ l : List Nat, REnv K H (awipe env l) (wipe σ l)
  | [] => r
  | v :: vs => (REnv.wipe r vs).clear v

def RX (W : Wd) (H : Hp) (ax : AX) (cls : Value) (d : Option Addr) : Prop := cls = .ref (clsAddr W ax.cls) ∧ ax.args = [] ∧ ∃ x, W.T.cn ax.cls = some x
theorem RX.mono {W : Wd} {H H' : Hp} {ax : AX} {cls : Value} {d : Option Addr} (r : RX W H ax cls d) : RX W H' ax cls d := r
def cX (W : Wd) (Wx : WX) (σ : L2.St) (H : Hp) : AXQ := fun ax h' => ∀ cls d H', TLe W.K H H' → RH W h' H' → RX W H' ax cls d → Wx cls d σ H'
theorem cX.mono {W : Wd} {Wx : WX} {σ : L2.St} {H H' : Hp} (t : TLe W.K H H') : XLe (cX W Wx σ H) (cX W Wx σ H') := fun _ _ q cls d H2 t2 => q cls d H2 (t.trans t2)
theorem cQ.mono {W : Wd} {H H' : Hp} {Q : VK} (t : TLe W.K H H') : QLe (cQ W H Q) (cQ W H' Q) := fun _ _ q v H2 t2 => q v H2 (t.trans t2)
def bQ (W : Wd) (H : Hp) (Q : Bool → Hp → Prop) : Bool → AH → Prop := fun b h' => ∀ H', TLe W.K H H' → RH W h' H' → Q b H'
def lQ (W : Wd) (H : Hp) (Q : List V → Hp → Prop) : List AV → AH → Prop := fun avs h' => ∀ vs H', TLe W.K H H' → RH W h' H' → Reps W.K H' avs vs → Q vs H'
def pQ (W : Wd) (H : Hp) (Q : Option Int → Hp → Prop) : Option Int → AH → Prop := fun o h' => ∀ H', TLe W.K H H' → RH W h' H' → Q o H'
theorem bQ.mono {W : Wd} {H H' : Hp} {Q : Bool → Hp → Prop} (t : TLe W.K H H') : ∀ b h, bQ W H Q b h → bQ W H' Q b h := fun _ _ q H2 t2 => q H2 (t.trans t2)

abbrev AT := AEnv → AH → AQ → AXQ → Prop
abbrev ATT := AEnv → AH → (Bool → AH → Prop) → AXQ → Prop
abbrev ATA := AEnv → AH → (List AV → AH → Prop) → AXQ → Prop
def cE (W : Wd) (Wx : WX) (t : AT) : TE := fun σ H Q => ∃ env h, REnv W.K H env σ ∧ RH W h H ∧ t env h (cQ W H Q) (cX W Wx σ H)
def cT (W : Wd) (Wx : WX) (t : ATT) : TT := fun σ H Q => ∃ env h, REnv W.K H env σ ∧ RH W h H ∧ t env h (bQ W H Q) (cX W Wx σ H)
def cA (W : Wd) (Wx : WX) (t : ATA) : TA := fun σ H Q => ∃ env h, REnv W.K H env σ ∧ RH W h H ∧ t env h (lQ W H Q) (cX W Wx σ H)
def cP (W : Wd) (Wx : WX) (t : AEnv → AH → (Option Int → AH → Prop) → AXQ → Prop) : TO := fun σ H Q => ∃ env h, REnv W.K H env σ ∧ RH W h H ∧ t env h (pQ W H Q) (cX W Wx σ H)

section
variable {X : Cx}
theorem _root_.L2.PE.imp {e : Expr} {t t' : TE} (p : PE X e t) (h : ∀ σ H Q, t' σ H Q → t σ H Q) : PE X e t' := ⟨fun pins s σ H Q I q => p.run pins s σ H Q I (h σ H Q q)⟩
theorem _root_.L2.PT.imp {e : Expr} {t t' : TT} (p : PT X e t) (h : ∀ σ H Q, t' σ H Q → t σ H Q) : PT X e t' := ⟨fun pins s σ H Q I q => p.run pins s σ H Q I (h σ H Q q)⟩
theorem _root_.L2.PW.imp {e : Expr} {t t' : TT} (p : PW X e t) (h : ∀ σ H Q, t' σ H Q → t σ H Q) : PW X e t' := ⟨fun w pins s σ H Q I q => p.run w pins s σ H Q I (h σ H Q q)⟩
theorem _root_.L2.PA.imp {e : List Expr} {t t' : TA} (p : PA X e t) (h : ∀ σ H Q, t' σ H Q → t σ H Q) : PA X e t' := ⟨fun pos pins s σ H Q I q => p.run pos pins s σ H Q I (h σ H Q q)⟩
theorem _root_.L2.PO.imp {e : Option Expr} {t t' : TO} (p : PO X e t) (h : ∀ σ H Q, t' σ H Q → t σ H Q) : PO X e t' := ⟨fun pins s σ H Q I q => p.run pins s σ H Q I (h σ H Q q)⟩
end

theorem bltVal_kind (f : Blt) : (∃ id, bltVal f = .builtin id) ∨ ∃ id, bltVal f = .type id := by cases f <;> first | exact .inl ⟨_, rfl⟩ | exact .inr ⟨_, rfl⟩
def nost : Expr → Bool | .Starred .. => false | _ => true
def nosl : Expr → Bool | .Slice .. => false | _ => true
def noset : Expr → Bool | .Set .. => false | _ => true
def nolc : Expr → Bool | .ListComp .. | .SetComp .. | .DictComp .. => false | _ => true
def nocall : Expr → Bool | .Call (.Name _ _) [] [] _ => false | _ => true
def byval : Expr → Bool | .UnaryOp .Not _ _ => false | .BoolOp .. => false | .IfExp .. => false | .Compare .. => false | _ => true
theorem star_cons {e : Expr} {es : List Expr} {env : Env} (h : nost e = true) : starEach (e :: es) env = (false, eval e env) :: starEach es env := by
  cases e <;> first | rfl | cases h
theorem star_any {pos : Pos} {env : Env} : ∀ {es : List Expr}, es.all nost = true → (backTo pos (starEach es env)).any (·.1) = false
  | [], _ => rfl
  | e :: es, h => by
    rw [List.all_cons, Bool.and_eq_true] at h
    rw [star_cons h.1]
    show (false || (backTo pos (starEach es env)).any (·.1)) = false
    rw [star_any h.2]; rfl
theorem star_all {pos : Pos} {env : Env} : ∀ {es : List Expr}, es.all nost = true → (backTo pos (starEach es env)).all (fun x => !x.1) = true
  | [], _ => rfl
  | e :: es, h => by
    rw [List.all_cons, Bool.and_eq_true] at h
    rw [star_cons h.1]
    show (true && (backTo pos (starEach es env)).all (fun x => !x.1)) = true
    rw [star_all h.2]; rfl
theorem mark_no {op : CmpOp} {b : Expr} (h : noset b = true) : behindInMarks op b = false := by cases b <;> first | rfl | cases h
theorem last_no {o o' : CmpOp} {b c : Expr} (h : noset c = true) : lastMarks [o, o'] [b, c] = false := by
  show behindInMarks o' c = false
  exact mark_no h
theorem ix_plain {i : Expr} (h : nosl i = true) : PlainIx i := by
  cases i <;> first | exact fun _ _ => rfl | cases h
theorem base_plain {o : Expr} {m : Str} {env : Env} {w : Sem Value} (h : nocall o = true) : attributeBase o m env w = w := by
  unfold attributeBase
  split
  · cases h
  · rfl
theorem val_plain {e : Expr} {env : Env} (h : byval e = true) : ∀ whole, isTrue e env whole = (do let v ← whole; standAt e.pos; holding [v] (truthy v)) := by
  intro whole
  cases e with
  | UnaryOp op x p => cases op <;> first | rfl | cases h
  | _ => first | rfl | cases h

section
variable {X : Cx} {T : Tb} {C : ACall} {Wx : WX} (hC : CMono C) {a b c : CE} {ea eb ec : Expr} {pos : Pos}
theorem s_const {e : Expr} {v : V} {av : AV} {t : AT} (p : PE X e (tC v)) (hv : ∀ H, Rep X.K H av v) (ht : ∀ env h Q E, t env h Q E → Q av h) : PE X e (cE (wd X T) Wx t) :=
  p.imp fun σ H Q ⟨env, h, re, rh, q⟩ => (ht env h _ _ q).here rh (hv H)
theorem s_var {i : Nat} {x : Str} (hN : X.N[i]? = some x) (hv : Vis X.env.scope x) (hd : (x == ("__debug__" : Str)) = false) (hcd : (x == ("__classdict__" : Str)) = false) : PE X (.Name x pos) (cE (wd X T) Wx (wpE C T (.var i))) :=
  (pe_var hN hv hd hcd).imp fun σ H Q ⟨env, h, re, rh, av, e, q⟩ => by
    obtain ⟨v, e1, r⟩ := re.get i av e
    exact ⟨v, e1, cQ.here (W := (wd X T)) q rh r⟩
theorem a_nil : PA X [] (cA (wd X T) Wx (wpEs C T .nil)) := pa_nil.imp fun σ H Q ⟨env, h, re, rh, q⟩ => q [] H TLe.refl rh (reps_nil.mpr rfl)
include hC in
theorem a_cons {es : CE} {xs : List Expr} (ha : PE X ea (cE (wd X T) Wx (wpE C T a))) (hs : PA X xs (cA (wd X T) Wx (wpEs C T es))) (hn : nost ea = true) : PA X (ea :: xs) (cA (wd X T) Wx (wpEs C T (.cons a es))) :=
  (pa_cons ha hs (star_cons hn)).imp fun σ H Q ⟨env, h, re, rh, q⟩ => ⟨env, h, re, rh, wpE_mono hC a (fun av h1 q v H1 t1 r1 rv => ⟨env, h1, re.mono t1, r1,
    wpEs_mono hC es (fun avs h2 q vs H2 t2 r2 rvs => q (v :: vs) H2 (t1.trans t2) r2 (reps_cons.mpr ⟨v, vs, rfl, rv.mono t2, rvs⟩)) (cX.mono t1) q⟩) (fun _ _ z => z) q⟩
include hC in
theorem s_tup {es : CE} {xs : List Expr} {k : Nat} (hs : PA X xs (cA (wd X T) Wx (wpEs C T es))) : PE X (.Tuple xs k pos) (cE (wd X T) Wx (wpE C T (.tup es))) :=
  (pe_tupP hs).imp fun σ H Q ⟨env, h, re, rh, q⟩ => ⟨env, h, re, rh, wpEs_mono hC es (fun avs h1 q vs H1 t1 r1 rv => ⟨by rw [rv.length]; exact q.1, fun p o hp ho => cQ.tupN (cQ.mono t1 _ _ q.2) r1 hp ho rv⟩) (fun _ _ z => z) q⟩
include hC in
theorem s_lst {es : CE} {xs : List Expr} (hs : PA X xs (cA (wd X T) Wx (wpEs C T es))) : PE X (.List xs pos) (cE (wd X T) Wx (wpE C T (.lst es))) :=
  (pe_lst hs).imp fun σ H Q ⟨env, h, re, rh, q⟩ => ⟨env, h, re, rh, wpEs_mono hC es (fun avs h1 q vs H1 t1 r1 rv => ⟨by rw [rv.length]; exact q.1, fun p hp => cQ.lstN (newL_mono (cQ.mono t1) q.2) r1 hp rv⟩) (fun _ _ z => z) q⟩
theorem s_dct0 : PE X (.Dict [] [] pos) (cE (wd X T) Wx (wpE C T .dct0)) :=
  pe_dnewK.imp fun σ H Q ⟨env, h, re, rh, q⟩ => fun p hp => q p (rh.isNone hp) _ _ (TLe.fresh hp) (rh.new hp (show RO (wd X T) _ p (.dK []) from ⟨[], upd_same, reps_nil.mpr rfl⟩)) (rep_ref.mpr rfl)
include hC in
theorem s_bin {op : BOp} (ha : PE X ea (cE (wd X T) Wx (wpE C T a))) (hb : PE X eb (cE (wd X T) Wx (wpE C T b))) : PE X (.BinOp ea (bopPy op) eb pos) (cE (wd X T) Wx (wpE C T (.bin op a b))) :=
  (pe_op (o_bin op) ha hb).imp fun σ H Q ⟨env, h, re, rh, q⟩ => ⟨env, h, re, rh, wpE_mono hC a (fun x h1 q v H1 t1 r1 rv => ⟨env, h1, re.mono t1, r1,
    wpE_mono hC b (fun y h2 q w H2 t2 r2 rw' => ⟨x, y, h2, r2, rv.mono t2, rw', binR_mono (cQ.mono (t1.trans t2)) q⟩) (cX.mono t1) q⟩) (fun _ _ z => z) q⟩
include hC in
theorem s_neg (ha : PE X ea (cE (wd X T) Wx (wpE C T a))) : PE X (.UnaryOp .USub ea pos) (cE (wd X T) Wx (wpE C T (.neg a))) :=
  (pe_un un_neg ha).imp fun σ H Q ⟨env, h, re, rh, q⟩ => ⟨env, h, re, rh, wpE_mono hC a (fun x h1 ⟨i, e, q⟩ v H1 t1 r1 rv => ⟨i, by rw [e] at rv; exact rep_int.mp rv, cQ.int (cQ.mono t1 _ _ q) r1⟩) (fun _ _ z => z) q⟩
include hC in
theorem s_not (ha : PE X ea (cE (wd X T) Wx (wpE C T a))) : PE X (.UnaryOp .Not ea pos) (cE (wd X T) Wx (wpE C T (.not a))) :=
  (pe_not ha).imp fun σ H Q ⟨env, h, re, rh, q⟩ => ⟨env, h, re, rh, wpE_mono hC a (fun x h1 ⟨i, e, q⟩ v H1 t1 r1 rv => ⟨i, by rw [e] at rv; exact rep_bl.mp rv, cQ.bl (cQ.mono t1 _ _ q) r1⟩) (fun _ _ z => z) q⟩
include hC in
theorem s_cmp {op : COp} (hu : X.A.units + 64 < cLine) (ha : PE X ea (cE (wd X T) Wx (wpE C T a))) (hb : PE X eb (cE (wd X T) Wx (wpE C T b))) (hs : noset eb = true) : PE X (.Compare ea [copPy op] [eb] pos) (cE (wd X T) Wx (wpE C T (.cmp op a b))) :=
  (pe_cmpR (o_cmp (T := T) hu op) ha hb (mark_no hs)).imp fun σ H Q ⟨env, h, re, rh, q⟩ => ⟨env, h, re, rh, wpE_mono hC a (fun x h1 q v H1 t1 r1 rv => ⟨env, h1, re.mono t1, r1,
    wpE_mono hC b (fun y h2 q w H2 t2 r2 rw' => ⟨x, y, h2, r2, rv.mono t2, rw', cmpR_mono (fun r q => cQ.bl (cQ.mono (t1.trans t2) _ _ q) r2) q⟩) (cX.mono t1) q⟩) (fun _ _ z => z) q⟩
include hC in
theorem t_cmp {op : COp} (hu : X.A.units + 64 < cLine) (ha : PE X ea (cE (wd X T) Wx (wpE C T a))) (hb : PE X eb (cE (wd X T) Wx (wpE C T b))) (hs : noset eb = true) : PT X (.Compare ea [copPy op] [eb] pos) (cT (wd X T) Wx (wpT C T (.cmp op a b))) :=
  (pt_cmpR (o_cmp (T := T) hu op) ha hb (mark_no hs)).imp fun σ H Q ⟨env, h, re, rh, q⟩ => ⟨env, h, re, rh, wpE_mono hC a (fun x h1 q v H1 t1 r1 rv => ⟨env, h1, re.mono t1, r1,
    wpE_mono hC b (fun y h2 q w H2 t2 r2 rw' => ⟨x, y, h2, r2, rv.mono t2, rw', cmpR_mono (fun r q => ⟨r, rfl, q H2 (t1.trans t2) r2⟩) q⟩) (cX.mono t1) q⟩) (fun _ _ z => z) q⟩
include hC in
theorem s_chain {o o' : COp} (hu : X.A.units + 64 < cLine) (ha : PE X ea (cE (wd X T) Wx (wpE C T a))) (hb : PE X eb (cE (wd X T) Wx (wpE C T b))) (hc : PE X ec (cE (wd X T) Wx (wpE C T c))) (hs : noset ec = true) : PE X (.Compare ea [copPy o, copPy o'] [eb, ec] pos) (cE (wd X T) Wx (wpE C T (.chain o o' a b c))) :=
  (pe_chain (o_cmp (T := T) hu o) (o_cmp (T := T) hu o') ha hb hc (last_no hs)).imp fun σ H Q ⟨env, h, re, rh, q⟩ => ⟨env, h, re, rh, wpE_mono hC a (fun x h1 q v H1 t1 r1 rv => ⟨env, h1, re.mono t1, r1,
    wpE_mono hC b (fun y h2 q w H2 t2 r2 rw' => ⟨x, y, h2, r2, rv.mono t2, rw', cmpR_mono (fun r q => ⟨r, rfl, by
      cases r with
      | true => exact ⟨env, h2, re.mono (t1.trans t2), r2, wpE_mono hC c (fun z h3 q u H3 t3 r3 ru => ⟨y, z, h3, r3, rw'.mono t3, ru, cmpR_mono (fun r q => cQ.bl (cQ.mono ((t1.trans t2).trans t3) _ _ q) r3) q⟩) (cX.mono (t1.trans t2)) q⟩
      | false => exact cQ.bl (cQ.mono (t1.trans t2) _ _ q) r2⟩) q⟩) (cX.mono t1) q⟩) (fun _ _ z => z) q⟩
include hC in
theorem t_chain {o o' : COp} (hu : X.A.units + 64 < cLine) (ha : PE X ea (cE (wd X T) Wx (wpE C T a))) (hb : PE X eb (cE (wd X T) Wx (wpE C T b))) (hc : PE X ec (cE (wd X T) Wx (wpE C T c))) (hs : noset ec = true) : PT X (.Compare ea [copPy o, copPy o'] [eb, ec] pos) (cT (wd X T) Wx (wpT C T (.chain o o' a b c))) :=
  (pt_chain (o_cmp (T := T) hu o) (o_cmp (T := T) hu o') ha hb hc (last_no hs)).imp fun σ H Q ⟨env, h, re, rh, q⟩ => ⟨env, h, re, rh, wpE_mono hC a (fun x h1 q v H1 t1 r1 rv => ⟨env, h1, re.mono t1, r1,
    wpE_mono hC b (fun y h2 q w H2 t2 r2 rw' => ⟨x, y, h2, r2, rv.mono t2, rw', cmpR_mono (fun r q => ⟨r, rfl, by
      cases r with
      | true => exact ⟨env, h2, re.mono (t1.trans t2), r2, wpE_mono hC c (fun z h3 q u H3 t3 r3 ru => ⟨y, z, h3, r3, rw'.mono t3, ru, cmpR_mono (fun r q => ⟨r, rfl, q H3 ((t1.trans t2).trans t3) r3⟩) q⟩) (cX.mono (t1.trans t2)) q⟩
      | false => exact ⟨false, rfl, q H2 (t1.trans t2) r2⟩⟩) q⟩) (cX.mono t1) q⟩) (fun _ _ z => z) q⟩
include hC in
theorem s_and1 (ha : PE X ea (cE (wd X T) Wx (wpE C T a))) : PE X (.BoolOp .And [ea] pos) (cE (wd X T) Wx (wpAndV C T (.cons a .nil))) := (pe_one ha).imp fun σ H Q ⟨env, h, re, rh, q⟩ => ⟨env, h, re, rh, q⟩
include hC in
theorem s_and {b : CE} {r : CE} {er : List Expr} (ha : PE X ea (cE (wd X T) Wx (wpE C T a))) (hb : PE X (.BoolOp .And (eb :: er) pos) (cE (wd X T) Wx (wpAndV C T (.cons b r)))) : PE X (.BoolOp .And (ea :: eb :: er) pos) (cE (wd X T) Wx (wpAndV C T (.cons a (.cons b r)))) :=
  (pe_and ha hb).imp fun σ H Q ⟨env, h, re, rh, q⟩ => ⟨env, h, re, rh, wpE_mono hC a (fun x h1 ⟨cb, e, q⟩ v H1 t1 r1 rv => ⟨cb, by rw [e] at rv; exact rep_bl.mp rv, by
    cases cb with
    | true => exact ⟨env, h1, re.mono t1, r1, wpAndV_mono hC _ (cQ.mono t1) (cX.mono t1) q⟩
    | false => exact cQ.bl (cQ.mono t1 _ _ q) r1⟩) (fun _ _ z => z) q⟩
include hC in
theorem s_or1 (ha : PE X ea (cE (wd X T) Wx (wpE C T a))) : PE X (.BoolOp .Or [ea] pos) (cE (wd X T) Wx (wpOrV C T (.cons a .nil))) := (pe_one ha).imp fun σ H Q ⟨env, h, re, rh, q⟩ => ⟨env, h, re, rh, q⟩
include hC in
theorem s_or {b : CE} {r : CE} {er : List Expr} (ha : PE X ea (cE (wd X T) Wx (wpE C T a))) (hb : PE X (.BoolOp .Or (eb :: er) pos) (cE (wd X T) Wx (wpOrV C T (.cons b r)))) : PE X (.BoolOp .Or (ea :: eb :: er) pos) (cE (wd X T) Wx (wpOrV C T (.cons a (.cons b r)))) :=
  (pe_or ha hb).imp fun σ H Q ⟨env, h, re, rh, q⟩ => ⟨env, h, re, rh, wpE_mono hC a (fun x h1 ⟨cb, e, q⟩ v H1 t1 r1 rv => ⟨cb, by rw [e] at rv; exact rep_bl.mp rv, by
    cases cb with
    | false => exact ⟨env, h1, re.mono t1, r1, wpOrV_mono hC _ (cQ.mono t1) (cX.mono t1) q⟩
    | true => exact cQ.bl (cQ.mono t1 _ _ q) r1⟩) (fun _ _ z => z) q⟩
include hC in
theorem s_ifx (hc : PT X ec (cT (wd X T) Wx (wpT C T c))) (ha : PE X ea (cE (wd X T) Wx (wpE C T a))) (hb : PE X eb (cE (wd X T) Wx (wpE C T b))) : PE X (.IfExp ec ea eb pos) (cE (wd X T) Wx (wpE C T (.ifx c a b))) :=
  (pe_ifExp hc ha hb).imp fun σ H Q ⟨env, h, re, rh, q⟩ => ⟨env, h, re, rh, wpT_mono hC c (fun r h1 q H1 t1 r1 => by
    cases r with
    | true => exact ⟨env, h1, re.mono t1, r1, wpE_mono hC a (cQ.mono t1) (cX.mono t1) q⟩
    | false => exact ⟨env, h1, re.mono t1, r1, wpE_mono hC b (cQ.mono t1) (cX.mono t1) q⟩) (fun _ _ z => z) q⟩
include hC in
theorem s_idx (hu : X.A.units + 64 < cLine) (ha : PE X ea (cE (wd X T) Wx (wpE C T a))) (hb : PE X eb (cE (wd X T) Wx (wpE C T b))) (hs : nosl eb = true) : PE X (.Subscript ea eb pos) (cE (wd X T) Wx (wpE C T (.idx a b))) :=
  (pe_ix (x_ix (T := T) (by omega)) ha hb (ix_plain hs)).imp fun σ H Q ⟨env, h, re, rh, q⟩ => ⟨env, h, re, rh, wpE_mono hC a (fun x h1 q v H1 t1 r1 rv => ⟨env, h1, re.mono t1, r1,
    wpE_mono hC b (fun y h2 q w H2 t2 r2 rw' => ⟨x, y, h2, r2, rv.mono t2, rw', ixR_mono (cQ.mono (t1.trans t2)) q⟩) (cX.mono t1) q⟩) (fun _ _ z => z) q⟩
theorem p_none : PO X none (cP (wd X T) Wx (wpP C T .nil)) := po_none.imp fun σ H Q ⟨env, h, re, rh, q⟩ => q H TLe.refl rh
include hC in
theorem p_some {r : CE} (ha : PE X ea (cE (wd X T) Wx (wpE C T a))) : PO X (some ea) (cP (wd X T) Wx (wpP C T (.cons a r))) :=
  (po_some ha).imp fun σ H Q ⟨env, h, re, rh, q⟩ => ⟨env, h, re, rh, wpE_mono hC a (fun x h1 ⟨i, e, q⟩ v H1 t1 r1 rv => ⟨i, by rw [e] at rv; exact rep_int.mp rv, q H1 t1 r1⟩) (fun _ _ z => z) q⟩
include hC in
theorem s_slc {lo hi : CE} {el eh : Option Expr} {p2 : Pos} (ha : PE X ea (cE (wd X T) Wx (wpE C T a))) (hl : PO X el (cP (wd X T) Wx (wpP C T lo))) (hh : PO X eh (cP (wd X T) Wx (wpP C T hi))) : PE X (.Subscript ea (.Slice el eh none p2) pos) (cE (wd X T) Wx (wpE C T (.slc a lo hi))) :=
  (pe_slice (x_sl (T := T)) ha hl hh).imp fun σ H Q ⟨env, h, re, rh, q⟩ => ⟨env, h, re, rh, wpE_mono hC a (fun x h1 q v H1 t1 r1 rv => ⟨env, h1, re.mono t1, r1,
    wpP_mono hC lo (fun l h2 q H2 t2 r2 => ⟨env, h2, re.mono (t1.trans t2), r2, wpP_mono hC hi (fun u h3 q H3 t3 r3 => ⟨x, h3, r3, rv.mono (t2.trans t3), slR_mono (cQ.mono ((t1.trans t2).trans t3)) q⟩) (cX.mono (t1.trans t2)) q⟩) (cX.mono t1) q⟩) (fun _ _ z => z) q⟩
include hC in
theorem s_rev {k : Nat} {p1 p2 p3 : Pos} (ha : PE X ea (cE (wd X T) Wx (wpE C T a))) : PE X (.Subscript ea (.Slice none none (some (.UnaryOp .USub (.Constant (.int 1) k p1) p2)) p3) pos) (cE (wd X T) Wx (wpE C T (.rev a))) :=
  (pe_revL ha).imp fun σ H Q ⟨env, h, re, rh, q⟩ => ⟨env, h, re, rh, wpE_mono hC a (fun x h1 q v H1 t1 r1 rv => by
    cases x with
    | ref p =>
      obtain ⟨xs, e, q⟩ := q
      obtain ⟨vs, e1, k⟩ := r1.lst e
      exact ⟨p, vs, rep_ref.mp rv, SqL.of e1, fun n hn => cQ.lstN (newL_mono (cQ.mono t1) q) r1 hn k.reverse⟩
    | _ => exact False.elim q) (fun _ _ z => z) q⟩
include hC in
theorem s_blt {f : Blt} {es : CE} {e1 : Expr} {xs : List Expr} {p : Pos} (hc : X.calm = true) (hg : Gl X (bltNm f)) (hm : X.mg (bltNm f) = none) (hs : PA X (e1 :: xs) (cA (wd X T) Wx (wpEs C T es))) (hn : nost e1 = true) (hns : xs.all nost = true) : PE X (.Call (.Name (bltNm f) p) (e1 :: xs) [] pos) (cE (wd X T) Wx (wpE C T (.blt f es))) := by
  have nm := blt_name f
  have key : PE X (.Call (.Name (bltNm f) p) (e1 :: xs) [] pos) (tCB (cCall (wd X T) (bltR f)) (cA (wd X T) Wx (wpEs C T es))) := by
    have hb := b_blt (T := T) hc f
    have hv := boot_blt f
    rcases bltVal_kind f with ⟨id, e⟩ | ⟨id, e⟩
    · rw [e] at hb hv; exact pe_callB hb hg hm hv hs nm.1 nm.2 (star_cons hn) (star_any hns)
    · rw [e] at hb hv; exact pe_callTy hb hg hm hv hs nm.1 nm.2 (star_cons hn) (star_any hns)
  exact key.imp fun σ H Q ⟨env, h, re, rh, q⟩ => ⟨env, h, re, rh, wpEs_mono hC es (fun avs h1 q vs H1 t1 r1 rv => ⟨avs, h1, r1, rv, bltR_mono (cQ.mono t1) q⟩) (fun _ _ z => z) q⟩
end
end PL

namespace PL
open PySem PySem.Spec PyProof.Rows L2
def cSp (W : Wd) (c : List AV → AH → AQ → AXQ → Prop) : Sp := fun vs H Q E => ∃ avs h, RH W h H ∧ Reps W.K H avs vs ∧ c avs h (cQ W H Q) (fun ax h' => ∀ cls d H', TLe W.K H H' → RH W h' H' → RX W H' ax cls d → E cls d H')
def FnC (X : Cx) (T : Tb) (C : ACall) (f : Nat) (x : Str) : Prop := ∃ (fa : Addr) (fd : FuncData) (ps : List Str) (k : Nat), X.mg x = some (.ref fa) ∧ PySem.W.keepIn X.K (.ref fa) = true ∧ Binds X.K fd ps [] ∧ Room k X.A ∧
  FnOk X.prog X.w X.K X.mg X.base (L2.CX X.prog X.w) k fa fd ps (cSp (wd X T) (C f))
section
variable {X : Cx} {T : Tb} {C : ACall} {Wx : WX} (hC : CMono C) {a b c : CE} {ea eb ec : Expr} {pos : Pos}
include hC in
theorem t_tru (ha : PE X ea (cE (wd X T) Wx (wpE C T a))) (hv : byval ea = true) : PT X ea (cT (wd X T) Wx (wpT C T (.tru a))) :=
  (pt_truth ha (val_plain hv)).imp fun σ H Q ⟨env, h, re, rh, q⟩ => ⟨env, h, re, rh, wpE_mono hC a (fun x h1 q v H1 t1 r1 rv => tru_data r1 rv (truR_mono (fun r q => q H1 t1 r1) q)) (fun _ _ z => z) q⟩
include hC in
theorem t_not (ha : PT X ea (cT (wd X T) Wx (wpT C T a))) : PT X (.UnaryOp .Not ea pos) (cT (wd X T) Wx (wpT C T (.not a))) :=
  (pt_not ha).imp fun σ H Q ⟨env, h, re, rh, q⟩ => ⟨env, h, re, rh, wpT_mono hC a (fun r h1 q H1 t1 r1 => q H1 t1 r1) (fun _ _ z => z) q⟩
include hC in
theorem t_and1 (ha : PT X ea (cT (wd X T) Wx (wpT C T a))) : PW X (.BoolOp .And [ea] pos) (cT (wd X T) Wx (wpAnd C T (.cons a .nil))) :=
  (pw_and1 ha).imp fun σ H Q ⟨env, h, re, rh, q⟩ => ⟨env, h, re, rh, wpT_mono hC a (fun r h1 q H1 t1 r1 => by
    cases r with
    | true => exact q H1 t1 r1
    | false => exact q H1 t1 r1) (fun _ _ z => z) q⟩
include hC in
theorem t_and {r : CE} {er : List Expr} (ha : PT X ea (cT (wd X T) Wx (wpT C T a))) (hb : PW X (.BoolOp .And (eb :: er) pos) (cT (wd X T) Wx (wpAnd C T r))) : PW X (.BoolOp .And (ea :: eb :: er) pos) (cT (wd X T) Wx (wpAnd C T (.cons a r))) :=
  (pw_and ha hb).imp fun σ H Q ⟨env, h, re, rh, q⟩ => ⟨env, h, re, rh, wpT_mono hC a (fun r h1 q H1 t1 r1 => by
    cases r with
    | true => exact ⟨env, h1, re.mono t1, r1, wpAnd_mono hC _ (bQ.mono t1) (cX.mono t1) q⟩
    | false => exact q H1 t1 r1) (fun _ _ z => z) q⟩
include hC in
theorem t_or1 (ha : PT X ea (cT (wd X T) Wx (wpT C T a))) : PW X (.BoolOp .Or [ea] pos) (cT (wd X T) Wx (wpOr C T (.cons a .nil))) :=
  (pw_or1 ha).imp fun σ H Q ⟨env, h, re, rh, q⟩ => ⟨env, h, re, rh, wpT_mono hC a (fun r h1 q H1 t1 r1 => by
    cases r with
    | true => exact q H1 t1 r1
    | false => exact q H1 t1 r1) (fun _ _ z => z) q⟩
include hC in
theorem t_or {r : CE} {er : List Expr} (ha : PT X ea (cT (wd X T) Wx (wpT C T a))) (hb : PW X (.BoolOp .Or (eb :: er) pos) (cT (wd X T) Wx (wpOr C T r))) : PW X (.BoolOp .Or (ea :: eb :: er) pos) (cT (wd X T) Wx (wpOr C T (.cons a r))) :=
  (pw_or ha hb).imp fun σ H Q ⟨env, h, re, rh, q⟩ => ⟨env, h, re, rh, wpT_mono hC a (fun r h1 q H1 t1 r1 => by
    cases r with
    | false => exact ⟨env, h1, re.mono t1, r1, wpOr_mono hC _ (bQ.mono t1) (cX.mono t1) q⟩
    | true => exact q H1 t1 r1) (fun _ _ z => z) q⟩

def tyNm : Ty → String
  | .int => "int" | .bool => "bool" | .str => "str" | .tuple => "tuple" | .list => "list" | .dict => "dict" | .set => "set"
def tyNmS : Ty → Str
  | .int => "int" | .bool => "bool" | .str => "str" | .tuple => "tuple" | .list => "list" | .dict => "dict" | .set => "set"
theorem boot_ty (t : Ty) : bootBuiltins (tyNmS t) = some (.type (tyNm t)) := by cases t <;> decide +kernel
theorem ty_name (t : Ty) : tyNmS t ≠ "__name__" ∧ (tyNmS t == ("__debug__" : Str)) = false := by cases t <;> (constructor <;> decide +kernel)
def isT : String → Ty → Bool
  | "bool", .bool => true
  | "bool", .int => true
  | "int", .int => true
  | "str", .str => true
  | "tuple", .tuple => true
  | "list", .list => true
  | "dict", .dict => true
  | _, _ => false
theorem kit_isT (K : PySem.W.Frag) {n : String} (hn : n ∈ ["NoneType", "bool", "int", "str", "tuple", "list", "dict"]) (t : Ty) : PySem.W.kitOne K (.type n) (.type (tyNm t)) = some (isT n t) := by
  simp only [List.mem_cons, List.not_mem_nil, or_false] at hn
  rcases hn with rfl | rfl | rfl | rfl | rfl | rfl | rfl <;> cases t <;> exact kit_ty (by decide +kernel)
theorem kit_all (K : PySem.W.Frag) {n : String} (hn : n ∈ ["NoneType", "bool", "int", "str", "tuple", "list", "dict"]) : ∀ ts : List Ty, PySem.W.kitAny K (.type n) (ts.map fun t => Value.type (tyNm t)) = some (ts.any (isT n))
  | [] => rfl
  | t :: ts => by
    rw [List.map_cons, List.any_cons]
    cases e : isT n t with
    | true => exact kitAny_cons (b := true) (by rw [← e]; exact kit_isT K hn t) (fun z => nomatch z) fun _ => rfl
    | false => exact kitAny_cons (b := false) (by rw [← e]; exact kit_isT K hn t) (fun _ => by rw [kit_all K hn ts]; rfl) (fun z => nomatch z)
theorem any_has {n : String} {t : Ty} (h : ∀ u, isT n u = decide (u = t)) : ∀ ts : List Ty, ts.any (isT n) = hasTy ts t
  | [] => rfl
  | u :: ts => by
    rw [List.any_cons, any_has h ts, h]
    unfold hasTy
    by_cases e : u = t
    · subst e; simp
    · have e' : ¬ t = u := fun z => e z.symm
      simp [e, e']
theorem ty_data {H : Hp} {h : AH} {ax : AV} {x : V} {ts : List Ty} {Q : Bool → Prop} (rh : RH (wd X T) h H) (r : Rep X.K H ax x) (q : tyR ts ax h Q) :
    ∃ n, n ∈ ["NoneType", "bool", "int", "str", "tuple", "list", "dict"] ∧ TyX X.K H x (.type n) ∧ Q (ts.any (isT n)) := by
  cases ax with
  | non => rw [rep_non.mp r]; exact ⟨"NoneType", by simp, .base .non, by
      have e : ts.any (isT "NoneType") = false := by
        induction ts with
        | nil => rfl
        | cons u ts ih => rw [List.any_cons, ih q]; cases u <;> rfl
      rw [e]; exact q⟩
  | bl b =>
    rw [rep_bl.mp r]
    refine ⟨"bool", by simp, .base (.bl _), ?_⟩
    have e : ts.any (isT "bool") = (hasTy ts .bool || hasTy ts .int) := by
      clear q
      induction ts with
      | nil => rfl
      | cons u ts ih =>
        rw [List.any_cons, ih]
        unfold hasTy
        cases u <;> simp [isT]
    rw [e]; exact q
  | int i => rw [rep_int.mp r]; exact ⟨"int", by simp, .base (.int _), by rw [any_has (t := .int) (fun u => by cases u <;> rfl)]; exact q⟩
  | str i => rw [rep_str.mp r]; exact ⟨"str", by simp, .base (.str _), by rw [any_has (t := .str) (fun u => by cases u <;> rfl)]; exact q⟩
  | tup xs =>
    obtain ⟨a, vs, rfl, t, k⟩ := rep_tupT r
    refine ⟨"tuple", by simp, ?_, by rw [any_has (t := .tuple) (fun u => by cases u <;> rfl)]; exact q⟩
    rcases t with (t | ⟨o, t⟩) | ⟨o, its, n, t, hc, _⟩
    · exact .base (.tup t)
    · exact .fTuple t
    · exact .kTuple t hc
  | wt xs => exact False.elim q
  | rl xs =>
    obtain ⟨a, vs, rfl, t, k⟩ := rep_rl.mp r
    refine ⟨"list", by simp, ?_, by rw [any_has (t := .list) (fun u => by cases u <;> rfl)]; exact q⟩
    rcases t with ⟨o, t⟩ | ⟨o, its, n, t, hc, _⟩
    · exact .base (.frz t)
    · exact .kList t hc
  | ref a =>
    rw [rep_ref.mp r]
    rcases q with ⟨xs, e, q⟩ | ⟨kvs, e, q⟩
    · obtain ⟨vs, h1, _⟩ := rh.lst e
      exact ⟨"list", by simp, .base (.lst h1), by rw [any_has (t := .list) (fun u => by cases u <;> rfl)]; exact q⟩
    · obtain ⟨vs, h1, _⟩ := rh.dK e
      exact ⟨"dict", by simp, .base (.dK h1), by rw [any_has (t := .dict) (fun u => by cases u <;> rfl)]; exact q⟩
theorem pe_ty {t : Ty} {p : Pos} (hg : Gl X (tyNmS t)) (hm : X.mg (tyNmS t) = none) : PE X (.Name (tyNmS t) p) (tC (.ty (tyNm t))) := pe_bltn hg hm (boot_ty t) rfl (ty_name t).1 (ty_name t).2
include hC in
theorem s_isin1 {t : Ty} {p p2 : Pos} (hg : Gl X "isinstance") (hm : X.mg "isinstance" = none) (hgt : Gl X (tyNmS t)) (hmt : X.mg (tyNmS t) = none) (ha : PE X ea (cE (wd X T) Wx (wpE C T a))) (hn : nost ea = true) :
    PE X (.Call (.Name "isinstance" p) [ea, .Name (tyNmS t) p2] [] pos) (cE (wd X T) Wx (wpE C T (.isin a [t]))) :=
  (pe_callB call_isi hg hm (by decide +kernel) (pa_cons ha (pa_cons (pe_ty hgt hmt) pa_nil) (star_cons hn)) (by decide) (by decide) (star_cons hn) rfl).imp fun σ H Q ⟨env, h, re, rh, q⟩ =>
    ⟨env, h, re, rh, wpE_mono hC a (fun x h1 q v H1 t1 r1 rv => by
      obtain ⟨n, hn, ty, q⟩ := ty_data (T := T) r1 rv q
      exact ⟨v, .ty (tyNm t), .type n, .type (tyNm t), _, rfl, .ty _, ty, kit_isT X.K hn t, by
        have e : ([t].any (isT n)) = isT n t := by simp
        rw [e] at q
        exact cQ.bl (cQ.mono t1 _ _ q) r1⟩) (fun _ _ z => z) q⟩
def tyEs : List Ty → List Pos → List Expr
  | t :: ts, p :: ps => .Name (tyNmS t) p :: tyEs ts ps
  | _, _ => []
theorem pa_tys : ∀ {ts : List Ty} {ps : List Pos}, ts.length = ps.length → (∀ t ∈ ts, Gl X (tyNmS t) ∧ X.mg (tyNmS t) = none) → PA X (tyEs ts ps) (fun _ H Q => Q (ts.map fun t => V.ty (tyNm t)) H)
  | [], ps, _, _ => pa_nil.imp fun _ _ _ q => q
  | t :: ts, [], e, _ => by cases e
  | t :: ts, p :: ps, e, h => (pa_cons (pe_ty (h t List.mem_cons_self).1 (h t List.mem_cons_self).2) (pa_tys (ts := ts) (ps := ps) (by simpa using e) fun u hu => h u (List.mem_cons_of_mem _ hu)) rfl).imp fun _ _ _ q => q
theorem clsV_tys : ∀ ts : List Ty, Paired ClsV (ts.map fun t => V.ty (tyNm t)) (ts.map fun t => Value.type (tyNm t))
  | [] => .nil
  | t :: ts => .cons (.ty _) (clsV_tys ts)
include hC in
theorem s_isinT {ts : List Ty} {ps : List Pos} {p p2 : Pos} {k : Nat} (hl : ts.length = ps.length) (hz : ts.length ≤ 20) (hg : Gl X "isinstance") (hm : X.mg "isinstance" = none) (hts : ∀ t ∈ ts, Gl X (tyNmS t) ∧ X.mg (tyNmS t) = none) (ha : PE X ea (cE (wd X T) Wx (wpE C T a))) (hn : nost ea = true) :
    PE X (.Call (.Name "isinstance" p) [ea, .Tuple (tyEs ts ps) k p2] [] pos) (cE (wd X T) Wx (wpE C T (.isin a ts))) :=
  (pe_callB call_isiT hg hm (by decide +kernel) (pa_cons ha (pa_cons (pe_tup (pa_tys hl hts)) pa_nil) (star_cons hn)) (by decide) (by decide) (star_cons hn) rfl).imp fun σ H Q ⟨env, h, re, rh, q⟩ =>
    ⟨env, h, re, rh, wpE_mono hC a (fun x h1 q v H1 t1 r1 rv => ⟨by rw [List.length_map]; rw [sizeLine_eq]; omega, fun tp hp => by
      have rv' := rv.mono (TLe.fresh (K := X.K) (o := .tup (ts.map fun t => V.ty (tyNm t))) hp)
      have r1' : RH (wd X T) h1 (upd H1 tp (.tup (ts.map fun t => V.ty (tyNm t)))) := r1.fresh hp
      obtain ⟨n, hn, ty, q⟩ := ty_data (T := T) r1' rv' q
      exact ⟨v, tp, _, .type n, _, _, rfl, upd_same, clsV_tys ts, ty, kit_all X.K hn ts, cQ.bl (cQ.mono (t1.trans (TLe.fresh hp)) _ _ q) r1'⟩⟩) (fun _ _ z => z) q⟩

theorem pe_call0S {CX : CXT} {k : Nat} {f : Addr} {fd : FuncData} {ps : List Str} {sp : Sp} {E : L2.St → XK} {x : Str} {p : Pos} (F : FnOk X.prog X.w X.K X.mg X.base CX k f fd ps sp) (hr : Room k X.A) (hg : Gl X x) (hm : X.mg x = some (.ref f)) (hk : PySem.W.keepIn X.K (.ref f) = true) (hb : Binds X.K fd ps []) (hx : ∀ σ, PassesAt CX X σ (E σ))
    (hdb : (x == ("__debug__" : Str)) = false) : PE X (.Call (.Name x p) [] [] pos) (tCallS sp E tNil) := by
  refine ⟨fun pins s σ H Q I h => ?_⟩
  refine wpAny_Call_Name_kw (ld_glob I hg hm ?_ hdb)
  exact PySem.W.callWith_K0 I.kIn hk (run_fnS (us := []) (vs := []) F hr hb (hx σ) I .nil h)
include hC in
theorem s_call0 {f : Nat} {x : Str} {p : Pos} (tk : Takes X Wx) (F : FnC X T C f x) (hg : Gl X x) (hdb : (x == ("__debug__" : Str)) = false) : PE X (.Call (.Name x p) [] [] pos) (cE (wd X T) Wx (wpE C T (.call f .nil))) := by
  obtain ⟨fa, fd, ps, k, hm, hk, hb, hr, F⟩ := F
  exact (pe_call0S F hr hg hm hk hb (passAt tk) hdb).imp fun σ H Q ⟨env, h, re, rh, q⟩ => ⟨[], h, rh, reps_nil.mpr rfl, q⟩
include hC in
theorem s_call {f : Nat} {x : Str} {es : CE} {e : Expr} {r : List Expr} {p : Pos} (tk : Takes X Wx) (F : FnC X T C f x) (hg : Gl X x) (hdb : (x == ("__debug__" : Str)) = false) (hs : PA X (e :: r) (cA (wd X T) Wx (wpEs C T es))) (h1 : nost e = true) (h2 : r.all nost = true) :
    PE X (.Call (.Name x p) (e :: r) [] pos) (cE (wd X T) Wx (wpE C T (.call f es))) := by
  obtain ⟨fa, fd, ps, k, hm, hk, hb, hr, F⟩ := F
  exact (pe_callS F hr hg hm hk hb (passAt tk) hs hdb (star_cons h1) (star_any h2)).imp fun σ H Q ⟨env, h, re, rh, q⟩ =>
    ⟨env, h, re, rh, wpEs_mono hC es (fun avs h1 q vs H1 t1 r1 rv => ⟨avs, h1, r1, rv, hC _ _ _ _ _ _ _ (cQ.mono t1) (cX.mono t1) q⟩) (fun _ _ z => z) q⟩
end
end PL

namespace PL
open PySem PySem.Spec PyProof.Rows L2

def ItOk (W : Wd) (H0 : Hp) (J : It) (xs : List AV) (chk : AH → Prop) : Prop := ∀ (i : Nat) (H : Hp) (h : AH), TLe W.K H0 H → RH W h H → chk h →
  (∀ ax, xs[i]? = some ax → J.go i H ∧ ∀ x H', J.yld i H x H' → TLe W.K H H' ∧ (∀ h, RH W h H → RH W h H') ∧ Rep W.K H' ax x) ∧ (xs.length ≤ i → J.stop i H)
theorem ItOk.mono {W : Wd} {H0 H1 : Hp} {J : It} {xs : List AV} {chk : AH → Prop} (k : ItOk W H0 J xs chk) (t : TLe W.K H0 H1) : ItOk W H1 J xs chk := fun i H h t1 => k i H h (t.trans t1)
abbrev ATI := AEnv → AH → (List AV → (AH → Prop) → AH → Prop) → AXQ → Prop
def iQ (W : Wd) (H : Hp) (R : It → Hp → Prop) : List AV → (AH → Prop) → AH → Prop := fun xs chk h' => ∀ J H', TLe W.K H H' → RH W h' H' → ItOk W H' J xs chk → R J H'
theorem iQ.mono {W : Wd} {H H' : Hp} {R : It → Hp → Prop} (t : TLe W.K H H') : ∀ xs c h, iQ W H R xs c h → iQ W H' R xs c h := fun _ _ _ q J H2 t2 => q J H2 (t.trans t2)
def cI (W : Wd) (Wx : WX) (t : ATI) : TI := fun σ H R => ∃ env h, REnv W.K H env σ ∧ RH W h H ∧ t env h (iQ W H R) (cX W Wx σ H)
theorem _root_.L2.PI.imp {X : Cx} {tg e : Expr} {t t' : TI} (p : PI X tg e t) (h : ∀ σ H Q, t' σ H Q → t σ H Q) : PI X tg e t' := ⟨fun pins s σ H Q I q => p.run pins s σ H Q I (h σ H Q q)⟩

def eQ (W : Wd) (H : Hp) (Q : L2.St → Hp → Prop) : AEnv → AH → Prop := fun env' h' => ∀ σ' H', TLe W.K H H' → REnv W.K H' env' σ' → RH W h' H' → Q σ' H'
theorem eQ.mono {W : Wd} {H H' : Hp} {Q : L2.St → Hp → Prop} (t : TLe W.K H H') : ∀ e h, eQ W H Q e h → eQ W H' Q e h := fun _ _ q σ H2 t2 => q σ H2 (t.trans t2)
abbrev ATG := AV → AEnv → AH → (AEnv → AH → Prop) → AXQ → Prop
def cG (W : Wd) (Wx : WX) (t : ATG) : TG := fun v σ H Q => ∃ av env h, Rep W.K H av v ∧ REnv W.K H env σ ∧ RH W h H ∧ t av env h (eQ W H Q) (cX W Wx σ H)
abbrev ATGs := List AV → AEnv → AH → (AEnv → AH → Prop) → AXQ → Prop
def cGs (W : Wd) (t : ATGs) : TGs := fun vs σ H Q => ∃ avs env h, Reps W.K H avs vs ∧ REnv W.K H env σ ∧ RH W h H ∧ t avs env h (eQ W H Q) (fun _ _ => False)
theorem _root_.L2.PG.imp {X : Cx} {e : Expr} {t t' : TG} (p : PG X e t) (h : ∀ v σ H Q, t' v σ H Q → t v σ H Q) : PG X e t' := ⟨fun pins s σ H v u Q I r q => p.run pins s σ H v u Q I r (h v σ H Q q)⟩
theorem _root_.L2.PGs.imp {X : Cx} {e : List Expr} {t t' : TGs} (p : PGs X e t) (h : ∀ v σ H Q, t' v σ H Q → t v σ H Q) : PGs X e t' := ⟨fun pins s σ H v u Q I r q => p.run pins s σ H v u Q I r (h v σ H Q q)⟩

theorem rangeL_get : ∀ {n : Nat} {lo : Int} {i : Nat} {ax : AV}, (rangeL lo n)[i]? = some ax → i < n ∧ ax = .int (lo + i)
  | 0, _, _, _, e => by unfold rangeL at e; simp at e
  | n + 1, lo, 0, ax, e => by unfold rangeL at e; simp at e; exact ⟨Nat.succ_pos _, by rw [← e]; simp⟩
  | n + 1, lo, i + 1, ax, e => by
    unfold rangeL at e
    obtain ⟨h1, h2⟩ := rangeL_get (n := n) (i := i) (by simpa using e)
    exact ⟨Nat.succ_lt_succ h1, by rw [h2]; congr 1; omega⟩
theorem rangeL_len : ∀ {n : Nat} {lo : Int}, (rangeL lo n).length = n
  | 0, _ => rfl
  | n + 1, lo => by unfold rangeL; rw [List.length_cons, rangeL_len]
theorem enumL_get : ∀ {xs : List AV} {k i : Nat} {ax : AV}, (enumL k xs)[i]? = some ax → ∃ x, xs[i]? = some x ∧ ax = .wt [.int ((k + i : Nat) : Int), x]
  | [], _, _, _, e => by unfold enumL at e; simp at e
  | x :: xs, k, 0, ax, e => by unfold enumL at e; simp at e; exact ⟨x, rfl, by rw [← e]; simp⟩
  | x :: xs, k, i + 1, ax, e => by
    unfold enumL at e
    obtain ⟨y, h1, h2⟩ := enumL_get (xs := xs) (i := i) (by simpa using e)
    exact ⟨y, by simpa using h1, by rw [h2]; congr 3; omega⟩
theorem enumL_len : ∀ {xs : List AV} {k : Nat}, (enumL k xs).length = xs.length
  | [], _ => rfl
  | x :: xs, k => by unfold enumL; rw [List.length_cons, enumL_len, List.length_cons]
theorem zipL_get : ∀ {xs ys : List AV} {i : Nat} {ax : AV}, (zipL xs ys)[i]? = some ax → ∃ x y, xs[i]? = some x ∧ ys[i]? = some y ∧ ax = .wt [x, y]
  | [], ys, _, _, e => by unfold zipL at e; simp at e
  | x :: xs, [], _, _, e => by unfold zipL at e; simp at e
  | x :: xs, y :: ys, 0, ax, e => by unfold zipL at e; simp at e; exact ⟨x, y, rfl, rfl, e.symm⟩
  | x :: xs, y :: ys, i + 1, ax, e => by
    unfold zipL at e
    obtain ⟨a, b, h1, h2, h3⟩ := zipL_get (xs := xs) (ys := ys) (i := i) (by simpa using e)
    exact ⟨a, b, by simpa using h1, by simpa using h2, h3⟩
theorem zipL_len : ∀ {xs ys : List AV}, (zipL xs ys).length = min xs.length ys.length
  | [], ys => by unfold zipL; simp
  | x :: xs, [] => by unfold zipL; simp
  | x :: xs, y :: ys => by unfold zipL; rw [List.length_cons, zipL_len, List.length_cons, List.length_cons]; omega

section
variable {W : Wd} {H0 : Hp} {a b : Addr} {xs ys : List AV} {vs ws : List V}
theorem it_list (h1 : SqF W.K H0 a vs) (k : Reps W.K H0 xs vs) : ItOk W H0 (Itl W.K a) xs fun _ => True := fun i H h t r _ => by
  have q := (t.f a vs h1).sq
  have k' := k.mono t
  refine ⟨fun ax e => ?_, fun hl => ⟨vs, q, by rw [k.length]; exact hl⟩⟩
  obtain ⟨v, e1, rv⟩ := k'.get e
  refine ⟨⟨vs, v, q, e1⟩, fun x H' y => ?_⟩
  obtain ⟨rfl, y⟩ := y
  have e2 := y vs q
  rw [e1] at e2; cases e2
  exact ⟨TLe.refl, fun _ z => z, rv⟩
theorem it_lst : ItOk W H0 (Itl W.K a) xs fun h' => h' a = some (.lst xs) := fun i H h t r c => by
  obtain ⟨vs, e, k⟩ := r.lst c
  have q : SqL W.K H a vs := SqL.of e
  refine ⟨fun ax e => ?_, fun hl => ⟨vs, q, by rw [k.length]; exact hl⟩⟩
  obtain ⟨v, e1, rv⟩ := k.get e
  refine ⟨⟨vs, v, q, e1⟩, fun x H' y => ?_⟩
  obtain ⟨rfl, y⟩ := y
  have e2 := y vs q
  rw [e1] at e2; cases e2
  exact ⟨TLe.refl, fun _ z => z, rv⟩
theorem it_tup (h1 : SqT W.K H0 a vs) (k : Reps W.K H0 xs vs) : ItOk W H0 (Itt W.K a) xs fun _ => True := fun i H h t r _ => by
  have q := t.t a vs h1
  have k' := k.mono t
  refine ⟨fun ax e => ?_, fun hl => ⟨vs, q, by rw [k.length]; exact hl⟩⟩
  obtain ⟨v, e1, rv⟩ := k'.get e
  refine ⟨⟨vs, v, q, e1⟩, fun x H' y => ?_⟩
  obtain ⟨rfl, y⟩ := y
  have e2 := y vs q
  rw [e1] at e2; cases e2
  exact ⟨TLe.refl, fun _ z => z, rv⟩
theorem it_rng {lo : Int} {n : Nat} : ItOk W H0 (Itr lo n) (rangeL lo n) fun _ => True := fun i H h t r _ => by
  refine ⟨fun ax e => ?_, fun hl => by rw [rangeL_len] at hl; exact hl⟩
  obtain ⟨hi, rfl⟩ := rangeL_get e
  refine ⟨hi, fun x H' y => ?_⟩
  obtain ⟨rfl, rfl⟩ := y
  exact ⟨TLe.refl, fun _ z => z, rep_int.mpr rfl⟩
theorem it_str {z : Str} : ItOk W H0 (Its z) (z.cps.toList.map fun c => .str ⟨#[c]⟩) fun _ => True := fun i H h t r _ => by
  refine ⟨fun ax e => ?_, fun hl => by rw [List.length_map, Array.length_toList] at hl; exact hl⟩
  rw [List.getElem?_map, Array.getElem?_toList] at e
  obtain ⟨c, ec, rfl⟩ := Option.map_eq_some_iff.mp e
  refine ⟨(Array.getElem?_eq_some_iff.mp ec).1, fun x H' y => ?_⟩
  obtain ⟨rfl, c', e', rfl⟩ := y
  rw [ec] at e'; cases e'
  exact ⟨TLe.refl, fun _ z => z, rep_str.mpr rfl⟩
theorem it_enum : ItOk W H0 (Ite W.K a) (enumL 0 xs) fun h' => h' a = some (.lst xs) := fun i H h t r c => by
  obtain ⟨vs, e, k⟩ := r.lst c
  have q : SqL W.K H a vs := SqL.of e
  refine ⟨fun ax e => ?_, fun hl => ⟨vs, q, by rw [enumL_len] at hl; rw [k.length]; exact hl⟩⟩
  obtain ⟨x0, e0, rfl⟩ := enumL_get e
  obtain ⟨v, e1, rv⟩ := k.get e0
  refine ⟨⟨vs, v, q, e1⟩, fun x H' y => ?_⟩
  obtain ⟨Tp, x', rfl, hT, rfl, y⟩ := y
  have e2 := y vs q
  rw [e1] at e2; cases e2
  have t1 : TLe W.K H (upd H Tp (.tup [.int (i : Nat), v])) := TLe.fresh hT
  refine ⟨t1, fun h z => z.fresh hT, rep_wt.mpr ⟨Tp, _, rfl, .inl (.inl upd_same), ?_⟩⟩
  rw [Nat.zero_add]
  exact reps_cons.mpr ⟨_, _, rfl, rep_int.mpr rfl, Reps.one (rv.mono t1)⟩
theorem it_zip : ItOk W H0 (Itz W.K a b) (zipL xs ys) fun h' => h' a = some (.lst xs) ∧ h' b = some (.lst ys) := fun i H h t r c => by
  obtain ⟨vs, e, k⟩ := r.lst c.1
  obtain ⟨ws, e', k'⟩ := r.lst c.2
  have q : SqL W.K H a vs := SqL.of e
  have q' : SqL W.K H b ws := SqL.of e'
  refine ⟨fun ax e => ?_, fun hl => ⟨vs, ws, q, q', ?_⟩⟩
  · obtain ⟨x0, y0, e0, f0, rfl⟩ := zipL_get e
    obtain ⟨v, e1, rv⟩ := k.get e0
    obtain ⟨w, f1, rw'⟩ := k'.get f0
    refine ⟨⟨vs, ws, v, w, q, q', e1, f1⟩, fun x H' y => ?_⟩
    obtain ⟨Tp, x', y', rfl, hT, rfl, y1, y2⟩ := y
    have e2 := y1 vs q
    rw [e1] at e2; cases e2
    have f2 := y2 ws q'
    rw [f1] at f2; cases f2
    have t1 : TLe W.K H (upd H Tp (.tup [v, w])) := TLe.fresh hT
    exact ⟨t1, fun h z => z.fresh hT, rep_wt.mpr ⟨Tp, _, rfl, .inl (.inl upd_same), reps_cons.mpr ⟨_, _, rfl, rv.mono t1, Reps.one (rw'.mono t1)⟩⟩⟩
  · rw [zipL_len] at hl
    rw [k.length, k'.length]
    omega
theorem it_zipT (h1 : SqT W.K H0 a vs) (k : Reps W.K H0 xs vs) (h2 : SqT W.K H0 b ws) (k' : Reps W.K H0 ys ws) : ItOk W H0 (RZ.ItzT W.K a b) (zipL xs ys) fun _ => True := fun i H h t r c => by
  have q := t.t a vs h1
  have q' := t.t b ws h2
  have k := k.mono t
  have k' := k'.mono t
  refine ⟨fun ax e => ?_, fun hl => ⟨vs, ws, q, q', ?_⟩⟩
  · obtain ⟨x0, y0, e0, f0, rfl⟩ := zipL_get e
    obtain ⟨v, e1, rv⟩ := k.get e0
    obtain ⟨w, f1, rw'⟩ := k'.get f0
    refine ⟨⟨vs, ws, v, w, q, q', e1, f1⟩, fun x H' y => ?_⟩
    obtain ⟨Tp, x', y', rfl, hT, rfl, y1, y2⟩ := y
    have e2 := y1 vs q
    rw [e1] at e2; cases e2
    have f2 := y2 ws q'
    rw [f1] at f2; cases f2
    have t1 : TLe W.K H (upd H Tp (.tup [v, w])) := TLe.fresh hT
    exact ⟨t1, fun h z => z.fresh hT, rep_wt.mpr ⟨Tp, _, rfl, .inl (.inl upd_same), reps_cons.mpr ⟨_, _, rfl, rv.mono t1, Reps.one (rw'.mono t1)⟩⟩⟩
  · rw [zipL_len] at hl
    rw [k.length, k'.length]
    omega
end

section
variable {X : Cx} {T : Tb} {C : ACall} {Wx : WX} (hC : CMono C) {a b c : CE} {ea eb ec tg : Expr} {pos : Pos}
theorem iter_val {pins : List (Addr × Obj)} {σ : L2.St} {H : Hp} {s : Shared} {R : It → Hp → Prop} {ax : AV} {x : V} {v : Value} {h : AH} (I : Inv X pins σ H s) (rx : RelV x v) (rh : RH (wd X T) h H) (r : Rep X.K H ax x) (q : itR ax h fun xs chk => iQ (wd X T) H R xs chk h) :
    wpAny (model X.prog X.w) X.A (pyIter v) (PIE X pins σ tg R) X.xe s := by
  cases ax with
  | tup xs =>
    obtain ⟨a, vs, rfl, t, k⟩ := rep_tupT r
    cases (show v = Value.ref a from rx)
    obtain ⟨its, rv, p, hz⟩ := I.tuple t
    refine wpAny_pyIter_tuple (show s.heap.IsTuple a its.toArray from p) ?_
    refine ⟨s.heap.objs.size, [s.heap.objs.size], _, _, H, rfl, I.kept (t' := s.toks) fun b o e => Heap.get?_push_of_some _ e, turn_tuple a _, ⟨_, Heap.get?_push_size _ rfl, rfl, rfl⟩, fun b hb => ?_, q _ _ TLe.refl rh (it_tup t k)⟩
    have e : b = s.heap.objs.size := by simpa using hb
    subst e
    exact I.fpOk (Nat.le_refl _) (I.hok.fresh (Nat.le_refl _))
  | rl xs =>
    obtain ⟨a, vs, rfl, t, k⟩ := rep_rl.mp r
    cases (show v = Value.ref a from rx)
    obtain ⟨its, rv, p, hz⟩ := I.list t.sq
    refine wpAny_pyIter_list p.isList ?_
    refine ⟨s.heap.objs.size, [s.heap.objs.size], _, _, H, rfl, I.kept (t' := s.toks) fun b o e => Heap.get?_push_of_some _ e, turn_list a _, ⟨_, Heap.get?_push_size _ rfl, rfl, rfl⟩, fun b hb => ?_, q _ _ TLe.refl rh (it_list t k)⟩
    have e : b = s.heap.objs.size := by simpa using hb
    subst e
    exact I.fpOk (Nat.le_refl _) (I.hok.fresh (Nat.le_refl _))
  | str z =>
    cases (show x = V.str z from rep_str.mp r)
    obtain ⟨t, rfl⟩ := (show ∃ t, v = Value.str z t from rx)
    have q := q _ _ TLe.refl rh (it_str (W := (wd X T)) (H0 := H) (z := z))
    cases ha : z.cps.all (· < 128)
    · exact wpAny_pyIter_wide ha (pi_one (tk := s.toks) I _ (turn_str _ z t "str_iterator" (.inr rfl)) ⟨_, Heap.get?_push_size _ rfl, rfl, rfl⟩ q)
    · exact wpAny_pyIter_ascii ha (pi_one (tk := s.toks) I _ (turn_str _ z t "str_ascii_iterator" (.inl rfl)) ⟨_, Heap.get?_push_size _ rfl, rfl, rfl⟩ q)
  | ref a =>
    obtain ⟨xs, e, q⟩ := q
    cases (show x = V.ref a from rep_ref.mp r)
    cases (show v = Value.ref a from rx)
    obtain ⟨vs, h1, k⟩ := rh.lst e
    obtain ⟨its, rv, p, hz⟩ := I.list (X := X) (SqL.of (K := X.K) h1)
    refine wpAny_pyIter_list p.isList ?_
    refine ⟨s.heap.objs.size, [s.heap.objs.size], _, _, H, rfl, I.kept (t' := s.toks) fun b o e => Heap.get?_push_of_some _ e, turn_list a _, ⟨_, Heap.get?_push_size _ rfl, rfl, rfl⟩, fun b hb => ?_, q _ _ TLe.refl rh it_lst⟩
    have e : b = s.heap.objs.size := by simpa using hb
    subst e
    exact I.fpOk (Nat.le_refl _) (I.hok.fresh (Nat.le_refl _))
  | _ => exact False.elim q
include hC in
theorem i_val (ha : PE X ea (cE (wd X T) Wx (wpE C T a))) : PI X tg ea (cI (wd X T) Wx (wpI C T (.val a))) := by
  refine ⟨fun pins s σ H R I h => ?_⟩
  obtain ⟨env, h, re, rh, q⟩ := h
  refine thn (ha.run pins s σ H (fun x H1 => ∃ ax h1, RH (wd X T) h1 H1 ∧ Rep X.K H1 ax x ∧ itR ax h1 fun xs chk => iQ (wd X T) H1 R xs chk h1) I ⟨env, h, re, rh, wpE_mono hC a (fun x h1 q v H1 t1 r1 rv => ⟨x, h1, r1, rv, itR_mono (fun xs c q => iQ.mono t1 _ _ _ q) q⟩) (fun _ _ z => z) q⟩) fun v s1 ⟨x, H1, I1, r1, ax, h1, rh1, rx1, q1⟩ => ?_
  exact iter_val I1 r1 rh1 rx1 q1
include hC in
theorem i_range1 {p : Pos} (hg : Gl X "range") (hm : X.mg "range" = none) (ha : PE X ea (cE (wd X T) Wx (wpE C T a))) (hn : nost ea = true) : PI X tg (.Call (.Name "range" p) [ea] [] pos) (cI (wd X T) Wx (wpI C T (.range1 a))) :=
  (pi_range1 hg hm (pa_cons ha pa_nil (star_cons hn)) (by rw [star_cons hn]; rfl)).imp fun σ H R ⟨env, h, re, rh, q⟩ => ⟨env, h, re, rh, wpE_mono hC a (fun x h1 ⟨n, e, b1, b2, q⟩ v H1 t1 r1 rv =>
    ⟨n, by rw [e] at rv; rw [rep_int.mp rv], b1, b2, q _ _ t1 r1 it_rng⟩) (fun _ _ z => z) q⟩
include hC in
theorem i_range2 {p : Pos} (hg : Gl X "range") (hm : X.mg "range" = none) (ha : PE X ea (cE (wd X T) Wx (wpE C T a))) (hb : PE X eb (cE (wd X T) Wx (wpE C T b))) (hn : nost ea = true) (hn2 : nost eb = true) : PI X tg (.Call (.Name "range" p) [ea, eb] [] pos) (cI (wd X T) Wx (wpI C T (.range2 a b))) :=
  (pi_range2 hg hm (pa_cons ha (pa_cons hb pa_nil (star_cons hn2)) (star_cons hn)) (by rw [star_cons hn, star_cons hn2]; rfl) (by rw [star_cons hn2]; rfl)).imp fun σ H R ⟨env, h, re, rh, q⟩ =>
    ⟨env, h, re, rh, wpE_mono hC a (fun x h1 q v H1 t1 r1 rv => ⟨env, h1, re.mono t1, r1, wpE_mono hC b (fun y h2 ⟨m, n, e1, e2, bs, q⟩ w H2 t2 r2 rw' =>
      ⟨m, n, by rw [e1] at rv; rw [e2] at rw'; rw [rep_int.mp rv, rep_int.mp rw'], bs, q _ _ (t1.trans t2) r2 it_rng⟩) (cX.mono t1) q⟩) (fun _ _ z => z) q⟩
include hC in
theorem i_enum {p tpos : Pos} {elts : List Expr} {kk : Nat} (hg : Gl X "enumerate") (hm : X.mg "enumerate" = none) (ha : PE X ea (cE (wd X T) Wx (wpE C T a))) (hn : nost ea = true) : PI X (.Tuple elts kk tpos) (.Call (.Name "enumerate" p) [ea] [] pos) (cI (wd X T) Wx (wpI C T (.enum a))) :=
  (pi_enum hg hm (pa_cons ha pa_nil (star_cons hn)) (by rw [star_cons hn]; rfl)).imp fun σ H R ⟨env, h, re, rh, q⟩ => ⟨env, h, re, rh, wpE_mono hC a (fun x h1 ⟨p, xs, e, e2, q⟩ v H1 t1 r1 rv => by
    rw [e] at rv
    obtain ⟨vs, h1', k⟩ := r1.lst e2
    exact ⟨p, vs, by rw [rep_ref.mp rv], SqL.of h1', q _ _ t1 r1 it_enum⟩) (fun _ _ z => z) q⟩
include hC in
theorem i_zip {p tpos : Pos} {elts : List Expr} {kk : Nat} (hg : Gl X "zip") (hm : X.mg "zip" = none) (ha : PE X ea (cE (wd X T) Wx (wpE C T a))) (hb : PE X eb (cE (wd X T) Wx (wpE C T b))) (hn : nost ea = true) (hn2 : nost eb = true) :
    PI X (.Tuple elts kk tpos) (.Call (.Name "zip" p) [ea, eb] [] pos) (cI (wd X T) Wx (wpI C T (.zip a b))) :=
  (RZ.pi_zipA hg hm (pa_cons ha (pa_cons hb pa_nil (star_cons hn2)) (star_cons hn)) (star_cons hn) (star_any (by simp [hn2]))).imp fun σ H R ⟨env, h, re, rh, q⟩ =>
    ⟨env, h, re, rh, wpE_mono hC a (fun x h1 q v H1 t1 r1 rv => ⟨env, h1, re.mono t1, r1, wpE_mono hC b (fun y h2 q w H2 t2 r2 rw' => by
      have rv := rv.mono t2
      rcases q with ⟨xs, ys, e1, e2, q⟩ | ⟨p, r, xs, ys, e1, e2, e3, e4, q⟩
      · rw [e1] at rv
        rw [e2] at rw'
        obtain ⟨a, vs, rfl, st, k⟩ := rep_tupT rv
        obtain ⟨b, ws, rfl, st', k'⟩ := rep_tupT rw'
        exact ⟨a, b, vs, ws, rfl, .inr ⟨st, st', q _ _ (t1.trans t2) r2 (it_zipT st k st' k')⟩⟩
      · rw [e1] at rv
        rw [e2] at rw'
        obtain ⟨vs, h1', k⟩ := r2.lst e3
        obtain ⟨ws, h2', k'⟩ := r2.lst e4
        exact ⟨p, r, vs, ws, by rw [rep_ref.mp rv, rep_ref.mp rw'], .inl ⟨SqL.of h1', SqL.of h2', q _ _ (t1.trans t2) r2 it_zip⟩⟩) (cX.mono t1) q⟩) (fun _ _ z => z) q⟩

theorem isL_ty {H : Hp} {h : AH} {ax : AV} {x : V} (rh : RH (wd X T) h H) (r : Rep X.K H ax x) (q : isL ax h) : tyV X.K "list" x H := by
  cases ax with
  | ref a =>
    obtain ⟨xs, e⟩ := q
    obtain ⟨vs, h1, _⟩ := rh.lst e
    rw [rep_ref.mp r]
    exact .inl ⟨rfl, vs, SqL.of h1⟩
  | _ => exact False.elim q
include hC in
theorem s_append {o ex : Expr} {eo ee : CE} {apos cpos : Pos} (ho : PE X o (cE (wd X T) Wx (wpE C T eo))) (hs : PA X [ex] (cA (wd X T) Wx (wpEs C T ee))) (h1 : nocall o = true) (hl : (apos.endLine == cpos.line) = true) (hn : nost ex = true) :
    PE X (.Call (.Attribute o "append" apos) [ex] [] cpos) (cE (wd X T) Wx (wpE C T (.mth .append eo ee))) :=
  (pe_bm PySem.F.plainAttrs_list PySem.F.slot_list_append PySem.F.type_list_append (m_append (T := T)) ho hs (base_plain h1) (by
      rw [star_cons hn]; rfl) hl (star_cons hn) rfl).imp fun σ H Q ⟨env, h, re, rh, q⟩ => ⟨env, h, re, rh, wpE_mono hC eo (fun x h1 q v H1 t1 r1 rv => ⟨isL_ty r1 rv q.1, env, h1, re.mono t1, r1,
        wpEs_mono hC ee (fun avs h2 q vs H2 t2 r2 rvs => ⟨x, avs, h2, r2, rv.mono t2, rvs, mthR_mono (cQ.mono (t1.trans t2)) q⟩) (cX.mono t1) q.2⟩) (fun _ _ z => z) q⟩
include hC in
theorem s_extend {o ex : Expr} {eo ee : CE} {apos cpos : Pos} (ho : PE X o (cE (wd X T) Wx (wpE C T eo))) (hs : PA X [ex] (cA (wd X T) Wx (wpEs C T ee))) (h1 : nocall o = true) (hl : (apos.endLine == cpos.line) = true) (hn : nost ex = true) :
    PE X (.Call (.Attribute o "extend" apos) [ex] [] cpos) (cE (wd X T) Wx (wpE C T (.mth .extend eo ee))) :=
  (pe_bm PySem.F.plainAttrs_list PySem.F.slot_list_extend PySem.F.type_list_extend (m_extend (T := T)) ho hs (base_plain h1) (by
      rw [star_cons hn]; rfl) hl (star_cons hn) rfl).imp fun σ H Q ⟨env, h, re, rh, q⟩ => ⟨env, h, re, rh, wpE_mono hC eo (fun x h1 q v H1 t1 r1 rv => ⟨isL_ty r1 rv q.1, env, h1, re.mono t1, r1,
        wpEs_mono hC ee (fun avs h2 q vs H2 t2 r2 rvs => ⟨x, avs, h2, r2, rv.mono t2, rvs, mthR_mono (cQ.mono (t1.trans t2)) q⟩) (cX.mono t1) q.2⟩) (fun _ _ z => z) q⟩
include hC in
theorem s_pop {o : Expr} {eo : CE} {apos cpos : Pos} (ho : PE X o (cE (wd X T) Wx (wpE C T eo))) (h1 : nocall o = true) (hl : (apos.endLine == cpos.line) = true) :
    PE X (.Call (.Attribute o "pop" apos) [] [] cpos) (cE (wd X T) Wx (wpE C T (.mth .pop eo .nil))) :=
  (pe_bm0 PySem.F.plainAttrs_list PySem.F.slot_list_pop PySem.F.type_list_pop (m_pop (T := T)) ho (base_plain h1) hl).imp fun σ H Q ⟨env, h, re, rh, q⟩ => ⟨env, h, re, rh, wpE_mono hC eo (fun x h1 q v H1 t1 r1 rv => ⟨isL_ty r1 rv q.1,
    x, [], h1, r1, rv, reps_nil.mpr rfl, mthR_mono (cQ.mono t1) q.2⟩) (fun _ _ z => z) q⟩
include hC in
theorem s_popA {o ex : Expr} {eo ee : CE} {apos cpos : Pos} (ho : PE X o (cE (wd X T) Wx (wpE C T eo))) (hs : PA X [ex] (cA (wd X T) Wx (wpEs C T ee))) (h1 : nocall o = true) (hl : (apos.endLine == cpos.line) = true) (hn : nost ex = true) :
    PE X (.Call (.Attribute o "pop" apos) [ex] [] cpos) (cE (wd X T) Wx (wpE C T (.mth .pop eo ee))) :=
  (pe_bm PySem.F.plainAttrs_list PySem.F.slot_list_pop PySem.F.type_list_pop (m_pop (T := T)) ho hs (base_plain h1) (by
      rw [star_cons hn]; rfl) hl (star_cons hn) rfl).imp fun σ H Q ⟨env, h, re, rh, q⟩ => ⟨env, h, re, rh, wpE_mono hC eo (fun x h1 q v H1 t1 r1 rv => ⟨isL_ty r1 rv q.1, env, h1, re.mono t1, r1,
        wpEs_mono hC ee (fun avs h2 q vs H2 t2 r2 rvs => ⟨x, avs, h2, r2, rv.mono t2, rvs, mthR_mono (cQ.mono (t1.trans t2)) q⟩) (cX.mono t1) q.2⟩) (fun _ _ z => z) q⟩
theorem isD_dat {H : Hp} {h : AH} {ax : AV} {x : V} (rh : RH (wd X T) h H) (r : Rep X.K H ax x) (q : PL.isD ax h) : ∃ a, x = .ref a ∧ IsD H a := by
  cases ax with
  | ref a =>
    obtain ⟨xs, e⟩ := q
    obtain ⟨vs, h1, _⟩ := rh.dK e
    exact ⟨a, rep_ref.mp r, .inl ⟨_, .inl h1⟩⟩
  | _ => exact False.elim q
theorem get_dat {H : Hp} {h : AH} {ax ak ad : AV} {x k d : V} {Q : VK} (rh : RH (wd X T) h H) (r : Rep X.K H ax x) (r2 : Rep X.K H ak k) (r3 : Rep X.K H ad d) (q : getR ax ak ad h (cQ (wd X T) H Q)) : ∀ a, x = .ref a → ∃ o, DGet H a k o ∧ Q (o.getD d) H := by
  intro b eb
  cases ax with
  | ref a =>
    obtain ⟨kvs, k', ek, e, q⟩ := q
    obtain ⟨vs, h1, h2⟩ := rh.dK e
    have ex := key_rep ek r2
    have ea := rep_ref.mp r
    rw [eb] at ea
    cases ea
    refine ⟨valV ((kvs.map (·.1)).zip vs) k', by rw [ex]; exact DGet.k h1, ?_⟩
    rcases dget_rel k' h2 with ⟨e1, e2⟩ | ⟨x', v', e1, e2, rv⟩
    · rw [e2]; rw [e1] at q; exact cQ.here (W := (wd X T)) q rh r3
    · rw [e2]; rw [e1] at q; exact cQ.here (W := (wd X T)) q rh rv
  | _ => exact False.elim q
include hC in
theorem s_get2 {o k d : Expr} {eo ek ed : CE} {apos cpos : Pos} (hu : X.A.units + 64 < cLine) (ho : PE X o (cE (wd X T) Wx (wpE C T eo))) (hk : PE X k (cE (wd X T) Wx (wpE C T ek))) (hd : PE X d (cE (wd X T) Wx (wpE C T ed))) (h1 : nocall o = true) (hl : (apos.endLine == cpos.line) = true) (hn : nost k = true) (hn2 : nost d = true) :
    PE X (.Call (.Attribute o "get" apos) [k, d] [] cpos) (cE (wd X T) Wx (wpE C T (.mth .get eo (.cons ek (.cons ed .nil))))) :=
  (pe_dget2 (by omega) ho hk hd ⟨base_plain h1, by rw [star_cons hn, star_cons hn2]; rfl, hl, by rw [star_cons hn, star_cons hn2]; rfl⟩).imp fun σ H Q ⟨env, h, re, rh, q⟩ =>
    ⟨env, h, re, rh, wpE_mono hC eo (fun x h1 q v H1 t1 r1 rv => by
      obtain ⟨a, ea, hd⟩ := isD_dat (T := T) r1 rv q.1
      refine ⟨a, ea, hd, env, h1, re.mono t1, r1, wpE_mono hC ek (fun y h2 q w H2 t2 r2 rw' => ⟨env, h2, re.mono (t1.trans t2), r2, wpE_mono hC ed (fun z h3 q u H3 t3 r3 ru =>
        get_dat (T := T) r3 (rv.mono (t2.trans t3)) (rw'.mono t3) ru (by
          have q : getR x y z h3 (cQ (wd X T) H Q) := q
          cases x with
          | ref _ => obtain ⟨kvs, k', e1, e2, q⟩ := q; exact ⟨kvs, k', e1, e2, cQ.mono ((t1.trans t2).trans t3) _ _ q⟩
          | _ => exact False.elim q) a ea) (cX.mono (t1.trans t2)) q⟩) (cX.mono t1) q.2⟩) (fun _ _ z => z) q⟩
end
end PL

namespace PL
open PySem PySem.Spec PyProof.Rows L2

theorem wipe_get (σ : L2.St) (j : Nat) : ∀ vs : List Nat, (wipe σ vs)[j]? = if j ∈ vs then (if j < σ.length then some none else none) else σ[j]?
  | [] => rfl
  | v :: vs => by
    show ((wipe σ vs).set v none)[j]? = _
    by_cases e : v = j
    · subst e
      rw [if_pos List.mem_cons_self]
      by_cases hl : v < σ.length
      · rw [if_pos hl, List.getElem?_set_self (by rw [wipe_length]; exact hl)]
      · rw [if_neg hl, List.getElem?_eq_none (by rw [List.length_set, wipe_length]; omega)]
    · rw [List.getElem?_set_ne e, wipe_get σ j vs]
      have h : j ∈ v :: vs ↔ j ∈ vs := by rw [List.mem_cons]; exact ⟨fun z => z.resolve_left fun q => e q.symm, .inr⟩
      by_cases hm : j ∈ vs
      · rw [if_pos hm, if_pos (h.mpr hm)]
      · rw [if_neg hm, if_neg fun z => hm (h.mp z)]
theorem wipe_set {σ : L2.St} {i : Nat} {x : Option V} {vs : List Nat} (h : i ∈ vs) : wipe (σ.set i x) vs = wipe σ vs := by
  refine List.ext_getElem? fun j => ?_
  rw [wipe_get, wipe_get, List.length_set]
  by_cases hm : j ∈ vs
  · rw [if_pos hm, if_pos hm]
  · rw [if_neg hm, if_neg hm, List.getElem?_set_ne (by rintro rfl; exact hm h)]

abbrev ATG' := AV → AEnv → AH → (AEnv → AH → Prop) → Prop
abbrev ATGs' := List AV → AEnv → AH → (AEnv → AH → Prop) → Prop
def eQo (W : Wd) (own : Option (List Nat)) (σ : L2.St) (H : Hp) (Q : L2.St → Hp → Prop) : AEnv → AH → Prop := fun env' h' => ∀ σ' H', (∀ vs, own = some vs → wipe σ' vs = wipe σ vs) → TLe W.K H H' → REnv W.K H' env' σ' → RH W h' H' → Q σ' H'
def cGt (W : Wd) (own : Option (List Nat)) (t : ATG') : TG := fun v σ H Q => ∃ av env h, Rep W.K H av v ∧ REnv W.K H env σ ∧ RH W h H ∧ t av env h (eQo W own σ H Q)
def cGts (W : Wd) (own : Option (List Nat)) (t : ATGs') : TGs := fun v σ H Q => ∃ av env h, Reps W.K H av v ∧ REnv W.K H env σ ∧ RH W h H ∧ t av env h (eQo W own σ H Q)
theorem unst {e : Expr} {es : List Expr} {env : Env} (h : nost e = true) : assignEach (e :: es) env = (false, assign e env) :: assignEach es env := by
  cases e <;> first | rfl | cases h
theorem unst_len {env : Env} : ∀ {es : List Expr}, es.all nost = true → (assignEach es env).length = es.length
  | [], _ => rfl
  | e :: es, h => by
    rw [List.all_cons, Bool.and_eq_true] at h
    rw [unst h.1, List.length_cons, List.length_cons, unst_len h.2]
theorem unst_find {env : Env} : ∀ {es : List Expr}, es.all nost = true → (assignEach es env).findIdx? (·.1) = none
  | [], _ => rfl
  | e :: es, h => by
    rw [List.all_cons, Bool.and_eq_true] at h
    rw [unst h.1, List.findIdx?_cons]
    simp [unst_find h.2]
section
variable {X : Cx} {T : Tb} {C : ACall} {Wx : WX} (hC : CMono C) {a b c : CE} {ea eb ec tg : Expr} {pos : Pos} {own : Option (List Nat)}
theorem g_var {i : Nat} {x : Str} (hN : X.N.Nodup) (hi : X.N[i]? = some x) (hx : Loc X.env.scope x) (hf : X.fn x = true ∨ X.env.scope.names.lookup x = some .local) (ho : ∀ vs, own = some vs → i ∈ vs) : PG X (.Name x pos) (cGt (wd X T) own (wpG C T (.var i))) :=
  (pg_name hN hi hx hf).imp fun v σ H Q ⟨av, env, h, rv, re, rh, q⟩ => q (σ.set i (some v)) H (fun vs e => wipe_set (ho vs e)) TLe.refl (re.set i rv) rh
theorem gs_nil : PGs X [] (cGts (wd X T) own (wpGs C T .nil)) := pgs_nil.imp fun v σ H Q ⟨av, env, h, rv, re, rh, q⟩ => by
  obtain ⟨rfl, q⟩ := q
  exact ⟨reps_nil.mp rv, q σ H (fun _ _ => rfl) TLe.refl re rh⟩
include hC in
theorem gs_cons {g gs : CE} {eg : Expr} {es : List Expr} (hg : PG X eg (cGt (wd X T) own (wpG C T g))) (hs : PGs X es (cGts (wd X T) own (wpGs C T gs))) (hn : nost eg = true) : PGs X (eg :: es) (cGts (wd X T) own (wpGs C T (.cons g gs))) := by
  refine (pgs_cons (t := cGt (wd X T) own (wpG C T g)) (u := cGts (wd X T) own (wpGs C T gs)) hg hs (by rw [unst hn]; rfl)).imp fun vs σ H Q ⟨avs, env, h, rv, re, rh, q⟩ => ?_
  obtain ⟨v, r, rfl, q⟩ := q
  obtain ⟨cv, cr, rfl, r1, r2⟩ := reps_cons.mp rv
  refine ⟨cv, cr, rfl, v, env, h, r1, re, rh, wpG_mono hC g (fun env1 h1 q σ1 H1 hw t1 re1 rh1 => ?_) q⟩
  exact ⟨r, env1, h1, r2.mono t1, re1, rh1, wpGs_mono hC gs (fun env2 h2 q σ2 H2 hw2 t2 re2 rh2 => q σ2 H2 (fun vs e => (hw2 vs e).trans (hw vs e)) (t1.trans t2) re2 rh2) q⟩
include hC in
theorem g_tup {gs : CE} {es : List Expr} {k : Nat} (hc : X.calm = true) (hs : PGs X es (cGts (wd X T) own (wpGs C T gs))) (hn : es.all nost = true) (hl : gs.len = es.length) : PG X (.Tuple es k pos) (cGt (wd X T) own (wpG C T (.tup gs))) := by
  refine ⟨fun pins s σ H v u Q I r q => ?_⟩
  obtain ⟨av, env, h, rv, re, rh, q⟩ := q
  rcases q with ⟨vs, ev, hle, q⟩ | ⟨a, vs, rfl, e, hle, q⟩
  · have rv' : ∃ a ws, v = .ref a ∧ SqT X.K H a ws ∧ Reps X.K H vs ws := by
      rcases ev with rfl | rfl
      · exact rep_tupT rv
      · exact rep_wt.mp rv
    obtain ⟨a, ws, rfl, st, k⟩ := rv'
    exact (pg_tup hc hs (unst_len hn) (unst_find hn)).run pins s σ H _ u Q I r ⟨a, ws, rfl, st, by rw [k.length, hle]; exact hl, vs, env, h, k, re, rh, q⟩
  · obtain ⟨ws, h1, k⟩ := rh.lst e
    exact (pg_lst hc hs (unst_len hn) (unst_find hn)).run pins s σ H _ u Q I r ⟨a, ws, rep_ref.mp rv, SqL.of h1, by rw [k.length, hle]; exact hl, vs, env, h, k, re, rh, q⟩
theorem set_or (hu : X.A.units + 1 < cLine) : PSet X (fun o i v H Q => rSetL o i v H Q ∨ rSetD o i v H Q) := by
  intro pins s σ H o i v ov iv u Q I ro ri rv q
  rcases q with q | q
  · exact set_list pins s σ H o i v ov iv u Q I ro ri rv q
  · exact set_dict hu pins s σ H o i v ov iv u Q I ro ri rv q
theorem asg_sub {o i : Expr} {env : Env} (h : nosl i = true) : ∀ v, assign (.Subscript o i pos) env v = (do
      let ov ← holding [v] (eval o env)
      let iv ← holding [v, ov] (eval i env)
      standAt pos
      holding [v, ov, iv] (setItem ov iv v)
      release [v, ov, iv] []) := by
  intro v
  cases i <;> first | rfl | cases h
include hC in
theorem g_idx (hu : X.A.units + 64 < cLine) (ha : PE X ea (cE (wd X T) (fun _ _ _ _ => False) (wpE C T a))) (hb : PE X eb (cE (wd X T) (fun _ _ _ _ => False) (wpE C T b))) (hs : nosl eb = true) :
    PG X (.Subscript ea eb pos) (cGt (wd X T) none (wpG C T (.idx a b))) :=
  (pg_sub ha hb (set_or (by omega)) (asg_sub hs)).imp fun v σ H Q ⟨av, env, h, rv, re, rh, q⟩ => ⟨env, h, re, rh, wpE_mono hC a (fun x h1 q cx H1 t1 r1 rx => ⟨env, h1, re.mono t1, r1,
    wpE_mono hC b (fun y h2 q cy H2 t2 r2 ry => by
      obtain ⟨p, ex0, q2⟩ := q
      rw [ex0] at rx
      have ex := rep_ref.mp rx
      have rv := rv.mono (t1.trans t2)
      clear q
      have q := q2
      rcases q with ⟨xs, i, rfl, h0, hi, e, q⟩ | ⟨kvs, k, ek, e, hl, q⟩
      · obtain ⟨vs, e1, kk⟩ := r2.lst e
        refine .inl ⟨p, vs, i, i.toNat, ex, rep_int.mp ry, e1, ?_, ?_⟩
        · unfold ixN
          rw [if_pos h0, if_pos (by rw [kk.length]; exact hi)]
        · have t3 : TLe X.K H2 (upd H2 p (.lst (vs.set i.toNat v))) := TLe.write e1 trivial
          exact q σ _ (fun _ z => nomatch z) ((t1.trans t2).trans t3) (((re.mono t1).mono t2).mono t3) (r2.write e1 trivial (show RO (wd X T) _ p (.lst _) from ⟨_, upd_same, (kk.set i.toNat rv).mono t3⟩))
      · obtain ⟨vs, e1, kk⟩ := r2.dK e
        obtain ⟨ws, e2, k2⟩ := dput_rel (k := k) rv kk
        have hkv : ((kvs.map (·.1)).zip vs).length < sizeLine := by
          have := kk.length
          rw [List.length_zip, List.length_map, this, List.length_map, Nat.min_self]
          exact hl
        have ey := key_rep ek ry
        refine .inr ⟨p, _, ex, by rw [ey]; exact DPut.k e1 hkv, ?_⟩
        have t3 : TLe X.K H2 (upd H2 p (.dK (putK ((kvs.map (·.1)).zip vs) k v))) := TLe.write e1 trivial
        exact q σ _ (fun _ z => nomatch z) ((t1.trans t2).trans t3) (((re.mono t1).mono t2).mono t3) (r2.write e1 trivial (show RO (wd X T) _ p (.dK _) from ⟨ws, by rw [upd_same, e2], k2.mono t3⟩)))
      (fun _ _ z => z.elim) q⟩) (fun _ _ z => z.elim) q⟩

include hC in
theorem lc_ok {σ : L2.St} {H : Hp} {Q : VK} {owns : List Nat} {g it ifs elt : CE} {env : AEnv} {h : AH} (re : REnv X.K H env σ) (rh : RH (wd X T) h H)
    (q : wpE C T (.comp owns g it ifs elt) env h (cQ (wd X T) H Q) (cX (wd X T) Wx σ H)) :
    tLc (cI (wd X T) Wx (wpI C T it)) (cGt (wd X T) (some owns) (wpG C T g)) (cT (wd X T) (fun _ _ _ _ => False) (wpTs C T ifs)) (cE (wd X T) (fun _ _ _ _ => False) (wpE C T elt)) owns σ H Q := by
  refine ⟨env, h, re, rh, wpI_mono hC it (fun xs chk h1 q J H1 t1 r1 ok D hD => ?_) (fun _ _ z => z) q⟩
  have q := q D (r1.isNone hD)
  have tD : TLe X.K H1 (upd H1 D (.lst [])) := TLe.fresh hD
  refine ⟨fun i m H2 => m = xs.length - i ∧ i ≤ xs.length ∧ TLe X.K H1 H2 ∧ ∃ h2, RH (wd X T) h2 H2 ∧ lcL D owns (fun x σ h k => wpG C T g x σ h k) (fun σ h k => wpTs C T ifs σ h k fun _ _ => False) (fun σ h k => wpE C T elt σ h k fun _ _ => False) chk (fun h' => cQ (wd X T) H Q (.ref D) h') env (xs.drop i) h2,
    ⟨xs.length, by simp, Nat.zero_le _, tD, _, r1.new hD (show RO (wd X T) _ D (.lst []) from ⟨[], upd_same, reps_nil.mpr rfl⟩), q⟩, ?_⟩
  rintro i m H2 ⟨rfl, hi, t2, h2, r2, w⟩
  by_cases hlt : i < xs.length
  · rw [List.drop_eq_getElem_cons hlt] at w
    obtain ⟨ck, w⟩ := w
    obtain ⟨go, yl⟩ := (ok i H2 h2 t2 r2 ck).1 xs[i] (List.getElem?_eq_getElem hlt)
    refine .inr ⟨go, fun H' => TLe X.K H1 H' ∧ ∃ h', RH (wd X T) h' H' ∧ lcL D owns (fun x σ h k => wpG C T g x σ h k) (fun σ h k => wpTs C T ifs σ h k fun _ _ => False) (fun σ h k => wpE C T elt σ h k fun _ _ => False) chk (fun h' => cQ (wd X T) H Q (.ref D) h') env (xs.drop (i + 1)) h',
      fun H' ⟨t', h', r', w'⟩ => ⟨xs.length - (i + 1), by omega, rfl, hlt, t', h', r', w'⟩, fun x H' y => ?_⟩
    obtain ⟨t3, keep, rx⟩ := yl x H' y
    refine ⟨_, awipe env owns, h2, rx, (re.mono ((t1.trans t2).trans t3)).wipe owns, keep h2 r2, wpG_mono hC g (fun e4 h4 w σ4 H4 hw t4 re4 r4 => ⟨?_, ?_⟩) w⟩
    · have e := hw owns rfl
      rw [e]
      refine List.ext_getElem? fun j => ?_
      rw [wipe_get, wipe_get, wipe_length]
      by_cases hm : j ∈ owns
      · rw [if_pos hm, if_pos hm]
      · rw [if_neg hm]
    · refine ⟨e4, h4, re4, r4, wpTs_mono hC ifs (fun b h5 w H5 t5 r5 => ?_) (fun _ _ z => z.elim) w⟩
      have tt : TLe X.K H1 H5 := ((t2.trans t3).trans t4).trans t5
      cases b with
      | true =>
        refine ⟨e4, h5, re4.mono t5, r5, wpE_mono hC elt (fun z h6 w cz H6 t6 r6 rz => ?_) (fun _ _ z => z.elim) w⟩
        obtain ⟨acc, ea, hl, hs, le, w⟩ := w
        obtain ⟨vs, e1, kk⟩ := r6.lst ea
        have t7 : TLe X.K H6 (upd H6 D (.lst (vs ++ [cz]))) := TLe.write e1 trivial
        exact ⟨vs, e1, by rw [kk.length]; exact hl, (tt.trans t6).trans t7, hs, (r6.write e1 trivial (show RO (wd X T) _ D (.lst (acc ++ [z])) from ⟨_, upd_same, (kk.append (Reps.one rz)).mono t7⟩)).sub le, w⟩
      | false =>
        obtain ⟨hs, le, w⟩ := w
        exact ⟨tt, hs, r5.sub le, w⟩
  · have e : i = xs.length := by omega
    subst e
    rw [List.drop_length] at w
    obtain ⟨ck, w⟩ := w
    exact .inl ⟨(ok _ H2 h2 t2 r2 ck).2 (Nat.le_refl _), w _ H2 (t1.trans t2) r2 (rep_ref.mpr rfl)⟩

def absD (W : Wd) (Wx : WX) (H : Hp) (D : Ends) : AEnds where
  nx := eQ W H D.nx
  rt := cQ W H D.rt
  bk := eQ W H D.bk
  ct := eQ W H D.ct
  ex := fun ax env' h' => ∀ cls d σ' H', TLe W.K H H' → REnv W.K H' env' σ' → RH W h' H' → RX W H' ax cls d → Wx cls d σ' H'
theorem absD.mono {W : Wd} {Wx : WX} {H H' : Hp} (t : TLe W.K H H') (D : Ends) : DLe (absD W Wx H D) (absD W Wx H' D) :=
  ⟨eQ.mono t, cQ.mono t, eQ.mono t, eQ.mono t, fun _ _ _ q cls d σ H2 t2 => q cls d σ H2 (t.trans t2)⟩
theorem absD.xle {W : Wd} {Wx : WX} {H : Hp} {D : Ends} {env : AEnv} {σ : L2.St} (re : REnv W.K H env σ) : XLe (fun x h' => (absD W Wx H D).ex x env h') (cX W Wx σ H) := fun ax h' q cls d H' t r rx => q cls d σ H' t (re.mono t) r rx
abbrev ATS := AEnds → AEnv → AH → Prop
def cS (W : Wd) (Wx : WX) (t : ATS) : TS := fun D σ H => ∃ env h, REnv W.K H env σ ∧ RH W h H ∧ t (absD W Wx H D) env h
theorem _root_.L2.PS.imp {st : Stmt} {t t' : TS} (p : PS X st t) (h : ∀ D σ H, t' D σ H → t D σ H) : PS X st t' := ⟨fun pins s σ H D I q => p.run pins s σ H D I (h D σ H q)⟩
theorem _root_.L2.PSs.imp {st : List Stmt} {t t' : TS} (p : PSs X st t) (h : ∀ D σ H, t' D σ H → t D σ H) : PSs X st t' := ⟨fun pins s σ H D I q => p.run pins s σ H D I (h D σ H q)⟩
variable {sub : Nat → Nat → Bool}
theorem b_nil : PSs X [] (cS (wd X T) Wx (wpB C T sub .nil)) := pss_nil.imp fun D σ H ⟨env, h, re, rh, q⟩ => q σ H TLe.refl re rh
include hC in
theorem b_cons {s r : CS} {st : Stmt} {rest : List Stmt} (h1 : PS X st (cS (wd X T) Wx (wpS C T sub s))) (h2 : PSs X rest (cS (wd X T) Wx (wpB C T sub r))) : PSs X (st :: rest) (cS (wd X T) Wx (wpB C T sub (.cons s r))) :=
  (pss_cons h1 h2).imp fun D σ H ⟨env, h, re, rh, q⟩ => ⟨env, h, re, rh, wpS_mono hC s (D := { absD (wd X T) Wx H D with nx := fun σ1 h1 => wpB C T sub r (absD (wd X T) Wx H D) σ1 h1 }) ⟨fun e1 h1 q σ1 H1 t1 re1 r1 => ⟨e1, h1, re1, r1, wpB_mono hC r (absD.mono t1 D) q⟩, fun _ _ z => z, fun _ _ z => z, fun _ _ z => z, fun _ _ _ z => z⟩ q⟩
include hC in
theorem st_asg {g : CE} {line : Nat} (he : PE X ea (cE (wd X T) Wx (wpE C T a))) (hg : PG X tg (cGt (wd X T) none (wpG C T g))) (hs : swapsWithSole [tg] ea pos.line X.env = pure false) (hw : swappedStores [tg] ea X.env = pure none) (hn : nost tg = true) : PS X (.Assign [tg] ea pos) (cS (wd X T) Wx (wpS C T sub (.asg g a))) :=
  (ps_asg he hg hs hw (by rw [unst hn]; rfl)).imp fun D σ H ⟨env, h, re, rh, q⟩ => ⟨env, h, re, rh, wpE_mono hC a (fun x h1 q v H1 t1 r1 rv => ⟨x, env, h1, rv, re.mono t1, r1, wpG_mono hC g (fun e2 h2 q σ2 H2 _ t2 re2 r2 => q σ2 H2 (t1.trans t2) re2 r2) q⟩) (absD.xle re) q⟩
include hC in
theorem st_par {i j : Nat} {x y : Str} {px py pt : Pos} {kt k2 : Nat} {pt2 : Pos} (hc : X.calm = true) (hN : X.N.Nodup) (hi : X.N[i]? = some x) (hj : X.N[j]? = some y) (hij : i ≠ j)
    (hx : X.env.scope.names.lookup x = some .local) (hy : X.env.scope.names.lookup y = some .local) (ha : PE X ea (cE (wd X T) Wx (wpE C T a))) (hb : PE X eb (cE (wd X T) Wx (wpE C T b))) (hn : nost ea = true) (hn2 : nost eb = true)
    (hw : swappedStores [.Tuple [.Name x px, .Name y py] kt pt] (.Tuple [ea, eb] k2 pt2) X.env = pure (some [x, y])) :
    PS X (.Assign [.Tuple [.Name x px, .Name y py] kt pt] (.Tuple [ea, eb] k2 pt2) pos) (cS (wd X T) Wx (wpS C T sub (.par i j a b))) :=
  (ps_par hc hN hi hj hij hx hy (pa_cons ha (pa_cons hb pa_nil (star_cons hn2)) (star_cons hn)) hw rfl).imp fun D σ H ⟨env, h, re, rh, q⟩ => ⟨env, h, re, rh, wpE_mono hC a (fun x h1 q v H1 t1 r1 rv => ⟨env, h1, re.mono t1, r1,
    wpE_mono hC b (fun y h2 q w H2 t2 r2 rw' => ⟨v, w, rfl, q _ _ (t1.trans t2) (((re.mono t1).mono t2).set i (rv.mono t2) |>.set j rw') r2⟩) (fun ax h' q => cX.mono t1 _ _ (absD.xle re _ _ q)) q⟩) (absD.xle re) q⟩
include hC in
theorem st_par3 {i j k : Nat} {x y z : Str} {px py pz pt : Pos} {kt k2 : Nat} {pt2 : Pos} (hc : X.calm = true) (hN : X.N.Nodup) (hi : X.N[i]? = some x) (hj : X.N[j]? = some y) (hk : X.N[k]? = some z) (hij : i ≠ j) (hik : i ≠ k) (hjk : j ≠ k)
    (hx : X.env.scope.names.lookup x = some .local) (hy : X.env.scope.names.lookup y = some .local) (hz : X.env.scope.names.lookup z = some .local) (ha : PE X ea (cE (wd X T) Wx (wpE C T a))) (hb : PE X eb (cE (wd X T) Wx (wpE C T b))) (hcc : PE X ec (cE (wd X T) Wx (wpE C T c))) (hn : nost ea = true) (hn2 : nost eb = true) (hn3 : nost ec = true)
    (hw : swappedStores [.Tuple [.Name x px, .Name y py, .Name z pz] kt pt] (.Tuple [ea, eb, ec] k2 pt2) X.env = pure (some [x, y, z])) :
    PS X (.Assign [.Tuple [.Name x px, .Name y py, .Name z pz] kt pt] (.Tuple [ea, eb, ec] k2 pt2) pos) (cS (wd X T) Wx (wpS C T sub (.par3 i j k a b c))) :=
  (ps_par3 hc hN hi hj hk hij hik hjk hx hy hz (pa_cons ha (pa_cons hb (pa_cons hcc pa_nil (star_cons hn3)) (star_cons hn2)) (star_cons hn)) hw rfl).imp fun D σ H ⟨env, h, re, rh, q⟩ => ⟨env, h, re, rh, wpE_mono hC a (fun x h1 q v H1 t1 r1 rv => ⟨env, h1, re.mono t1, r1,
    wpE_mono hC b (fun y h2 q w H2 t2 r2 rw' => ⟨env, h2, (re.mono t1).mono t2, r2, wpE_mono hC c (fun z h3 q u H3 t3 r3 ru => ⟨v, w, u, rfl, q _ _ ((t1.trans t2).trans t3) (((((re.mono t1).mono t2).mono t3).set i ((rv.mono t2).mono t3)).set j (rw'.mono t3) |>.set k ru) r3⟩)
      (fun ax h' q => cX.mono (t1.trans t2) _ _ (absD.xle re _ _ q)) q⟩) (fun ax h' q => cX.mono t1 _ _ (absD.xle re _ _ q)) q⟩) (absD.xle re) q⟩
theorem pip_or : PIp X .Add (ipI fun i j => i + j) ∧ PIp X .Sub (ipI fun i j => i - j) := ⟨ip_add, ip_sub⟩
include hC in
theorem st_aug {i : Nat} {x : Str} {op : BOp} {p : Pos} (hop : op = .add ∨ op = .sub) (hN : X.N.Nodup) (hi : X.N[i]? = some x) (hx : Loc X.env.scope x) (hf : X.fn x = true ∨ X.env.scope.names.lookup x = some .local) (he : PE X ea (cE (wd X T) Wx (wpE C T a))) : PS X (.AugAssign (.Name x p) (bopPy op) ea pos) (cS (wd X T) Wx (wpS C T sub (.aug i op a))) := by
  rcases hop with rfl | rfl
  · exact (ps_aug hN hi hx he ip_add hf).imp fun D σ H ⟨env, h, re, rh, av, e, q⟩ => by
      obtain ⟨v, e1, rv⟩ := re.get i av e
      refine ⟨v, e1, env, h, re, rh, wpE_mono hC a (fun y h1 q w H1 t1 r1 rw' => ?_) (absD.xle re) q⟩
      obtain ⟨m, n, rfl, rfl, q⟩ := q
      rcases q with ⟨_, q⟩ | ⟨z, _⟩
      · exact ⟨m, n, rep_int.mp rv, rep_int.mp rw', q _ _ t1 ((re.mono t1).set i (rep_int.mpr rfl)) r1⟩
      · cases z
  · exact (ps_aug hN hi hx he ip_sub hf).imp fun D σ H ⟨env, h, re, rh, av, e, q⟩ => by
      obtain ⟨v, e1, rv⟩ := re.get i av e
      refine ⟨v, e1, env, h, re, rh, wpE_mono hC a (fun y h1 q w H1 t1 r1 rw' => ?_) (absD.xle re) q⟩
      obtain ⟨m, n, rfl, rfl, q⟩ := q
      rcases q with ⟨z, _⟩ | ⟨_, q⟩
      · cases z
      · exact ⟨m, n, rep_int.mp rv, rep_int.mp rw', q _ _ t1 ((re.mono t1).set i (rep_int.mpr rfl)) r1⟩
include hC in
theorem st_expr (he : PE X ea (cE (wd X T) Wx (wpE C T a))) (hs : swapsWith ea none pos.line X.env = pure false) : PS X (.Expr ea pos) (cS (wd X T) Wx (wpS C T sub (.expr a))) :=
  (ps_expr he hs).imp fun D σ H ⟨env, h, re, rh, q⟩ => ⟨env, h, re, rh, wpE_mono hC a (fun x h1 q v H1 t1 r1 rv => q σ H1 t1 (re.mono t1) r1) (absD.xle re) q⟩
include hC in
theorem st_ret (he : PE X ea (cE (wd X T) Wx (wpE C T a))) : PS X (.Return (some ea) pos) (cS (wd X T) Wx (wpS C T sub (.ret a))) :=
  (ps_ret he).imp fun D σ H ⟨env, h, re, rh, q⟩ => ⟨env, h, re, rh, wpE_mono hC a (fun _ _ q => q) (absD.xle re) q⟩
theorem st_retN : PS X (.Return none pos) (cS (wd X T) Wx (wpS C T sub .retN)) := ps_retN.imp fun D σ H ⟨env, h, re, rh, q⟩ => cQ.here (W := (wd X T)) q rh (rep_non.mpr rfl)
theorem st_pass : PS X (.Pass pos) (cS (wd X T) Wx (wpS C T sub .pass)) := ps_pass.imp fun D σ H ⟨env, h, re, rh, q⟩ => q σ H TLe.refl re rh
theorem st_brk : PS X (.Break pos) (cS (wd X T) Wx (wpS C T sub .brk)) := ps_break.imp fun D σ H ⟨env, h, re, rh, q⟩ => q σ H TLe.refl re rh
theorem st_cont : PS X (.Continue pos) (cS (wd X T) Wx (wpS C T sub .cont)) := ps_continue.imp fun D σ H ⟨env, h, re, rh, q⟩ => q σ H TLe.refl re rh
include hC in
theorem st_if {t f : CS} {st sf : List Stmt} (hc : PT X ec (cT (wd X T) Wx (wpT C T c))) (ht : PSs X st (cS (wd X T) Wx (wpB C T sub t))) (hf : PSs X sf (cS (wd X T) Wx (wpB C T sub f))) : PS X (.If ec st sf pos) (cS (wd X T) Wx (wpS C T sub (.iff c t f))) :=
  (ps_if hc ht hf).imp fun D σ H ⟨env, h, re, rh, q⟩ => ⟨env, h, re, rh, wpT_mono hC c (fun r h1 q H1 t1 r1 => by
    cases r with
    | true => exact ⟨env, h1, re.mono t1, r1, wpB_mono hC t (absD.mono t1 D) q⟩
    | false => exact ⟨env, h1, re.mono t1, r1, wpB_mono hC f (absD.mono t1 D) q⟩) (absD.xle re) q⟩
include hC in
theorem st_whl {b : CS} {sb : List Stmt} (hp : PassesOwn (model X.prog X.w) X.A X.env X.xe) (hc : PT X ec (cT (wd X T) Wx (wpT C T c))) (hb : PSs X sb (cS (wd X T) Wx (wpB C T sub b))) : PS X (.While ec sb [] pos) (cS (wd X T) Wx (wpS C T sub (.whl c b))) :=
  (ps_while hp hc hb).imp fun D σ H ⟨env, h, re, rh, n, q⟩ => by
    refine ⟨fun m σ1 H1 => TLe X.K H H1 ∧ ∃ e1 h1, REnv X.K H1 e1 σ1 ∧ RH (wd X T) h1 H1 ∧ whlL (fun σ h k => wpT C T c σ h k (fun x h' => (absD (wd X T) Wx H D).ex x σ h')) (fun nx σ h => wpB C T sub b { absD (wd X T) Wx H D with nx := nx, ct := nx, bk := (absD (wd X T) Wx H D).nx } σ h) (absD (wd X T) Wx H D).nx m e1 h1,
      ⟨n, TLe.refl, env, h, re, rh, q⟩, ?_⟩
    rintro m σ1 H1 ⟨t1, e1, h1, re1, r1, w⟩
    cases m with
    | zero => exact w.elim
    | succ m =>
      refine ⟨e1, h1, re1, r1, wpT_mono hC c (fun b' h2 q H2 t2 r2 => ?_) (fun ax h' q => absD.xle (W := (wd X T)) (D := D) re1 _ _ (fun cls d σ' H' t' => q cls d σ' H' (t1.trans t'))) w⟩
      cases b' with
      | false => exact q σ1 H2 (t1.trans t2) (re1.mono t2) r2
      | true =>
        refine ⟨fun σ3 H3 => TLe X.K H H3 ∧ ∃ e1 h1, REnv X.K H3 e1 σ3 ∧ RH (wd X T) h1 H3 ∧ whlL (fun σ h k => wpT C T c σ h k (fun x h' => (absD (wd X T) Wx H D).ex x σ h')) (fun nx σ h => wpB C T sub b { absD (wd X T) Wx H D with nx := nx, ct := nx, bk := (absD (wd X T) Wx H D).nx } σ h) (absD (wd X T) Wx H D).nx m e1 h1,
          fun σ' H' w' => ⟨m, Nat.lt_succ_self m, w'⟩, e1, h2, re1.mono t2, r2, wpB_mono hC b ?_ q⟩
        have again : ∀ e h', Shs (whlL (fun σ h k => wpT C T c σ h k (fun x h' => (absD (wd X T) Wx H D).ex x σ h')) (fun nx σ h => wpB C T sub b { absD (wd X T) Wx H D with nx := nx, ct := nx, bk := (absD (wd X T) Wx H D).nx } σ h) (absD (wd X T) Wx H D).nx m) e h' → eQ (wd X T) H2 (fun σ3 H3 => TLe X.K H H3 ∧ ∃ e1 h1, REnv X.K H3 e1 σ3 ∧ RH (wd X T) h1 H3 ∧ whlL (fun σ h k => wpT C T c σ h k (fun x h' => (absD (wd X T) Wx H D).ex x σ h')) (fun nx σ h => wpB C T sub b { absD (wd X T) Wx H D with nx := nx, ct := nx, bk := (absD (wd X T) Wx H D).nx } σ h) (absD (wd X T) Wx H D).nx m e1 h1) e h' := by
          rintro e h' ⟨e4, h4, l1, l2, w⟩ σ5 H5 t5 re5 r5
          exact ⟨(t1.trans t2).trans t5, e4, h4, re5.sub l1, r5.sub l2, w⟩
        exact ⟨again, cQ.mono (t1.trans t2), eQ.mono (t1.trans t2), again, fun _ _ _ q cls d σ' H' t' => q cls d σ' H' ((t1.trans t2).trans t')⟩
include hC in
theorem st_for {b : CS} {g it : CE} {ei : Expr} {sb : List Stmt} (hp : PassesOwn (model X.prog X.w) X.A X.env X.xe) (hc : X.calm = true) (hi : PI X tg ei (cI (wd X T) Wx (wpI C T it))) (hg : PG X tg (cGt (wd X T) none (wpG C T g))) (hb : PSs X sb (cS (wd X T) Wx (wpB C T sub b)))
    (hs : ∀ x, foldedSetIterable ei X.env x = pure x) : PS X (.For tg ei sb [] pos) (cS (wd X T) Wx (wpS C T sub (.forr g it b))) :=
  (ps_for hp hc hi hg hb hs).imp fun D σ H ⟨env, h, re, rh, q⟩ => by
    refine ⟨env, h, re, rh, wpI_mono hC it (fun xs chk h1 q J H1 t1 r1 ok => ?_) (absD.xle re) q⟩
    refine ⟨fun i m σ2 H2 => m = xs.length - i ∧ i ≤ xs.length ∧ TLe X.K H1 H2 ∧ ∃ e2 h2, REnv X.K H2 e2 σ2 ∧ RH (wd X T) h2 H2 ∧ forL (fun x nx σ h => wpG C T g x σ h (fun σ2 h2 => wpB C T sub b { absD (wd X T) Wx H D with nx := nx, ct := nx, bk := (absD (wd X T) Wx H D).nx } σ2 h2)) chk (absD (wd X T) Wx H D).nx (xs.drop i) e2 h2,
      ⟨xs.length, by simp, Nat.zero_le _, TLe.refl, env, h1, re.mono t1, r1, q⟩, ?_⟩
    rintro i m σ2 H2 ⟨rfl, hi, t2, e2, h2, re2, r2, w⟩
    by_cases hlt : i < xs.length
    · rw [List.drop_eq_getElem_cons hlt] at w
      obtain ⟨ck, w⟩ := w
      obtain ⟨go, yl⟩ := (ok i H2 h2 t2 r2 ck).1 xs[i] (List.getElem?_eq_getElem hlt)
      refine .inr ⟨go, fun σ3 H3 => TLe X.K H1 H3 ∧ ∃ e3 h3, REnv X.K H3 e3 σ3 ∧ RH (wd X T) h3 H3 ∧ forL (fun x nx σ h => wpG C T g x σ h (fun σ2 h2 => wpB C T sub b { absD (wd X T) Wx H D with nx := nx, ct := nx, bk := (absD (wd X T) Wx H D).nx } σ2 h2)) chk (absD (wd X T) Wx H D).nx (xs.drop (i + 1)) e3 h3,
        fun σ' H' ⟨t', e', h', re', r', w'⟩ => ⟨xs.length - (i + 1), by omega, rfl, hlt, t', e', h', re', r', w'⟩, fun x H' y => ?_⟩
      obtain ⟨t3, keep, rx⟩ := yl x H' y
      refine ⟨_, e2, h2, rx, re2.mono t3, keep h2 r2, wpG_mono hC g (fun e4 h4 w σ4 H4 _ t4 re4 r4 => ⟨e4, h4, re4, r4, wpB_mono hC b ?_ w⟩) w⟩
      have t14 : TLe X.K H1 H4 := (t2.trans t3).trans t4
      have again : ∀ e h', Shs (forL (fun x nx σ h => wpG C T g x σ h (fun σ2 h2 => wpB C T sub b { absD (wd X T) Wx H D with nx := nx, ct := nx, bk := (absD (wd X T) Wx H D).nx } σ2 h2)) chk (absD (wd X T) Wx H D).nx (xs.drop (i + 1))) e h' →
          eQ (wd X T) H4 (fun σ3 H3 => TLe X.K H1 H3 ∧ ∃ e3 h3, REnv X.K H3 e3 σ3 ∧ RH (wd X T) h3 H3 ∧ forL (fun x nx σ h => wpG C T g x σ h (fun σ2 h2 => wpB C T sub b { absD (wd X T) Wx H D with nx := nx, ct := nx, bk := (absD (wd X T) Wx H D).nx } σ2 h2)) chk (absD (wd X T) Wx H D).nx (xs.drop (i + 1)) e3 h3) e h' := by
        rintro e h' ⟨e5, h5, l1, l2, w⟩ σ5 H5 t5 re5 r5
        exact ⟨t14.trans t5, e5, h5, re5.sub l1, r5.sub l2, w⟩
      exact ⟨again, cQ.mono (t1.trans t14), eQ.mono (t1.trans t14), again, fun _ _ _ q cls d σ' H' t' => q cls d σ' H' ((t1.trans t14).trans t')⟩
    · have e : i = xs.length := by omega
      subst e
      rw [List.drop_length] at w
      obtain ⟨ck, w⟩ := w
      exact .inl ⟨(ok _ H2 h2 t2 r2 ck).2 (Nat.le_refl _), w σ2 H2 (t1.trans t2) re2 r2⟩
end
end PL

namespace PL
open PySem PySem.Spec PyProof.Rows L2
structure ExcF (X : Cx) (T : Tb) (c : Nat) (x : Str) : Prop where
  mg : X.mg x = some (.ref (clsAddr (wd X T) c))
  ex : PySem.W.excIn X.K (clsAddr (wd X T) c) He.veBase "ValueError.__new__" = true
  kp : PySem.W.keepIn X.K (.ref (clsAddr (wd X T) c)) = true
  su : PySem.W.subIn X.K (.ref (clsAddr (wd X T) c)) (.type "BaseException") = some true
  ty : PySem.W.typeIn X.K (.ref (clsAddr (wd X T) c)) = some (.type "type")
def hLst (X : Cx) (T : Tb) (C : ACall) (sub : Nat → Nat → Bool) : CS → List (Value × (Addr → Value → Option Addr → TS))
  | .hcons c b r => (.ref (clsAddr (wd X T) c), fun _ _ _ => cS (wd X T) (fun _ _ _ _ => False) (wpB C T sub b)) :: hLst X T C sub r
  | _ => []
def hOk (T : Tb) : CS → Bool
  | .hnil => true
  | .hcons c _ r => (T.cn c).isSome && hOk T r
  | _ => false
section
variable {X : Cx} {T : Tb} {C : ACall} {Wx : WX} (hC : CMono C) {sub : Nat → Nat → Bool} {pos : Pos}
theorem pmk_own0 {CC : Addr} {bmB : List Value} {B newId initId : String} {x : Str} {p : Pos} (F : ExcBaseFacts B newId initId bmB) (q : PySem.W.excIn X.K CC bmB newId = true) (gC : X.mg x = some (.ref CC))
    (kC : PySem.W.keepIn X.K (.ref CC) = true) (r : Raises X (.ref CC)) (hg : Gl X x) (hdb : (x == ("__debug__" : Str)) = false) : PMk X (.Call (.Name x p) [] [] pos) (fun _ H Q => Q (.ref CC) none H) := by
  intro pins s σ H Q I h
  refine wpAny_Call_Name_kw (ld_glob I hg gC ?_ hdb)
  refine PySem.W.callWith_K0 I.kIn kC ?_
  show wpAny _ _ (call (.ref CC) []) _ _ _
  obtain ⟨bm, N, nm, qn, bs, hdct, sn, sub, ab, col, dd, k0, k1, k2, k3, k5, mN, hC, hN, hni, T⟩ := exc_obj I.kIn q
  refine wpAny_call_exc_subT F T hC hN hni (fun h' e hm => ?_) (by show 0 ≤ sizeLine; omega)
  exact mk_of I hm r h (I.hok.gone hm.new)
theorem st_raise0 {c : Nat} {x : Str} {p p2 : Pos} (hc : X.calm = true) (tk : Takes X Wx) (F : ExcF X T c x) (hcn : T.cn c = some x) (hg : Gl X x) (hdb : (x == ("__debug__" : Str)) = false) :
    PS X (.Raise (some (.Call (.Name x p) [] [] p2)) none pos) (cS (wd X T) Wx (wpS C T sub (.raise c .nil))) :=
  (ps_raise hc tk (pmk_own0 PySem.F.excBase_ValueError F.ex F.mg F.kp (raises_own F.su F.ty) hg hdb)).imp fun D σ H ⟨env, h, re, rh, q⟩ => q _ _ σ H TLe.refl re rh ⟨rfl, rfl, x, hcn⟩

include hC in
theorem hs_many (hsub : ∀ c d x y, T.cn c = some x → T.cn d = some y → PySem.W.exmOne X.K (.ref (clsAddr (wd X T) c)) (.ref (clsAddr (wd X T) d)) = some (sub c d)) {D : Ends} {H : Hp} : ∀ (hs : CS) {ax : AX} {env : AEnv} {h : AH} {cls : Value} {d : Option Addr} {σ' : L2.St} {H' : Hp},
    hOk T hs = true → TLe X.K H H' → REnv X.K H' env σ' → RH (wd X T) h H' → RX (wd X T) H' ax cls d → wpH C T sub hs ax (absD (wd X T) Wx H D) env h → wMany X.K Wx D (hLst X T C sub hs) cls d σ' H'
  | .hnil, ax, env, h, cls, d, σ', H', _, t, re, rh, rx, q => q cls d σ' H' t re rh rx
  | .hcons c b r, ax, env, h, cls, d, σ', H', ok, t, re, rh, rx, q => by
    have ok : ((T.cn c).isSome && hOk T r) = true := ok
    rw [Bool.and_eq_true] at ok
    obtain ⟨y, hy⟩ := Option.isSome_iff_exists.mp ok.1
    obtain ⟨e1, e2, x, hx⟩ := id rx
    refine ⟨sub ax.cls c, by rw [e1]; exact hsub _ _ _ _ hx hy, fun hb a _ => ?_, fun hb => ?_⟩
    · have q : (if sub ax.cls c = true then wpB C T sub b { absD (wd X T) Wx H D with ex := fun _ _ _ => False } env h else wpH C T sub r ax (absD (wd X T) Wx H D) env h) := q
      rw [if_pos hb] at q
      exact ⟨env, h, re, rh, wpB_mono hC b (D := { absD (wd X T) Wx H D with ex := fun _ _ _ => False }) ⟨eQ.mono t, cQ.mono t, eQ.mono t, eQ.mono t, fun _ _ _ z => z.elim⟩ q⟩
    · have q : (if sub ax.cls c = true then wpB C T sub b { absD (wd X T) Wx H D with ex := fun _ _ _ => False } env h else wpH C T sub r ax (absD (wd X T) Wx H D) env h) := q
      rw [if_neg (by rw [hb]; decide)] at q
      exact hs_many hsub r ok.2 t re rh rx q
  | .asg _ _, _, _, _, _, _, _, _, ok, _, _, _, _, _ => by cases ok
  | .slc _ _, _, _, _, _, _, _, _, ok, _, _, _, _, _ => by cases ok
  | .par _ _ _ _, _, _, _, _, _, _, _, ok, _, _, _, _, _ => by cases ok
  | .par3 _ _ _ _ _ _, _, _, _, _, _, _, _, ok, _, _, _, _, _ => by cases ok
  | .aug _ _ _, _, _, _, _, _, _, _, ok, _, _, _, _, _ => by cases ok
  | .expr _, _, _, _, _, _, _, _, ok, _, _, _, _, _ => by cases ok
  | .ret _, _, _, _, _, _, _, _, ok, _, _, _, _, _ => by cases ok
  | .retN, _, _, _, _, _, _, _, ok, _, _, _, _, _ => by cases ok
  | .iff _ _ _, _, _, _, _, _, _, _, ok, _, _, _, _, _ => by cases ok
  | .whl _ _, _, _, _, _, _, _, _, ok, _, _, _, _, _ => by cases ok
  | .forr _ _ _, _, _, _, _, _, _, _, ok, _, _, _, _, _ => by cases ok
  | .raise _ _, _, _, _, _, _, _, _, ok, _, _, _, _, _ => by cases ok
  | .tri _ _, _, _, _, _, _, _, _, ok, _, _, _, _, _ => by cases ok
  | .pass, _, _, _, _, _, _, _, ok, _, _, _, _, _ => by cases ok
  | .brk, _, _, _, _, _, _, _, ok, _, _, _, _, _ => by cases ok
  | .cont, _, _, _, _, _, _, _, ok, _, _, _, _, _ => by cases ok
  | .nil, _, _, _, _, _, _, _, ok, _, _, _, _, _ => by cases ok
  | .cons _ _, _, _, _, _, _, _, _, ok, _, _, _, _, _ => by cases ok
include hC in
theorem st_tri {b hs : CS} {sb : List Stmt} {h₀ : ExceptHandler} {hds : List ExceptHandler} (hst : X.stack = X.env :: X.outer) (hf : X.env.frame = some X.env.locals) (tk : Takes X Wx)
    (hsub : ∀ c d x y, T.cn c = some x → T.cn d = some y → PySem.W.exmOne X.K (.ref (clsAddr (wd X T) c)) (.ref (clsAddr (wd X T) d)) = some (sub c d)) (hok : hOk T hs = true)
    (hb : ∀ (W' : WX) (pn : List (Addr × Obj)) (xe : Value → Shared → Prop), Takes (X.tr pn xe) W' → PassesOwn (model X.prog X.w) X.A X.env xe → PSs (X.tr pn xe) sb (cS (wd X T) W' (wpB C T sub b)))
    (hh : HdsOk X (h₀ :: hds) (hLst X T C sub hs)) : PS X (.Try sb (h₀ :: hds) [] [] pos) (cS (wd X T) Wx (wpS C T sub (.tri b hs))) :=
  (ps_try_many (tb := fun W' => cS (wd X T) W' (wpB C T sub b)) hst hf tk hb hh).imp fun D σ H ⟨env, h, re, rh, q⟩ => ⟨env, h, re, rh, wpB_mono hC b (D := { absD (wd X T) Wx H D with ex := fun x σ' h' => wpH C T sub hs x (absD (wd X T) Wx H D) σ' h' })
    ⟨fun _ _ z => z, fun _ _ z => z, fun _ _ z => z, fun _ _ z => z, fun ax e1 h1 q cls d σ' H' t re1 r1 rx => hs_many hC hsub hs hok t re1 r1 rx q⟩ q⟩
end

def visB (sc : Scope) (x : Str) : Bool := match sc.names.lookup x with | some .local => true | some .cell => true | some .free => true | _ => false
def locB (sc : Scope) (fb : Str → Bool) (x : Str) : Bool := match sc.names.lookup x with | some .local => true | some .cell => fb x | _ => false
def glB (sc : Scope) (x : Str) : Bool := match sc.names.lookup x with | some .globalImplicit => true | _ => false
def nmOk (x : Str) : Bool := !(x == ("__debug__" : Str)) && !(x == ("__classdict__" : Str))
def mthNm : Mth → Str
  | .append => "append" | .extend => "extend" | .pop => "pop" | .get => "get" | .items => "items" | .index => "index" | .insert => "insert" | .join => "join" | .split => "split" | .lstrip => "lstrip" | .clear => "clear" | .upper => "upper" | .replace => "replace" | .count => "count" | .startswith => "startswith"
def tysB (T : Tb) (sc : Scope) : List Ty → List Expr → Bool
  | [], [] => true
  | t :: ts, .Name x _ :: es => decide (x = tyNmS t) && glB sc x && T.free.contains x && tysB T sc ts es
  | _, _ => false
def tyB (T : Tb) (sc : Scope) (ts : List Ty) : Expr → Bool
  | .Tuple es _ _ => decide (ts.length ≤ 20) && tysB T sc ts es
  | .Name x p => match ts with | [t] => tysB T sc [t] [.Name x p] | _ => false
  | _ => false
def isTup : Expr → Bool | .Tuple .. => true | _ => false
def ownPairs (N : List Str) (own : List Nat) : List (Str × Nat) := own.map fun i => (N.getD i "", i)
def blkF (scope : Scope) : Str → Bool := fun x => scope.names.lookup x == some .cell

def mthOk : Mth → List Expr → CE → Bool
  | .append, [_], _ => true
  | .extend, [_], _ => true
  | .pop, [], .nil => true
  | .pop, [_], .cons _ .nil => true
  | .get, [_, _], .cons _ (.cons _ .nil) => true
  | _, _, _ => false

mutual
def mE (T : Tb) (N : List Str) (hot : Bool) : CE → Scope → (Str → Bool) → Expr → Bool
  | .non, _, _, e => match e with | .Constant .none _ _ => true | _ => false
  | .bl b, _, _, e => match e with | .Constant (.bool c) _ _ => b == c | _ => false
  | .int b, _, _, e => match e with | .Constant (.int c) _ _ => decide (b = c) | _ => false
  | .str b, _, _, e => match e with | .Constant (.str c) _ _ => decide (b = c) | _ => false
  | .var i, sc, _, e => match e with | .Name x _ => decide (N[i]? = some x) && visB sc x && nmOk x | _ => false
  | .glob g, sc, _, e => match e with | .Name x _ => decide (T.gn g = some x) && glB sc x && nmOk x | _ => false
  | .tup es, sc, fb, e => match e with | .Tuple l _ _ => mEs T N hot es sc fb l | _ => false
  | .lst es, sc, fb, e => match e with | .List l _ => mEs T N hot es sc fb l | _ => false
  | .dct0, _, _, e => match e with | .Dict [] [] _ => true | _ => false
  | .bin op a b, sc, fb, e => match e with | .BinOp l o r _ => decide (o = bopPy op) && mE T N hot a sc fb l && mE T N hot b sc fb r | _ => false
  | .neg a, sc, fb, e => match e with | .UnaryOp .USub x _ => mE T N hot a sc fb x | _ => false
  | .not a, sc, fb, e => match e with | .UnaryOp .Not x _ => mE T N hot a sc fb x | _ => false
  | .cmp op a b, sc, fb, e => match e with | .Compare l [o] [r] _ => decide (o = copPy op) && noset r && mE T N hot a sc fb l && mE T N hot b sc fb r | _ => false
  | .chain o1 o2 a b c, sc, fb, e => match e with | .Compare l [o, o'] [r, s] _ => decide (o = copPy o1) && decide (o' = copPy o2) && noset s && mE T N hot a sc fb l && mE T N hot b sc fb r && mE T N hot c sc fb s | _ => false
  | .and es, sc, fb, e => match e with | .BoolOp .And l _ => mEs T N hot es sc fb l && !l.isEmpty | _ => false
  | .or es, sc, fb, e => match e with | .BoolOp .Or l _ => mEs T N hot es sc fb l && !l.isEmpty | _ => false
  | .ifx c a b, sc, fb, e => match e with | .IfExp t x y _ => mT T N hot c sc fb t && mE T N hot a sc fb x && mE T N hot b sc fb y | _ => false
  | .call f es, sc, fb, e => match e with | .Call (.Name x _) xs [] _ => !hot && decide (T.nm f = some x) && glB sc x && nmOk x && mEs T N hot es sc fb xs | _ => false
  | .blt f es, sc, fb, e => match e with | .Call (.Name x _) (y :: ys) [] _ => !hot && decide (x = bltNm f) && glB sc x && T.free.contains x && mEs T N hot es sc fb (y :: ys) | _ => false
  | .isin a ts, sc, fb, e => match e with | .Call (.Name x _) [y, z] [] _ => decide (x = "isinstance") && glB sc x && T.free.contains x && nost y && mE T N hot a sc fb y && tyB T sc ts z | _ => false
  | .idx a i, sc, fb, e => match e with | .Subscript x y _ => nosl y && mE T N hot a sc fb x && mE T N hot i sc fb y | _ => false
  | .slc a lo hi, sc, fb, e => match e with | .Subscript x (.Slice l h none _) _ => mE T N hot a sc fb x && mP T N hot lo sc fb l && mP T N hot hi sc fb h | _ => false
  | .rev a, sc, fb, e => match e with | .Subscript x (.Slice none none (some (.UnaryOp .USub (.Constant (.int 1) _ _) _)) _) _ => mE T N hot a sc fb x | _ => false
  | .mth m o es, sc, fb, e => match e with | .Call (.Attribute x nm apos) xs [] cpos => decide (nm = mthNm m) && nocall x && (apos.endLine == cpos.line) && mE T N hot o sc fb x && mEs T N hot es sc fb xs && mthOk m xs es | _ => false
  | .comp own g it ifs elt, sc, fb, e => match e with
    | .ListComp el [⟨tg, itr, cs, 0⟩] scope _ => !hot && blkC N sc scope (ownPairs N own) && mI T N hot it sc fb tg itr && noset itr && mG T N hot (some own) g (relS scope sc) (blkF scope) tg && mTs T N hot ifs (relS scope sc) (blkF scope) cs && mE T N hot elt (relS scope sc) (blkF scope) el
    | _ => false
  | _, _, _, _ => false
def mEs (T : Tb) (N : List Str) (hot : Bool) : CE → Scope → (Str → Bool) → List Expr → Bool
  | .nil, _, _, l => l.isEmpty
  | .cons e es, sc, fb, l => match l with | x :: xs => nost x && mE T N hot e sc fb x && mEs T N hot es sc fb xs | [] => false
  | _, _, _, _ => false
def mP (T : Tb) (N : List Str) (hot : Bool) : CE → Scope → (Str → Bool) → Option Expr → Bool
  | .nil, _, _, l => l.isNone
  | .cons e _, sc, fb, l => match l with | some x => mE T N hot e sc fb x | none => false
  | _, _, _, _ => false
def mT (T : Tb) (N : List Str) (hot : Bool) : CE → Scope → (Str → Bool) → Expr → Bool
  | .cmp op a b, sc, fb, e => match e with | .Compare l [o] [r] _ => decide (o = copPy op) && noset r && mE T N hot a sc fb l && mE T N hot b sc fb r | _ => false
  | .chain o1 o2 a b c, sc, fb, e => match e with | .Compare l [o, o'] [r, s] _ => decide (o = copPy o1) && decide (o' = copPy o2) && noset s && mE T N hot a sc fb l && mE T N hot b sc fb r && mE T N hot c sc fb s | _ => false
  | .not a, sc, fb, e => match e with | .UnaryOp .Not x _ => mT T N hot a sc fb x | _ => false
  | .and es, sc, fb, e => match e with | .BoolOp .And l _ => mTl T N hot es sc fb l && !l.isEmpty | _ => false
  | .or es, sc, fb, e => match e with | .BoolOp .Or l _ => mTl T N hot es sc fb l && !l.isEmpty | _ => false
  | .tru a, sc, fb, e => byval e && mE T N hot a sc fb e
  | _, _, _, _ => false
def mTl (T : Tb) (N : List Str) (hot : Bool) : CE → Scope → (Str → Bool) → List Expr → Bool
  | .nil, _, _, l => l.isEmpty
  | .cons e es, sc, fb, l => match l with | x :: xs => mT T N hot e sc fb x && mTl T N hot es sc fb xs | [] => false
  | _, _, _, _ => false
def mTs (T : Tb) (N : List Str) (hot : Bool) : CE → Scope → (Str → Bool) → List Expr → Bool
  | .nil, _, _, l => l.isEmpty
  | .cons e es, sc, fb, l => match l, es with | [x], .nil => mT T N hot e sc fb x | _, _ => false
  | _, _, _, _ => false
def mI (T : Tb) (N : List Str) (hot : Bool) : CE → Scope → (Str → Bool) → Expr → Expr → Bool
  | .range1 a, sc, fb, _, e => match e with | .Call (.Name x _) [y] [] _ => decide (x = "range") && glB sc x && T.free.contains x && nost y && mE T N hot a sc fb y | _ => false
  | .range2 a b, sc, fb, _, e => match e with | .Call (.Name x _) [y, z] [] _ => decide (x = "range") && glB sc x && T.free.contains x && nost y && nost z && mE T N hot a sc fb y && mE T N hot b sc fb z | _ => false
  | .enum a, sc, fb, tg, e => match e with | .Call (.Name x _) [y] [] _ => isTup tg && decide (x = "enumerate") && glB sc x && T.free.contains x && nost y && mE T N hot a sc fb y | _ => false
  | .zip a b, sc, fb, tg, e => match e with | .Call (.Name x _) [y, z] [] _ => isTup tg && decide (x = "zip") && glB sc x && T.free.contains x && nost y && nost z && mE T N hot a sc fb y && mE T N hot b sc fb z | _ => false
  | .val a, sc, fb, _, e => mE T N hot a sc fb e
  | _, _, _, _, _ => false
def mG (T : Tb) (N : List Str) (hot : Bool) (own : Option (List Nat)) : CE → Scope → (Str → Bool) → Expr → Bool
  | .var i, sc, fb, e => match e with | .Name x _ => decide (N[i]? = some x) && locB sc fb x && (match own with | some o => o.contains i | none => true) | _ => false
  | .tup gs, sc, fb, e => match e with | .Tuple l _ _ => !hot && l.all nost && mGs T N hot own gs sc fb l | _ => false
  | .idx o i, sc, fb, e => match e with | .Subscript x y _ => own.isNone && nosl y && mE T N hot o sc fb x && mE T N hot i sc fb y | _ => false
  | _, _, _, _ => false
def mGs (T : Tb) (N : List Str) (hot : Bool) (own : Option (List Nat)) : CE → Scope → (Str → Bool) → List Expr → Bool
  | .nil, _, _, l => l.isEmpty
  | .cons g gs, sc, fb, l => match l with | x :: xs => nost x && mG T N hot own g sc fb x && mGs T N hot own gs sc fb xs | [] => false
  | _, _, _, _ => false
end
end PL

namespace PL
open PySem PySem.Spec PyProof.Rows L2

structure CG (X : Cx) (T : Tb) (C : ACall) (N : List Str) (hot : Bool) (sc : Scope) (fb : Str → Bool) (Wx : WX) : Prop where
  mono : CMono C
  hN : X.N = N
  nd : N.Nodup
  hsc : X.env.scope = sc
  hfb : X.fn = fb
  hu : X.A.units + 64 < cLine
  calm : hot = false → X.calm = true
  fns : hot = false → ∀ f x, T.nm f = some x → FnC X T C f x
  gvs : ∀ g x, T.gn g = some x → ∃ v u, X.mg x = some u ∧ RelV v u ∧ ∀ av, T.gv g = some av → ∀ H, Rep X.K H av v
  free : ∀ x, T.free.contains x = true → X.mg x = none
  tk : Takes X Wx
section
variable {T : Tb} {C : ACall} {N : List Str} {hot : Bool}
theorem CG.quiet {X : Cx} {sc : Scope} {fb : Str → Bool} {Wx : WX} (G : CG X T C N hot sc fb Wx) : CG X T C N hot sc fb (fun _ _ _ _ => False) := ⟨G.mono, G.hN, G.nd, G.hsc, G.hfb, G.hu, G.calm, G.fns, G.gvs, G.free, takes0⟩
theorem CG.blk {X : Cx} {sc : Scope} {fb : Str → Bool} {Wx : WX} (G : CG X T C N hot sc fb Wx) (s : Shared) (H : Hp) (scope : Scope) (C' : Addr) (cl : List (Str × Addr)) (fp : List Addr) : CG (X.blk s H scope (compEnvC scope cl C' X.env) fp) T C N hot (relS scope sc) (blkF scope) (fun _ _ _ _ => False) :=
  ⟨G.mono, G.hN, G.nd, by rw [← G.hsc]; rfl, rfl, G.hu, G.calm, G.fns, G.gvs, G.free, takes0⟩
theorem vis_ok {sc : Scope} {x : Str} (h : visB sc x = true) : Vis sc x := by
  unfold visB at h
  split at h <;> first | exact .inl (by assumption) | exact .inr (.inl (by assumption)) | exact .inr (.inr (by assumption)) | cases h
theorem loc_ok {sc : Scope} {fb : Str → Bool} {x : Str} (h : locB sc fb x = true) : Loc sc x ∧ (fb x = true ∨ sc.names.lookup x = some .local) := by
  unfold locB at h
  split at h
  · rename_i e; exact ⟨.inl e, .inr e⟩
  · rename_i e; exact ⟨.inr e, .inl h⟩
  · cases h
theorem gl_ok {X : Cx} {sc : Scope} {fb : Str → Bool} {Wx : WX} (G : CG X T C N hot sc fb Wx) {x : Str} (h : glB sc x = true) : Gl X x := by
  unfold glB at h
  unfold Gl Env.kindOf
  rw [G.hsc]
  split at h
  · assumption
  · cases h
theorem nm_ok {x : Str} (h : nmOk x = true) : (x == ("__debug__" : Str)) = false ∧ (x == ("__classdict__" : Str)) = false := by
  unfold nmOk at h
  rw [Bool.and_eq_true] at h
  simpa using h
theorem tys_ok {X : Cx} {sc : Scope} {fb : Str → Bool} {Wx : WX} (G : CG X T C N hot sc fb Wx) : ∀ {ts : List Ty} {es : List Expr}, tysB T sc ts es = true → ∃ ps, es = tyEs ts ps ∧ ts.length = ps.length ∧ ∀ t ∈ ts, Gl X (tyNmS t) ∧ X.mg (tyNmS t) = none
  | [], [], _ => ⟨[], rfl, rfl, fun _ h => nomatch h⟩
  | [], _ :: _, h => nomatch h
  | t :: ts, [], h => nomatch h
  | t :: ts, e :: es, h => by
    unfold tysB at h
    split at h
    · rename_i e1 e2; cases e1
    · rename_i x p _ _ e1 e2
      simp only [Bool.and_eq_true, decide_eq_true_eq] at h
      obtain ⟨⟨⟨h1, h2⟩, h3⟩, h4⟩ := h
      cases e1
      cases e2
      subst h1
      obtain ⟨ps, rfl, hl, ha⟩ := tys_ok G h4
      refine ⟨_ :: ps, rfl, by rw [List.length_cons, List.length_cons, hl], fun u hu => ?_⟩
      rcases List.mem_cons.mp hu with rfl | hu
      · exact ⟨gl_ok G h2, G.free _ h3⟩
      · exact ha u hu
    · cases h
theorem mGs_len {own : Option (List Nat)} {sc : Scope} {fb : Str → Bool} : ∀ {g : CE} {l : List Expr}, mGs T N hot own g sc fb l = true → g.len = l.length := by
  intro g
  induction g with
  | nil =>
    intro l h
    simp only [mGs, List.isEmpty_iff] at h
    subst h; rfl
  | cons g gs _ ih =>
    intro l h
    simp only [mGs] at h
    split at h
    · rw [Bool.and_eq_true] at h
      show gs.len + 1 = _
      rw [ih h.2, List.length_cons]
    · cases h
  | _ => intro l h; simp [mGs] at h
theorem mEs_nost {sc : Scope} {fb : Str → Bool} : ∀ {g : CE} {l : List Expr}, mEs T N hot g sc fb l = true → l.all nost = true := by
  intro g
  induction g with
  | nil =>
    intro l h
    simp only [mEs, List.isEmpty_iff] at h
    subst h; rfl
  | cons g gs _ ih =>
    intro l h
    simp only [mEs] at h
    split at h
    · rw [Bool.and_eq_true, Bool.and_eq_true] at h
      rw [List.all_cons, h.1.1, ih h.2]; rfl
    · cases h
  | _ => intro l h; simp [mEs] at h
theorem noset_fold {e : Expr} {env : Env} (h : noset e = true) : ∀ x, foldedSetIterable e env x = pure x := by
  intro x
  cases e <;> first | rfl | cases h

def allPE (X : Cx) (T : Tb) (C : ACall) (Wx : WX) : CE → List Expr → Prop
  | .cons a es, x :: xs => PE X x (cE (wd X T) Wx (wpE C T a)) ∧ allPE X T C Wx es xs
  | _, _ => True

mutual
theorem sE : ∀ (e : CE) {X : Cx} {sc : Scope} {fb : Str → Bool} {Wx : WX}, CG X T C N hot sc fb Wx → ∀ {ex : Expr}, mE T N hot e sc fb ex = true → PE X ex (cE (wd X T) Wx (wpE C T e))
  | .non, X, sc, fb, Wx, G, ex, h => by
    simp only [mE] at h; split at h
    · exact s_const pe_non (fun H => rep_non.mpr rfl) fun _ _ _ _ q => q
    · cases h
  | .bl b, X, sc, fb, Wx, G, ex, h => by
    simp only [mE] at h; split at h
    · rename_i c _ _
      have h : b = c := by simpa using h
      subst h
      exact s_const pe_bl (fun H => rep_bl.mpr rfl) fun _ _ _ _ q => q
    · cases h
  | .int b, X, sc, fb, Wx, G, ex, h => by
    simp only [mE] at h; split at h
    · rename_i c _ _
      have h : b = c := by simpa using h
      subst h
      exact s_const pe_int (fun H => rep_int.mpr rfl) fun _ _ _ _ q => q
    · cases h
  | .str b, X, sc, fb, Wx, G, ex, h => by
    simp only [mE] at h; split at h
    · rename_i c _ _
      have h : b = c := by simpa using h
      subst h
      exact s_const pe_str (fun H => rep_str.mpr rfl) fun _ _ _ _ q => q
    · cases h
  | .var i, X, sc, fb, Wx, G, ex, h => by
    simp only [mE] at h; split at h
    · simp only [Bool.and_eq_true, decide_eq_true_eq] at h
      exact s_var (by rw [G.hN]; exact h.1.1) (by rw [G.hsc]; exact vis_ok h.1.2) (nm_ok h.2).1 (nm_ok h.2).2
    · cases h
  | .glob g, X, sc, fb, Wx, G, ex, h => by
    simp only [mE] at h; split at h
    · simp only [Bool.and_eq_true, decide_eq_true_eq] at h
      obtain ⟨v, u, hm, hr, hv⟩ := G.gvs _ _ h.1.1
      exact (pe_glob (gl_ok G h.1.2) hm hr (nm_ok h.2).1).imp fun σ H Q ⟨env, hh, re, rh, av, e, q⟩ => cQ.here (W := wd X T) q rh (hv av e H)
    · cases h
  | .tup es, X, sc, fb, Wx, G, ex, h => by
    simp only [mE] at h; split at h
    · exact s_tup G.mono (sEs es G h)
    · cases h
  | .lst es, X, sc, fb, Wx, G, ex, h => by
    simp only [mE] at h; split at h
    · exact s_lst G.mono (sEs es G h)
    · cases h
  | .dct0, X, sc, fb, Wx, G, ex, h => by
    simp only [mE] at h; split at h
    · exact s_dct0
    · cases h
  | .bin op a b, X, sc, fb, Wx, G, ex, h => by
    simp only [mE] at h; split at h
    · simp only [Bool.and_eq_true, decide_eq_true_eq] at h
      obtain ⟨⟨rfl, h1⟩, h2⟩ := h
      exact s_bin G.mono (sE a G h1) (sE b G h2)
    · cases h
  | .neg a, X, sc, fb, Wx, G, ex, h => by
    simp only [mE] at h; split at h
    · exact s_neg G.mono (sE a G h)
    · cases h
  | .not a, X, sc, fb, Wx, G, ex, h => by
    simp only [mE] at h; split at h
    · exact s_not G.mono (sE a G h)
    · cases h
  | .cmp op a b, X, sc, fb, Wx, G, ex, h => by
    simp only [mE] at h; split at h
    · simp only [Bool.and_eq_true, decide_eq_true_eq] at h
      obtain ⟨⟨⟨rfl, h0⟩, h1⟩, h2⟩ := h
      exact s_cmp G.mono G.hu (sE a G h1) (sE b G h2) h0
    · cases h
  | .chain o1 o2 a b c, X, sc, fb, Wx, G, ex, h => by
    simp only [mE] at h; split at h
    · simp only [Bool.and_eq_true, decide_eq_true_eq] at h
      obtain ⟨⟨⟨⟨⟨rfl, rfl⟩, h0⟩, h1⟩, h2⟩, h3⟩ := h
      exact s_chain G.mono G.hu (sE a G h1) (sE b G h2) (sE c G h3) h0
    · cases h
  | .and es, X, sc, fb, Wx, G, ex, h => by
    simp only [mE] at h; split at h
    · simp only [Bool.and_eq_true] at h
      have q := sAndV es G h.1 (by simpa using h.2)
      exact q _
    · cases h
  | .or es, X, sc, fb, Wx, G, ex, h => by
    simp only [mE] at h; split at h
    · simp only [Bool.and_eq_true] at h
      have q := sOrV es G h.1 (by simpa using h.2)
      exact q _
    · cases h
  | .ifx c a b, X, sc, fb, Wx, G, ex, h => by
    simp only [mE] at h; split at h
    · simp only [Bool.and_eq_true] at h
      exact s_ifx G.mono (sT c G h.1.1) (sE a G h.1.2) (sE b G h.2)
    · cases h
  | .call f es, X, sc, fb, Wx, G, ex, h => by
    simp only [mE] at h; split at h
    · simp only [Bool.and_eq_true, decide_eq_true_eq] at h
      obtain ⟨⟨⟨⟨h0, h1⟩, h2⟩, h3⟩, h4⟩ := h
      have hh : hot = false := by simpa using h0
      have F := G.fns hh _ _ h1
      have ns := mEs_nost h4
      have pa := sEs es G h4
      rename_i _ _ xs _
      cases xs with
      | nil =>
        cases es with
        | nil => exact s_call0 G.mono G.tk F (gl_ok G h2) (nm_ok h3).1
        | _ => simp [mEs] at h4
      | cons y ys =>
        rw [List.all_cons, Bool.and_eq_true] at ns
        exact s_call G.mono G.tk F (gl_ok G h2) (nm_ok h3).1 pa ns.1 ns.2
    · cases h
  | .blt f es, X, sc, fb, Wx, G, ex, h => by
    simp only [mE] at h; split at h
    · simp only [Bool.and_eq_true, decide_eq_true_eq] at h
      obtain ⟨⟨⟨⟨h0, rfl⟩, h2⟩, h3⟩, h4⟩ := h
      have ns := mEs_nost h4
      rw [List.all_cons, Bool.and_eq_true] at ns
      exact s_blt G.mono (G.calm (by simpa using h0)) (gl_ok G h2) (G.free _ h3) (sEs es G h4) ns.1 ns.2
    · cases h
  | .isin a ts, X, sc, fb, Wx, G, ex, h => by
    simp only [mE] at h; split at h
    · simp only [Bool.and_eq_true, decide_eq_true_eq] at h
      obtain ⟨⟨⟨⟨⟨rfl, h1⟩, h2⟩, h3⟩, h4⟩, h5⟩ := h
      unfold tyB at h5
      split at h5
      · simp only [Bool.and_eq_true, decide_eq_true_eq] at h5
        obtain ⟨ps, rfl, hl, ha⟩ := tys_ok G h5.2
        exact s_isinT G.mono hl h5.1 (gl_ok G h1) (G.free _ h2) ha (sE a G h4) h3
      · split at h5
        · obtain ⟨ps, e, hl, ha⟩ := tys_ok G h5
          cases ps with
          | nil => cases e
          | cons p ps =>
            unfold tyEs at e
            cases e
            have q := ha _ List.mem_cons_self
            exact s_isin1 G.mono (gl_ok G h1) (G.free _ h2) q.1 q.2 (sE a G h4) h3
        · cases h5
      · cases h5
    · cases h
  | .idx a i, X, sc, fb, Wx, G, ex, h => by
    simp only [mE] at h; split at h
    · simp only [Bool.and_eq_true] at h
      exact s_idx G.mono G.hu (sE a G h.1.2) (sE i G h.2) h.1.1
    · cases h
  | .slc a lo hi, X, sc, fb, Wx, G, ex, h => by
    simp only [mE] at h; split at h
    · simp only [Bool.and_eq_true] at h
      exact s_slc G.mono (sE a G h.1.1) (sP lo G h.1.2) (sP hi G h.2)
    · cases h
  | .rev a, X, sc, fb, Wx, G, ex, h => by
    simp only [mE] at h; split at h
    · exact s_rev G.mono (sE a G h)
    · cases h
  | .mth m o es, X, sc, fb, Wx, G, ex, h => by
    simp only [mE] at h; split at h
    · simp only [Bool.and_eq_true, decide_eq_true_eq] at h
      obtain ⟨⟨⟨⟨⟨rfl, h1⟩, h2⟩, h3⟩, h4⟩, h5⟩ := h
      have ns := mEs_nost h4
      have al := sAll es G h4
      have ps := sEs es G h4
      unfold mthOk at h5
      split at h5
      · rw [List.all_cons, Bool.and_eq_true] at ns
        exact s_append G.mono (sE o G h3) (sEs es G h4) h1 h2 ns.1
      · rw [List.all_cons, Bool.and_eq_true] at ns
        exact s_extend G.mono (sE o G h3) (sEs es G h4) h1 h2 ns.1
      · exact s_pop G.mono (sE o G h3) h1 h2
      · rw [List.all_cons, Bool.and_eq_true] at ns
        exact s_popA G.mono (sE o G h3) ps h1 h2 ns.1
      · rename_i y z a b
        simp only [mEs, Bool.and_eq_true] at h4
        exact s_get2 G.mono G.hu (sE o G h3) al.1 al.2.1 h1 h2 h4.1.1 h4.2.1.1
      · cases h5
    · cases h
  | .comp own g it ifs elt, X, sc, fb, Wx, G, ex, h => by
    simp only [mE] at h; split at h
    · simp only [Bool.and_eq_true] at h
      obtain ⟨⟨⟨⟨⟨⟨h0, h1⟩, h2⟩, h3⟩, h4⟩, h5⟩, h6⟩ := h
      have hb := blkOk_by h1
      have ho : (ownPairs N own).map (·.2) = own := by unfold ownPairs; rw [List.map_map]; exact List.map_id' own
      exact (pe_lc (G.calm (by simpa using h0)) (by rw [G.hN]; exact G.nd) (sI it G h2) (by rw [G.hN, G.hsc]; exact hb)
        (fun s H C' cl fp => sG (some own) g (G.blk s H _ C' cl fp) h4) (fun s H C' cl fp => sTs ifs (G.blk s H _ C' cl fp) h5) (fun s H C' cl fp => sE elt (G.blk s H _ C' cl fp) h6) (noset_fold h3)).imp
        fun σ H Q ⟨env, hh, re, rh, q⟩ => by rw [ho]; exact lc_ok G.mono re rh q
    · cases h
  | .nil, _, _, _, _, _, _, h => (Bool.false_ne_true h).elim
  | .cons _ _, _, _, _, _, _, _, h => (Bool.false_ne_true h).elim
  | .attr _ _, _, _, _, _, _, _, h => (Bool.false_ne_true h).elim
  | .umth _ _ _, _, _, _, _, _, _, h => (Bool.false_ne_true h).elim
  | .new _ _, _, _, _, _, _, _, h => (Bool.false_ne_true h).elim
  | .tru _, _, _, _, _, _, _, h => (Bool.false_ne_true h).elim
  | .val _, _, _, _, _, _, _, h => (Bool.false_ne_true h).elim
  | .range1 _, _, _, _, _, _, _, h => (Bool.false_ne_true h).elim
  | .range2 _ _, _, _, _, _, _, _, h => (Bool.false_ne_true h).elim
  | .range3 _ _ _, _, _, _, _, _, _, h => (Bool.false_ne_true h).elim
  | .enum _, _, _, _, _, _, _, h => (Bool.false_ne_true h).elim
  | .zip _ _, _, _, _, _, _, _, h => (Bool.false_ne_true h).elim
  | .ditems _, _, _, _, _, _, _, h => (Bool.false_ne_true h).elim
theorem sEs : ∀ (e : CE) {X : Cx} {sc : Scope} {fb : Str → Bool} {Wx : WX}, CG X T C N hot sc fb Wx → ∀ {l : List Expr}, mEs T N hot e sc fb l = true → PA X l (cA (wd X T) Wx (wpEs C T e))
  | .nil, X, sc, fb, Wx, G, l, h => by
    simp only [mEs, List.isEmpty_iff] at h
    subst h; exact a_nil
  | .cons e es, X, sc, fb, Wx, G, l, h => by
    simp only [mEs] at h; split at h
    · simp only [Bool.and_eq_true] at h
      exact a_cons G.mono (sE e G h.1.2) (sEs es G h.2) h.1.1
    · cases h
  | .non, _, _, _, _, _, _, h => (Bool.false_ne_true h).elim
  | .bl _, _, _, _, _, _, _, h => (Bool.false_ne_true h).elim
  | .int _, _, _, _, _, _, _, h => (Bool.false_ne_true h).elim
  | .str _, _, _, _, _, _, _, h => (Bool.false_ne_true h).elim
  | .var _, _, _, _, _, _, _, h => (Bool.false_ne_true h).elim
  | .glob _, _, _, _, _, _, _, h => (Bool.false_ne_true h).elim
  | .tup _, _, _, _, _, _, _, h => (Bool.false_ne_true h).elim
  | .lst _, _, _, _, _, _, _, h => (Bool.false_ne_true h).elim
  | .dct0, _, _, _, _, _, _, h => (Bool.false_ne_true h).elim
  | .bin _ _ _, _, _, _, _, _, _, h => (Bool.false_ne_true h).elim
  | .neg _, _, _, _, _, _, _, h => (Bool.false_ne_true h).elim
  | .not _, _, _, _, _, _, _, h => (Bool.false_ne_true h).elim
  | .cmp _ _ _, _, _, _, _, _, _, h => (Bool.false_ne_true h).elim
  | .chain _ _ _ _ _, _, _, _, _, _, _, h => (Bool.false_ne_true h).elim
  | .and _, _, _, _, _, _, _, h => (Bool.false_ne_true h).elim
  | .or _, _, _, _, _, _, _, h => (Bool.false_ne_true h).elim
  | .ifx _ _ _, _, _, _, _, _, _, h => (Bool.false_ne_true h).elim
  | .call _ _, _, _, _, _, _, _, h => (Bool.false_ne_true h).elim
  | .blt _ _, _, _, _, _, _, _, h => (Bool.false_ne_true h).elim
  | .isin _ _, _, _, _, _, _, _, h => (Bool.false_ne_true h).elim
  | .idx _ _, _, _, _, _, _, _, h => (Bool.false_ne_true h).elim
  | .slc _ _ _, _, _, _, _, _, _, h => (Bool.false_ne_true h).elim
  | .rev _, _, _, _, _, _, _, h => (Bool.false_ne_true h).elim
  | .mth _ _ _, _, _, _, _, _, _, h => (Bool.false_ne_true h).elim
  | .attr _ _, _, _, _, _, _, _, h => (Bool.false_ne_true h).elim
  | .umth _ _ _, _, _, _, _, _, _, h => (Bool.false_ne_true h).elim
  | .new _ _, _, _, _, _, _, _, h => (Bool.false_ne_true h).elim
  | .comp _ _ _ _ _, _, _, _, _, _, _, h => (Bool.false_ne_true h).elim
  | .tru _, _, _, _, _, _, _, h => (Bool.false_ne_true h).elim
  | .val _, _, _, _, _, _, _, h => (Bool.false_ne_true h).elim
  | .range1 _, _, _, _, _, _, _, h => (Bool.false_ne_true h).elim
  | .range2 _ _, _, _, _, _, _, _, h => (Bool.false_ne_true h).elim
  | .range3 _ _ _, _, _, _, _, _, _, h => (Bool.false_ne_true h).elim
  | .enum _, _, _, _, _, _, _, h => (Bool.false_ne_true h).elim
  | .zip _ _, _, _, _, _, _, _, h => (Bool.false_ne_true h).elim
  | .ditems _, _, _, _, _, _, _, h => (Bool.false_ne_true h).elim
theorem sAll : ∀ (e : CE) {X : Cx} {sc : Scope} {fb : Str → Bool} {Wx : WX}, CG X T C N hot sc fb Wx → ∀ {l : List Expr}, mEs T N hot e sc fb l = true → allPE X T C Wx e l
  | .nil, X, sc, fb, Wx, G, l, h => by
    simp only [mEs, List.isEmpty_iff] at h
    subst h; exact trivial
  | .cons e es, X, sc, fb, Wx, G, l, h => by
    simp only [mEs] at h; split at h
    · simp only [Bool.and_eq_true] at h
      exact ⟨sE e G h.1.2, sAll es G h.2⟩
    · cases h
  | .non, _, _, _, _, _, _, h => (Bool.false_ne_true h).elim
  | .bl _, _, _, _, _, _, _, h => (Bool.false_ne_true h).elim
  | .int _, _, _, _, _, _, _, h => (Bool.false_ne_true h).elim
  | .str _, _, _, _, _, _, _, h => (Bool.false_ne_true h).elim
  | .var _, _, _, _, _, _, _, h => (Bool.false_ne_true h).elim
  | .glob _, _, _, _, _, _, _, h => (Bool.false_ne_true h).elim
  | .tup _, _, _, _, _, _, _, h => (Bool.false_ne_true h).elim
  | .lst _, _, _, _, _, _, _, h => (Bool.false_ne_true h).elim
  | .dct0, _, _, _, _, _, _, h => (Bool.false_ne_true h).elim
  | .bin _ _ _, _, _, _, _, _, _, h => (Bool.false_ne_true h).elim
  | .neg _, _, _, _, _, _, _, h => (Bool.false_ne_true h).elim
  | .not _, _, _, _, _, _, _, h => (Bool.false_ne_true h).elim
  | .cmp _ _ _, _, _, _, _, _, _, h => (Bool.false_ne_true h).elim
  | .chain _ _ _ _ _, _, _, _, _, _, _, h => (Bool.false_ne_true h).elim
  | .and _, _, _, _, _, _, _, h => (Bool.false_ne_true h).elim
  | .or _, _, _, _, _, _, _, h => (Bool.false_ne_true h).elim
  | .ifx _ _ _, _, _, _, _, _, _, h => (Bool.false_ne_true h).elim
  | .call _ _, _, _, _, _, _, _, h => (Bool.false_ne_true h).elim
  | .blt _ _, _, _, _, _, _, _, h => (Bool.false_ne_true h).elim
  | .isin _ _, _, _, _, _, _, _, h => (Bool.false_ne_true h).elim
  | .idx _ _, _, _, _, _, _, _, h => (Bool.false_ne_true h).elim
  | .slc _ _ _, _, _, _, _, _, _, h => (Bool.false_ne_true h).elim
  | .rev _, _, _, _, _, _, _, h => (Bool.false_ne_true h).elim
  | .mth _ _ _, _, _, _, _, _, _, h => (Bool.false_ne_true h).elim
  | .attr _ _, _, _, _, _, _, _, h => (Bool.false_ne_true h).elim
  | .umth _ _ _, _, _, _, _, _, _, h => (Bool.false_ne_true h).elim
  | .new _ _, _, _, _, _, _, _, h => (Bool.false_ne_true h).elim
  | .comp _ _ _ _ _, _, _, _, _, _, _, h => (Bool.false_ne_true h).elim
  | .tru _, _, _, _, _, _, _, h => (Bool.false_ne_true h).elim
  | .val _, _, _, _, _, _, _, h => (Bool.false_ne_true h).elim
  | .range1 _, _, _, _, _, _, _, h => (Bool.false_ne_true h).elim
  | .range2 _ _, _, _, _, _, _, _, h => (Bool.false_ne_true h).elim
  | .range3 _ _ _, _, _, _, _, _, _, h => (Bool.false_ne_true h).elim
  | .enum _, _, _, _, _, _, _, h => (Bool.false_ne_true h).elim
  | .zip _ _, _, _, _, _, _, _, h => (Bool.false_ne_true h).elim
  | .ditems _, _, _, _, _, _, _, h => (Bool.false_ne_true h).elim
theorem sAndV : ∀ (e : CE) {X : Cx} {sc : Scope} {fb : Str → Bool} {Wx : WX}, CG X T C N hot sc fb Wx → ∀ {l : List Expr}, mEs T N hot e sc fb l = true → l ≠ [] → ∀ pos, PE X (.BoolOp .And l pos) (cE (wd X T) Wx (wpAndV C T e))
  | .nil, X, sc, fb, Wx, G, l, h, hn, pos => by
    simp only [mEs, List.isEmpty_iff] at h
    exact absurd h hn
  | .cons e es, X, sc, fb, Wx, G, l, h, hn, pos => by
    simp only [mEs] at h; split at h
    · simp only [Bool.and_eq_true] at h
      have r := fun hn => sAndV es G h.2 hn pos
      cases es with
      | nil =>
        have h2 := h.2
        simp only [mEs, List.isEmpty_iff] at h2
        subst h2
        exact s_and1 G.mono (sE e G h.1.2)
      | cons e' es' =>
        have h2 := h.2
        simp only [mEs] at h2
        split at h2
        · exact s_and G.mono (sE e G h.1.2) (r (by simp))
        · cases h2
      | _ => have h2 := h.2; simp [mEs] at h2
    · cases h
  | .non, _, _, _, _, _, _, h, _, _ => (Bool.false_ne_true h).elim
  | .bl _, _, _, _, _, _, _, h, _, _ => (Bool.false_ne_true h).elim
  | .int _, _, _, _, _, _, _, h, _, _ => (Bool.false_ne_true h).elim
  | .str _, _, _, _, _, _, _, h, _, _ => (Bool.false_ne_true h).elim
  | .var _, _, _, _, _, _, _, h, _, _ => (Bool.false_ne_true h).elim
  | .glob _, _, _, _, _, _, _, h, _, _ => (Bool.false_ne_true h).elim
  | .tup _, _, _, _, _, _, _, h, _, _ => (Bool.false_ne_true h).elim
  | .lst _, _, _, _, _, _, _, h, _, _ => (Bool.false_ne_true h).elim
  | .dct0, _, _, _, _, _, _, h, _, _ => (Bool.false_ne_true h).elim
  | .bin _ _ _, _, _, _, _, _, _, h, _, _ => (Bool.false_ne_true h).elim
  | .neg _, _, _, _, _, _, _, h, _, _ => (Bool.false_ne_true h).elim
  | .not _, _, _, _, _, _, _, h, _, _ => (Bool.false_ne_true h).elim
  | .cmp _ _ _, _, _, _, _, _, _, h, _, _ => (Bool.false_ne_true h).elim
  | .chain _ _ _ _ _, _, _, _, _, _, _, h, _, _ => (Bool.false_ne_true h).elim
  | .and _, _, _, _, _, _, _, h, _, _ => (Bool.false_ne_true h).elim
  | .or _, _, _, _, _, _, _, h, _, _ => (Bool.false_ne_true h).elim
  | .ifx _ _ _, _, _, _, _, _, _, h, _, _ => (Bool.false_ne_true h).elim
  | .call _ _, _, _, _, _, _, _, h, _, _ => (Bool.false_ne_true h).elim
  | .blt _ _, _, _, _, _, _, _, h, _, _ => (Bool.false_ne_true h).elim
  | .isin _ _, _, _, _, _, _, _, h, _, _ => (Bool.false_ne_true h).elim
  | .idx _ _, _, _, _, _, _, _, h, _, _ => (Bool.false_ne_true h).elim
  | .slc _ _ _, _, _, _, _, _, _, h, _, _ => (Bool.false_ne_true h).elim
  | .rev _, _, _, _, _, _, _, h, _, _ => (Bool.false_ne_true h).elim
  | .mth _ _ _, _, _, _, _, _, _, h, _, _ => (Bool.false_ne_true h).elim
  | .attr _ _, _, _, _, _, _, _, h, _, _ => (Bool.false_ne_true h).elim
  | .umth _ _ _, _, _, _, _, _, _, h, _, _ => (Bool.false_ne_true h).elim
  | .new _ _, _, _, _, _, _, _, h, _, _ => (Bool.false_ne_true h).elim
  | .comp _ _ _ _ _, _, _, _, _, _, _, h, _, _ => (Bool.false_ne_true h).elim
  | .tru _, _, _, _, _, _, _, h, _, _ => (Bool.false_ne_true h).elim
  | .val _, _, _, _, _, _, _, h, _, _ => (Bool.false_ne_true h).elim
  | .range1 _, _, _, _, _, _, _, h, _, _ => (Bool.false_ne_true h).elim
  | .range2 _ _, _, _, _, _, _, _, h, _, _ => (Bool.false_ne_true h).elim
  | .range3 _ _ _, _, _, _, _, _, _, h, _, _ => (Bool.false_ne_true h).elim
  | .enum _, _, _, _, _, _, _, h, _, _ => (Bool.false_ne_true h).elim
  | .zip _ _, _, _, _, _, _, _, h, _, _ => (Bool.false_ne_true h).elim
  | .ditems _, _, _, _, _, _, _, h, _, _ => (Bool.false_ne_true h).elim
theorem sOrV : ∀ (e : CE) {X : Cx} {sc : Scope} {fb : Str → Bool} {Wx : WX}, CG X T C N hot sc fb Wx → ∀ {l : List Expr}, mEs T N hot e sc fb l = true → l ≠ [] → ∀ pos, PE X (.BoolOp .Or l pos) (cE (wd X T) Wx (wpOrV C T e))
  | .nil, X, sc, fb, Wx, G, l, h, hn, pos => by
    simp only [mEs, List.isEmpty_iff] at h
    exact absurd h hn
  | .cons e es, X, sc, fb, Wx, G, l, h, hn, pos => by
    simp only [mEs] at h; split at h
    · simp only [Bool.and_eq_true] at h
      have r := fun hn => sOrV es G h.2 hn pos
      cases es with
      | nil =>
        have h2 := h.2
        simp only [mEs, List.isEmpty_iff] at h2
        subst h2
        exact s_or1 G.mono (sE e G h.1.2)
      | cons e' es' =>
        have h2 := h.2
        simp only [mEs] at h2
        split at h2
        · exact s_or G.mono (sE e G h.1.2) (r (by simp))
        · cases h2
      | _ => have h2 := h.2; simp [mEs] at h2
    · cases h
  | .non, _, _, _, _, _, _, h, _, _ => (Bool.false_ne_true h).elim
  | .bl _, _, _, _, _, _, _, h, _, _ => (Bool.false_ne_true h).elim
  | .int _, _, _, _, _, _, _, h, _, _ => (Bool.false_ne_true h).elim
  | .str _, _, _, _, _, _, _, h, _, _ => (Bool.false_ne_true h).elim
  | .var _, _, _, _, _, _, _, h, _, _ => (Bool.false_ne_true h).elim
  | .glob _, _, _, _, _, _, _, h, _, _ => (Bool.false_ne_true h).elim
  | .tup _, _, _, _, _, _, _, h, _, _ => (Bool.false_ne_true h).elim
  | .lst _, _, _, _, _, _, _, h, _, _ => (Bool.false_ne_true h).elim
  | .dct0, _, _, _, _, _, _, h, _, _ => (Bool.false_ne_true h).elim
  | .bin _ _ _, _, _, _, _, _, _, h, _, _ => (Bool.false_ne_true h).elim
  | .neg _, _, _, _, _, _, _, h, _, _ => (Bool.false_ne_true h).elim
  | .not _, _, _, _, _, _, _, h, _, _ => (Bool.false_ne_true h).elim
  | .cmp _ _ _, _, _, _, _, _, _, h, _, _ => (Bool.false_ne_true h).elim
  | .chain _ _ _ _ _, _, _, _, _, _, _, h, _, _ => (Bool.false_ne_true h).elim
  | .and _, _, _, _, _, _, _, h, _, _ => (Bool.false_ne_true h).elim
  | .or _, _, _, _, _, _, _, h, _, _ => (Bool.false_ne_true h).elim
  | .ifx _ _ _, _, _, _, _, _, _, h, _, _ => (Bool.false_ne_true h).elim
  | .call _ _, _, _, _, _, _, _, h, _, _ => (Bool.false_ne_true h).elim
  | .blt _ _, _, _, _, _, _, _, h, _, _ => (Bool.false_ne_true h).elim
  | .isin _ _, _, _, _, _, _, _, h, _, _ => (Bool.false_ne_true h).elim
  | .idx _ _, _, _, _, _, _, _, h, _, _ => (Bool.false_ne_true h).elim
  | .slc _ _ _, _, _, _, _, _, _, h, _, _ => (Bool.false_ne_true h).elim
  | .rev _, _, _, _, _, _, _, h, _, _ => (Bool.false_ne_true h).elim
  | .mth _ _ _, _, _, _, _, _, _, h, _, _ => (Bool.false_ne_true h).elim
  | .attr _ _, _, _, _, _, _, _, h, _, _ => (Bool.false_ne_true h).elim
  | .umth _ _ _, _, _, _, _, _, _, h, _, _ => (Bool.false_ne_true h).elim
  | .new _ _, _, _, _, _, _, _, h, _, _ => (Bool.false_ne_true h).elim
  | .comp _ _ _ _ _, _, _, _, _, _, _, h, _, _ => (Bool.false_ne_true h).elim
  | .tru _, _, _, _, _, _, _, h, _, _ => (Bool.false_ne_true h).elim
  | .val _, _, _, _, _, _, _, h, _, _ => (Bool.false_ne_true h).elim
  | .range1 _, _, _, _, _, _, _, h, _, _ => (Bool.false_ne_true h).elim
  | .range2 _ _, _, _, _, _, _, _, h, _, _ => (Bool.false_ne_true h).elim
  | .range3 _ _ _, _, _, _, _, _, _, h, _, _ => (Bool.false_ne_true h).elim
  | .enum _, _, _, _, _, _, _, h, _, _ => (Bool.false_ne_true h).elim
  | .zip _ _, _, _, _, _, _, _, h, _, _ => (Bool.false_ne_true h).elim
  | .ditems _, _, _, _, _, _, _, h, _, _ => (Bool.false_ne_true h).elim
theorem sP : ∀ (e : CE) {X : Cx} {sc : Scope} {fb : Str → Bool} {Wx : WX}, CG X T C N hot sc fb Wx → ∀ {l : Option Expr}, mP T N hot e sc fb l = true → PO X l (cP (wd X T) Wx (wpP C T e))
  | .nil, X, sc, fb, Wx, G, l, h => by
    simp only [mP, Option.isNone_iff_eq_none] at h
    subst h; exact p_none
  | .cons e es, X, sc, fb, Wx, G, l, h => by
    simp only [mP] at h; split at h
    · exact p_some G.mono (sE e G h)
    · cases h
  | .non, _, _, _, _, _, _, h => (Bool.false_ne_true h).elim
  | .bl _, _, _, _, _, _, _, h => (Bool.false_ne_true h).elim
  | .int _, _, _, _, _, _, _, h => (Bool.false_ne_true h).elim
  | .str _, _, _, _, _, _, _, h => (Bool.false_ne_true h).elim
  | .var _, _, _, _, _, _, _, h => (Bool.false_ne_true h).elim
  | .glob _, _, _, _, _, _, _, h => (Bool.false_ne_true h).elim
  | .tup _, _, _, _, _, _, _, h => (Bool.false_ne_true h).elim
  | .lst _, _, _, _, _, _, _, h => (Bool.false_ne_true h).elim
  | .dct0, _, _, _, _, _, _, h => (Bool.false_ne_true h).elim
  | .bin _ _ _, _, _, _, _, _, _, h => (Bool.false_ne_true h).elim
  | .neg _, _, _, _, _, _, _, h => (Bool.false_ne_true h).elim
  | .not _, _, _, _, _, _, _, h => (Bool.false_ne_true h).elim
  | .cmp _ _ _, _, _, _, _, _, _, h => (Bool.false_ne_true h).elim
  | .chain _ _ _ _ _, _, _, _, _, _, _, h => (Bool.false_ne_true h).elim
  | .and _, _, _, _, _, _, _, h => (Bool.false_ne_true h).elim
  | .or _, _, _, _, _, _, _, h => (Bool.false_ne_true h).elim
  | .ifx _ _ _, _, _, _, _, _, _, h => (Bool.false_ne_true h).elim
  | .call _ _, _, _, _, _, _, _, h => (Bool.false_ne_true h).elim
  | .blt _ _, _, _, _, _, _, _, h => (Bool.false_ne_true h).elim
  | .isin _ _, _, _, _, _, _, _, h => (Bool.false_ne_true h).elim
  | .idx _ _, _, _, _, _, _, _, h => (Bool.false_ne_true h).elim
  | .slc _ _ _, _, _, _, _, _, _, h => (Bool.false_ne_true h).elim
  | .rev _, _, _, _, _, _, _, h => (Bool.false_ne_true h).elim
  | .mth _ _ _, _, _, _, _, _, _, h => (Bool.false_ne_true h).elim
  | .attr _ _, _, _, _, _, _, _, h => (Bool.false_ne_true h).elim
  | .umth _ _ _, _, _, _, _, _, _, h => (Bool.false_ne_true h).elim
  | .new _ _, _, _, _, _, _, _, h => (Bool.false_ne_true h).elim
  | .comp _ _ _ _ _, _, _, _, _, _, _, h => (Bool.false_ne_true h).elim
  | .tru _, _, _, _, _, _, _, h => (Bool.false_ne_true h).elim
  | .val _, _, _, _, _, _, _, h => (Bool.false_ne_true h).elim
  | .range1 _, _, _, _, _, _, _, h => (Bool.false_ne_true h).elim
  | .range2 _ _, _, _, _, _, _, _, h => (Bool.false_ne_true h).elim
  | .range3 _ _ _, _, _, _, _, _, _, h => (Bool.false_ne_true h).elim
  | .enum _, _, _, _, _, _, _, h => (Bool.false_ne_true h).elim
  | .zip _ _, _, _, _, _, _, _, h => (Bool.false_ne_true h).elim
  | .ditems _, _, _, _, _, _, _, h => (Bool.false_ne_true h).elim
theorem sT : ∀ (e : CE) {X : Cx} {sc : Scope} {fb : Str → Bool} {Wx : WX}, CG X T C N hot sc fb Wx → ∀ {ex : Expr}, mT T N hot e sc fb ex = true → PT X ex (cT (wd X T) Wx (wpT C T e))
  | .cmp op a b, X, sc, fb, Wx, G, ex, h => by
    simp only [mT] at h; split at h
    · simp only [Bool.and_eq_true, decide_eq_true_eq] at h
      obtain ⟨⟨⟨rfl, h0⟩, h1⟩, h2⟩ := h
      exact t_cmp G.mono G.hu (sE a G h1) (sE b G h2) h0
    · cases h
  | .chain o1 o2 a b c, X, sc, fb, Wx, G, ex, h => by
    simp only [mT] at h; split at h
    · simp only [Bool.and_eq_true, decide_eq_true_eq] at h
      obtain ⟨⟨⟨⟨⟨rfl, rfl⟩, h0⟩, h1⟩, h2⟩, h3⟩ := h
      exact t_chain G.mono G.hu (sE a G h1) (sE b G h2) (sE c G h3) h0
    · cases h
  | .not a, X, sc, fb, Wx, G, ex, h => by
    simp only [mT] at h; split at h
    · exact t_not G.mono (sT a G h)
    · cases h
  | .and es, X, sc, fb, Wx, G, ex, h => by
    simp only [mT] at h; split at h
    · simp only [Bool.and_eq_true] at h
      exact (sAnd es G h.1 (by simpa using h.2) _).pt
    · cases h
  | .or es, X, sc, fb, Wx, G, ex, h => by
    simp only [mT] at h; split at h
    · simp only [Bool.and_eq_true] at h
      exact (sOr es G h.1 (by simpa using h.2) _).pt
    · cases h
  | .tru a, X, sc, fb, Wx, G, ex, h => by
    simp only [mT, Bool.and_eq_true] at h
    exact t_tru G.mono (sE a G h.2) h.1
  | .non, _, _, _, _, _, _, h => (Bool.false_ne_true h).elim
  | .bl _, _, _, _, _, _, _, h => (Bool.false_ne_true h).elim
  | .int _, _, _, _, _, _, _, h => (Bool.false_ne_true h).elim
  | .str _, _, _, _, _, _, _, h => (Bool.false_ne_true h).elim
  | .var _, _, _, _, _, _, _, h => (Bool.false_ne_true h).elim
  | .glob _, _, _, _, _, _, _, h => (Bool.false_ne_true h).elim
  | .nil, _, _, _, _, _, _, h => (Bool.false_ne_true h).elim
  | .cons _ _, _, _, _, _, _, _, h => (Bool.false_ne_true h).elim
  | .tup _, _, _, _, _, _, _, h => (Bool.false_ne_true h).elim
  | .lst _, _, _, _, _, _, _, h => (Bool.false_ne_true h).elim
  | .dct0, _, _, _, _, _, _, h => (Bool.false_ne_true h).elim
  | .bin _ _ _, _, _, _, _, _, _, h => (Bool.false_ne_true h).elim
  | .neg _, _, _, _, _, _, _, h => (Bool.false_ne_true h).elim
  | .ifx _ _ _, _, _, _, _, _, _, h => (Bool.false_ne_true h).elim
  | .call _ _, _, _, _, _, _, _, h => (Bool.false_ne_true h).elim
  | .blt _ _, _, _, _, _, _, _, h => (Bool.false_ne_true h).elim
  | .isin _ _, _, _, _, _, _, _, h => (Bool.false_ne_true h).elim
  | .idx _ _, _, _, _, _, _, _, h => (Bool.false_ne_true h).elim
  | .slc _ _ _, _, _, _, _, _, _, h => (Bool.false_ne_true h).elim
  | .rev _, _, _, _, _, _, _, h => (Bool.false_ne_true h).elim
  | .mth _ _ _, _, _, _, _, _, _, h => (Bool.false_ne_true h).elim
  | .attr _ _, _, _, _, _, _, _, h => (Bool.false_ne_true h).elim
  | .umth _ _ _, _, _, _, _, _, _, h => (Bool.false_ne_true h).elim
  | .new _ _, _, _, _, _, _, _, h => (Bool.false_ne_true h).elim
  | .comp _ _ _ _ _, _, _, _, _, _, _, h => (Bool.false_ne_true h).elim
  | .val _, _, _, _, _, _, _, h => (Bool.false_ne_true h).elim
  | .range1 _, _, _, _, _, _, _, h => (Bool.false_ne_true h).elim
  | .range2 _ _, _, _, _, _, _, _, h => (Bool.false_ne_true h).elim
  | .range3 _ _ _, _, _, _, _, _, _, h => (Bool.false_ne_true h).elim
  | .enum _, _, _, _, _, _, _, h => (Bool.false_ne_true h).elim
  | .zip _ _, _, _, _, _, _, _, h => (Bool.false_ne_true h).elim
  | .ditems _, _, _, _, _, _, _, h => (Bool.false_ne_true h).elim
theorem sAnd : ∀ (e : CE) {X : Cx} {sc : Scope} {fb : Str → Bool} {Wx : WX}, CG X T C N hot sc fb Wx → ∀ {l : List Expr}, mTl T N hot e sc fb l = true → l ≠ [] → ∀ pos, PW X (.BoolOp .And l pos) (cT (wd X T) Wx (wpAnd C T e))
  | .nil, X, sc, fb, Wx, G, l, h, hn, pos => by
    simp only [mTl, List.isEmpty_iff] at h
    exact absurd h hn
  | .cons e es, X, sc, fb, Wx, G, l, h, hn, pos => by
    simp only [mTl] at h; split at h
    · rename_i x xs
      simp only [Bool.and_eq_true] at h
      cases xs with
      | nil =>
        cases es with
        | nil => exact t_and1 G.mono (sT e G h.1)
        | _ => have h2 := h.2; simp [mTl] at h2
      | cons y ys => exact t_and G.mono (sT e G h.1) (sAnd es G h.2 (by simp) pos)
    · cases h
  | .non, _, _, _, _, _, _, h, _, _ => (Bool.false_ne_true h).elim
  | .bl _, _, _, _, _, _, _, h, _, _ => (Bool.false_ne_true h).elim
  | .int _, _, _, _, _, _, _, h, _, _ => (Bool.false_ne_true h).elim
  | .str _, _, _, _, _, _, _, h, _, _ => (Bool.false_ne_true h).elim
  | .var _, _, _, _, _, _, _, h, _, _ => (Bool.false_ne_true h).elim
  | .glob _, _, _, _, _, _, _, h, _, _ => (Bool.false_ne_true h).elim
  | .tup _, _, _, _, _, _, _, h, _, _ => (Bool.false_ne_true h).elim
  | .lst _, _, _, _, _, _, _, h, _, _ => (Bool.false_ne_true h).elim
  | .dct0, _, _, _, _, _, _, h, _, _ => (Bool.false_ne_true h).elim
  | .bin _ _ _, _, _, _, _, _, _, h, _, _ => (Bool.false_ne_true h).elim
  | .neg _, _, _, _, _, _, _, h, _, _ => (Bool.false_ne_true h).elim
  | .not _, _, _, _, _, _, _, h, _, _ => (Bool.false_ne_true h).elim
  | .cmp _ _ _, _, _, _, _, _, _, h, _, _ => (Bool.false_ne_true h).elim
  | .chain _ _ _ _ _, _, _, _, _, _, _, h, _, _ => (Bool.false_ne_true h).elim
  | .and _, _, _, _, _, _, _, h, _, _ => (Bool.false_ne_true h).elim
  | .or _, _, _, _, _, _, _, h, _, _ => (Bool.false_ne_true h).elim
  | .ifx _ _ _, _, _, _, _, _, _, h, _, _ => (Bool.false_ne_true h).elim
  | .call _ _, _, _, _, _, _, _, h, _, _ => (Bool.false_ne_true h).elim
  | .blt _ _, _, _, _, _, _, _, h, _, _ => (Bool.false_ne_true h).elim
  | .isin _ _, _, _, _, _, _, _, h, _, _ => (Bool.false_ne_true h).elim
  | .idx _ _, _, _, _, _, _, _, h, _, _ => (Bool.false_ne_true h).elim
  | .slc _ _ _, _, _, _, _, _, _, h, _, _ => (Bool.false_ne_true h).elim
  | .rev _, _, _, _, _, _, _, h, _, _ => (Bool.false_ne_true h).elim
  | .mth _ _ _, _, _, _, _, _, _, h, _, _ => (Bool.false_ne_true h).elim
  | .attr _ _, _, _, _, _, _, _, h, _, _ => (Bool.false_ne_true h).elim
  | .umth _ _ _, _, _, _, _, _, _, h, _, _ => (Bool.false_ne_true h).elim
  | .new _ _, _, _, _, _, _, _, h, _, _ => (Bool.false_ne_true h).elim
  | .comp _ _ _ _ _, _, _, _, _, _, _, h, _, _ => (Bool.false_ne_true h).elim
  | .tru _, _, _, _, _, _, _, h, _, _ => (Bool.false_ne_true h).elim
  | .val _, _, _, _, _, _, _, h, _, _ => (Bool.false_ne_true h).elim
  | .range1 _, _, _, _, _, _, _, h, _, _ => (Bool.false_ne_true h).elim
  | .range2 _ _, _, _, _, _, _, _, h, _, _ => (Bool.false_ne_true h).elim
  | .range3 _ _ _, _, _, _, _, _, _, h, _, _ => (Bool.false_ne_true h).elim
  | .enum _, _, _, _, _, _, _, h, _, _ => (Bool.false_ne_true h).elim
  | .zip _ _, _, _, _, _, _, _, h, _, _ => (Bool.false_ne_true h).elim
  | .ditems _, _, _, _, _, _, _, h, _, _ => (Bool.false_ne_true h).elim
theorem sOr : ∀ (e : CE) {X : Cx} {sc : Scope} {fb : Str → Bool} {Wx : WX}, CG X T C N hot sc fb Wx → ∀ {l : List Expr}, mTl T N hot e sc fb l = true → l ≠ [] → ∀ pos, PW X (.BoolOp .Or l pos) (cT (wd X T) Wx (wpOr C T e))
  | .nil, X, sc, fb, Wx, G, l, h, hn, pos => by
    simp only [mTl, List.isEmpty_iff] at h
    exact absurd h hn
  | .cons e es, X, sc, fb, Wx, G, l, h, hn, pos => by
    simp only [mTl] at h; split at h
    · rename_i x xs
      simp only [Bool.and_eq_true] at h
      cases xs with
      | nil =>
        cases es with
        | nil => exact t_or1 G.mono (sT e G h.1)
        | _ => have h2 := h.2; simp [mTl] at h2
      | cons y ys => exact t_or G.mono (sT e G h.1) (sOr es G h.2 (by simp) pos)
    · cases h
  | .non, _, _, _, _, _, _, h, _, _ => (Bool.false_ne_true h).elim
  | .bl _, _, _, _, _, _, _, h, _, _ => (Bool.false_ne_true h).elim
  | .int _, _, _, _, _, _, _, h, _, _ => (Bool.false_ne_true h).elim
  | .str _, _, _, _, _, _, _, h, _, _ => (Bool.false_ne_true h).elim
  | .var _, _, _, _, _, _, _, h, _, _ => (Bool.false_ne_true h).elim
  | .glob _, _, _, _, _, _, _, h, _, _ => (Bool.false_ne_true h).elim
  | .tup _, _, _, _, _, _, _, h, _, _ => (Bool.false_ne_true h).elim
  | .lst _, _, _, _, _, _, _, h, _, _ => (Bool.false_ne_true h).elim
  | .dct0, _, _, _, _, _, _, h, _, _ => (Bool.false_ne_true h).elim
  | .bin _ _ _, _, _, _, _, _, _, h, _, _ => (Bool.false_ne_true h).elim
  | .neg _, _, _, _, _, _, _, h, _, _ => (Bool.false_ne_true h).elim
  | .not _, _, _, _, _, _, _, h, _, _ => (Bool.false_ne_true h).elim
  | .cmp _ _ _, _, _, _, _, _, _, h, _, _ => (Bool.false_ne_true h).elim
  | .chain _ _ _ _ _, _, _, _, _, _, _, h, _, _ => (Bool.false_ne_true h).elim
  | .and _, _, _, _, _, _, _, h, _, _ => (Bool.false_ne_true h).elim
  | .or _, _, _, _, _, _, _, h, _, _ => (Bool.false_ne_true h).elim
  | .ifx _ _ _, _, _, _, _, _, _, h, _, _ => (Bool.false_ne_true h).elim
  | .call _ _, _, _, _, _, _, _, h, _, _ => (Bool.false_ne_true h).elim
  | .blt _ _, _, _, _, _, _, _, h, _, _ => (Bool.false_ne_true h).elim
  | .isin _ _, _, _, _, _, _, _, h, _, _ => (Bool.false_ne_true h).elim
  | .idx _ _, _, _, _, _, _, _, h, _, _ => (Bool.false_ne_true h).elim
  | .slc _ _ _, _, _, _, _, _, _, h, _, _ => (Bool.false_ne_true h).elim
  | .rev _, _, _, _, _, _, _, h, _, _ => (Bool.false_ne_true h).elim
  | .mth _ _ _, _, _, _, _, _, _, h, _, _ => (Bool.false_ne_true h).elim
  | .attr _ _, _, _, _, _, _, _, h, _, _ => (Bool.false_ne_true h).elim
  | .umth _ _ _, _, _, _, _, _, _, h, _, _ => (Bool.false_ne_true h).elim
  | .new _ _, _, _, _, _, _, _, h, _, _ => (Bool.false_ne_true h).elim
  | .comp _ _ _ _ _, _, _, _, _, _, _, h, _, _ => (Bool.false_ne_true h).elim
  | .tru _, _, _, _, _, _, _, h, _, _ => (Bool.false_ne_true h).elim
  | .val _, _, _, _, _, _, _, h, _, _ => (Bool.false_ne_true h).elim
  | .range1 _, _, _, _, _, _, _, h, _, _ => (Bool.false_ne_true h).elim
  | .range2 _ _, _, _, _, _, _, _, h, _, _ => (Bool.false_ne_true h).elim
  | .range3 _ _ _, _, _, _, _, _, _, h, _, _ => (Bool.false_ne_true h).elim
  | .enum _, _, _, _, _, _, _, h, _, _ => (Bool.false_ne_true h).elim
  | .zip _ _, _, _, _, _, _, _, h, _, _ => (Bool.false_ne_true h).elim
  | .ditems _, _, _, _, _, _, _, h, _, _ => (Bool.false_ne_true h).elim
theorem sTs : ∀ (e : CE) {X : Cx} {sc : Scope} {fb : Str → Bool} {Wx : WX}, CG X T C N hot sc fb Wx → ∀ {l : List Expr}, mTs T N hot e sc fb l = true → PTs X l (cT (wd X T) Wx (wpTs C T e))
  | .nil, X, sc, fb, Wx, G, l, h => by
    simp only [mTs, List.isEmpty_iff] at h
    subst h
    exact ⟨fun pins s σ H Q I ⟨env, h, re, rh, q⟩ => pts_nil.run pins s σ H Q I (q H TLe.refl rh)⟩
  | .cons e es, X, sc, fb, Wx, G, l, h => by
    simp only [mTs] at h; split at h
    · have p := pts_one (sT e G h)
      exact p
    · cases h
  | .non, _, _, _, _, _, _, h => (Bool.false_ne_true h).elim
  | .bl _, _, _, _, _, _, _, h => (Bool.false_ne_true h).elim
  | .int _, _, _, _, _, _, _, h => (Bool.false_ne_true h).elim
  | .str _, _, _, _, _, _, _, h => (Bool.false_ne_true h).elim
  | .var _, _, _, _, _, _, _, h => (Bool.false_ne_true h).elim
  | .glob _, _, _, _, _, _, _, h => (Bool.false_ne_true h).elim
  | .tup _, _, _, _, _, _, _, h => (Bool.false_ne_true h).elim
  | .lst _, _, _, _, _, _, _, h => (Bool.false_ne_true h).elim
  | .dct0, _, _, _, _, _, _, h => (Bool.false_ne_true h).elim
  | .bin _ _ _, _, _, _, _, _, _, h => (Bool.false_ne_true h).elim
  | .neg _, _, _, _, _, _, _, h => (Bool.false_ne_true h).elim
  | .not _, _, _, _, _, _, _, h => (Bool.false_ne_true h).elim
  | .cmp _ _ _, _, _, _, _, _, _, h => (Bool.false_ne_true h).elim
  | .chain _ _ _ _ _, _, _, _, _, _, _, h => (Bool.false_ne_true h).elim
  | .and _, _, _, _, _, _, _, h => (Bool.false_ne_true h).elim
  | .or _, _, _, _, _, _, _, h => (Bool.false_ne_true h).elim
  | .ifx _ _ _, _, _, _, _, _, _, h => (Bool.false_ne_true h).elim
  | .call _ _, _, _, _, _, _, _, h => (Bool.false_ne_true h).elim
  | .blt _ _, _, _, _, _, _, _, h => (Bool.false_ne_true h).elim
  | .isin _ _, _, _, _, _, _, _, h => (Bool.false_ne_true h).elim
  | .idx _ _, _, _, _, _, _, _, h => (Bool.false_ne_true h).elim
  | .slc _ _ _, _, _, _, _, _, _, h => (Bool.false_ne_true h).elim
  | .rev _, _, _, _, _, _, _, h => (Bool.false_ne_true h).elim
  | .mth _ _ _, _, _, _, _, _, _, h => (Bool.false_ne_true h).elim
  | .attr _ _, _, _, _, _, _, _, h => (Bool.false_ne_true h).elim
  | .umth _ _ _, _, _, _, _, _, _, h => (Bool.false_ne_true h).elim
  | .new _ _, _, _, _, _, _, _, h => (Bool.false_ne_true h).elim
  | .comp _ _ _ _ _, _, _, _, _, _, _, h => (Bool.false_ne_true h).elim
  | .tru _, _, _, _, _, _, _, h => (Bool.false_ne_true h).elim
  | .val _, _, _, _, _, _, _, h => (Bool.false_ne_true h).elim
  | .range1 _, _, _, _, _, _, _, h => (Bool.false_ne_true h).elim
  | .range2 _ _, _, _, _, _, _, _, h => (Bool.false_ne_true h).elim
  | .range3 _ _ _, _, _, _, _, _, _, h => (Bool.false_ne_true h).elim
  | .enum _, _, _, _, _, _, _, h => (Bool.false_ne_true h).elim
  | .zip _ _, _, _, _, _, _, _, h => (Bool.false_ne_true h).elim
  | .ditems _, _, _, _, _, _, _, h => (Bool.false_ne_true h).elim
theorem sI : ∀ (e : CE) {X : Cx} {sc : Scope} {fb : Str → Bool} {Wx : WX}, CG X T C N hot sc fb Wx → ∀ {tg ex : Expr}, mI T N hot e sc fb tg ex = true → PI X tg ex (cI (wd X T) Wx (wpI C T e))
  | .range1 a, X, sc, fb, Wx, G, tg, ex, h => by
    simp only [mI] at h; split at h
    · simp only [Bool.and_eq_true, decide_eq_true_eq] at h
      obtain ⟨⟨⟨⟨rfl, h1⟩, h2⟩, h3⟩, h4⟩ := h
      exact i_range1 G.mono (gl_ok G h1) (G.free _ h2) (sE a G h4) h3
    · cases h
  | .range2 a b, X, sc, fb, Wx, G, tg, ex, h => by
    simp only [mI] at h; split at h
    · simp only [Bool.and_eq_true, decide_eq_true_eq] at h
      obtain ⟨⟨⟨⟨⟨⟨rfl, h1⟩, h2⟩, h3⟩, h4⟩, h5⟩, h6⟩ := h
      exact i_range2 G.mono (gl_ok G h1) (G.free _ h2) (sE a G h5) (sE b G h6) h3 h4
    · cases h
  | .enum a, X, sc, fb, Wx, G, tg, ex, h => by
    simp only [mI] at h; split at h
    · simp only [Bool.and_eq_true, decide_eq_true_eq] at h
      obtain ⟨⟨⟨⟨⟨h0, rfl⟩, h1⟩, h2⟩, h3⟩, h4⟩ := h
      unfold isTup at h0
      split at h0
      · exact i_enum G.mono (gl_ok G h1) (G.free _ h2) (sE a G h4) h3
      · cases h0
    · cases h
  | .zip a b, X, sc, fb, Wx, G, tg, ex, h => by
    simp only [mI] at h; split at h
    · simp only [Bool.and_eq_true, decide_eq_true_eq] at h
      obtain ⟨⟨⟨⟨⟨⟨⟨h0, rfl⟩, h1⟩, h2⟩, h3⟩, h4⟩, h5⟩, h6⟩ := h
      unfold isTup at h0
      split at h0
      · exact i_zip G.mono (gl_ok G h1) (G.free _ h2) (sE a G h5) (sE b G h6) h3 h4
      · cases h0
    · cases h
  | .val a, X, sc, fb, Wx, G, tg, ex, h => by
    simp only [mI] at h
    exact i_val G.mono (sE a G h)
  | .non, _, _, _, _, _, _, _, h => (Bool.false_ne_true h).elim
  | .bl _, _, _, _, _, _, _, _, h => (Bool.false_ne_true h).elim
  | .int _, _, _, _, _, _, _, _, h => (Bool.false_ne_true h).elim
  | .str _, _, _, _, _, _, _, _, h => (Bool.false_ne_true h).elim
  | .var _, _, _, _, _, _, _, _, h => (Bool.false_ne_true h).elim
  | .glob _, _, _, _, _, _, _, _, h => (Bool.false_ne_true h).elim
  | .nil, _, _, _, _, _, _, _, h => (Bool.false_ne_true h).elim
  | .cons _ _, _, _, _, _, _, _, _, h => (Bool.false_ne_true h).elim
  | .tup _, _, _, _, _, _, _, _, h => (Bool.false_ne_true h).elim
  | .lst _, _, _, _, _, _, _, _, h => (Bool.false_ne_true h).elim
  | .dct0, _, _, _, _, _, _, _, h => (Bool.false_ne_true h).elim
  | .bin _ _ _, _, _, _, _, _, _, _, h => (Bool.false_ne_true h).elim
  | .neg _, _, _, _, _, _, _, _, h => (Bool.false_ne_true h).elim
  | .not _, _, _, _, _, _, _, _, h => (Bool.false_ne_true h).elim
  | .cmp _ _ _, _, _, _, _, _, _, _, h => (Bool.false_ne_true h).elim
  | .chain _ _ _ _ _, _, _, _, _, _, _, _, h => (Bool.false_ne_true h).elim
  | .and _, _, _, _, _, _, _, _, h => (Bool.false_ne_true h).elim
  | .or _, _, _, _, _, _, _, _, h => (Bool.false_ne_true h).elim
  | .ifx _ _ _, _, _, _, _, _, _, _, h => (Bool.false_ne_true h).elim
  | .call _ _, _, _, _, _, _, _, _, h => (Bool.false_ne_true h).elim
  | .blt _ _, _, _, _, _, _, _, _, h => (Bool.false_ne_true h).elim
  | .isin _ _, _, _, _, _, _, _, _, h => (Bool.false_ne_true h).elim
  | .idx _ _, _, _, _, _, _, _, _, h => (Bool.false_ne_true h).elim
  | .slc _ _ _, _, _, _, _, _, _, _, h => (Bool.false_ne_true h).elim
  | .rev _, _, _, _, _, _, _, _, h => (Bool.false_ne_true h).elim
  | .mth _ _ _, _, _, _, _, _, _, _, h => (Bool.false_ne_true h).elim
  | .attr _ _, _, _, _, _, _, _, _, h => (Bool.false_ne_true h).elim
  | .umth _ _ _, _, _, _, _, _, _, _, h => (Bool.false_ne_true h).elim
  | .new _ _, _, _, _, _, _, _, _, h => (Bool.false_ne_true h).elim
  | .comp _ _ _ _ _, _, _, _, _, _, _, _, h => (Bool.false_ne_true h).elim
  | .tru _, _, _, _, _, _, _, _, h => (Bool.false_ne_true h).elim
  | .range3 _ _ _, _, _, _, _, _, _, _, h => (Bool.false_ne_true h).elim
  | .ditems _, _, _, _, _, _, _, _, h => (Bool.false_ne_true h).elim
theorem sG (own : Option (List Nat)) : ∀ (e : CE) {X : Cx} {sc : Scope} {fb : Str → Bool} {Wx : WX}, CG X T C N hot sc fb Wx → ∀ {ex : Expr}, mG T N hot own e sc fb ex = true → PG X ex (cGt (wd X T) own (wpG C T e))
  | .var i, X, sc, fb, Wx, G, ex, h => by
    simp only [mG] at h; split at h
    · simp only [Bool.and_eq_true, decide_eq_true_eq] at h
      obtain ⟨⟨h1, h2⟩, h3⟩ := h
      have l := loc_ok h2
      refine g_var (by rw [G.hN]; exact G.nd) (by rw [G.hN]; exact h1) (by rw [G.hsc]; exact l.1) (by rw [G.hsc, G.hfb]; exact l.2) fun vs e => ?_
      subst e
      simpa using h3
    · cases h
  | .tup gs, X, sc, fb, Wx, G, ex, h => by
    simp only [mG] at h; split at h
    · simp only [Bool.and_eq_true] at h
      exact g_tup G.mono (G.calm (by simpa using h.1.1)) (sGs own gs G h.2) h.1.2 (mGs_len h.2)
    · cases h
  | .idx o i, X, sc, fb, Wx, G, ex, h => by
    simp only [mG] at h; split at h
    · simp only [Bool.and_eq_true, Option.isNone_iff_eq_none] at h
      obtain ⟨⟨⟨rfl, h2⟩, h3⟩, h4⟩ := h
      exact g_idx G.mono G.hu (sE o G.quiet h3) (sE i G.quiet h4) h2
    · cases h
  | .non, _, _, _, _, _, _, h => (Bool.false_ne_true h).elim
  | .bl _, _, _, _, _, _, _, h => (Bool.false_ne_true h).elim
  | .int _, _, _, _, _, _, _, h => (Bool.false_ne_true h).elim
  | .str _, _, _, _, _, _, _, h => (Bool.false_ne_true h).elim
  | .glob _, _, _, _, _, _, _, h => (Bool.false_ne_true h).elim
  | .nil, _, _, _, _, _, _, h => (Bool.false_ne_true h).elim
  | .cons _ _, _, _, _, _, _, _, h => (Bool.false_ne_true h).elim
  | .lst _, _, _, _, _, _, _, h => (Bool.false_ne_true h).elim
  | .dct0, _, _, _, _, _, _, h => (Bool.false_ne_true h).elim
  | .bin _ _ _, _, _, _, _, _, _, h => (Bool.false_ne_true h).elim
  | .neg _, _, _, _, _, _, _, h => (Bool.false_ne_true h).elim
  | .not _, _, _, _, _, _, _, h => (Bool.false_ne_true h).elim
  | .cmp _ _ _, _, _, _, _, _, _, h => (Bool.false_ne_true h).elim
  | .chain _ _ _ _ _, _, _, _, _, _, _, h => (Bool.false_ne_true h).elim
  | .and _, _, _, _, _, _, _, h => (Bool.false_ne_true h).elim
  | .or _, _, _, _, _, _, _, h => (Bool.false_ne_true h).elim
  | .ifx _ _ _, _, _, _, _, _, _, h => (Bool.false_ne_true h).elim
  | .call _ _, _, _, _, _, _, _, h => (Bool.false_ne_true h).elim
  | .blt _ _, _, _, _, _, _, _, h => (Bool.false_ne_true h).elim
  | .isin _ _, _, _, _, _, _, _, h => (Bool.false_ne_true h).elim
  | .slc _ _ _, _, _, _, _, _, _, h => (Bool.false_ne_true h).elim
  | .rev _, _, _, _, _, _, _, h => (Bool.false_ne_true h).elim
  | .mth _ _ _, _, _, _, _, _, _, h => (Bool.false_ne_true h).elim
  | .attr _ _, _, _, _, _, _, _, h => (Bool.false_ne_true h).elim
  | .umth _ _ _, _, _, _, _, _, _, h => (Bool.false_ne_true h).elim
  | .new _ _, _, _, _, _, _, _, h => (Bool.false_ne_true h).elim
  | .comp _ _ _ _ _, _, _, _, _, _, _, h => (Bool.false_ne_true h).elim
  | .tru _, _, _, _, _, _, _, h => (Bool.false_ne_true h).elim
  | .val _, _, _, _, _, _, _, h => (Bool.false_ne_true h).elim
  | .range1 _, _, _, _, _, _, _, h => (Bool.false_ne_true h).elim
  | .range2 _ _, _, _, _, _, _, _, h => (Bool.false_ne_true h).elim
  | .range3 _ _ _, _, _, _, _, _, _, h => (Bool.false_ne_true h).elim
  | .enum _, _, _, _, _, _, _, h => (Bool.false_ne_true h).elim
  | .zip _ _, _, _, _, _, _, _, h => (Bool.false_ne_true h).elim
  | .ditems _, _, _, _, _, _, _, h => (Bool.false_ne_true h).elim
theorem sGs (own : Option (List Nat)) : ∀ (e : CE) {X : Cx} {sc : Scope} {fb : Str → Bool} {Wx : WX}, CG X T C N hot sc fb Wx → ∀ {l : List Expr}, mGs T N hot own e sc fb l = true → PGs X l (cGts (wd X T) own (wpGs C T e))
  | .nil, X, sc, fb, Wx, G, l, h => by
    simp only [mGs, List.isEmpty_iff] at h
    subst h; exact gs_nil
  | .cons e es, X, sc, fb, Wx, G, l, h => by
    simp only [mGs] at h; split at h
    · rename_i x xs
      simp only [Bool.and_eq_true] at h
      exact gs_cons G.mono (sG own e G h.1.2) (sGs own es G h.2) h.1.1
    · cases h
  | .non, _, _, _, _, _, _, h => (Bool.false_ne_true h).elim
  | .bl _, _, _, _, _, _, _, h => (Bool.false_ne_true h).elim
  | .int _, _, _, _, _, _, _, h => (Bool.false_ne_true h).elim
  | .str _, _, _, _, _, _, _, h => (Bool.false_ne_true h).elim
  | .var _, _, _, _, _, _, _, h => (Bool.false_ne_true h).elim
  | .glob _, _, _, _, _, _, _, h => (Bool.false_ne_true h).elim
  | .tup _, _, _, _, _, _, _, h => (Bool.false_ne_true h).elim
  | .lst _, _, _, _, _, _, _, h => (Bool.false_ne_true h).elim
  | .dct0, _, _, _, _, _, _, h => (Bool.false_ne_true h).elim
  | .bin _ _ _, _, _, _, _, _, _, h => (Bool.false_ne_true h).elim
  | .neg _, _, _, _, _, _, _, h => (Bool.false_ne_true h).elim
  | .not _, _, _, _, _, _, _, h => (Bool.false_ne_true h).elim
  | .cmp _ _ _, _, _, _, _, _, _, h => (Bool.false_ne_true h).elim
  | .chain _ _ _ _ _, _, _, _, _, _, _, h => (Bool.false_ne_true h).elim
  | .and _, _, _, _, _, _, _, h => (Bool.false_ne_true h).elim
  | .or _, _, _, _, _, _, _, h => (Bool.false_ne_true h).elim
  | .ifx _ _ _, _, _, _, _, _, _, h => (Bool.false_ne_true h).elim
  | .call _ _, _, _, _, _, _, _, h => (Bool.false_ne_true h).elim
  | .blt _ _, _, _, _, _, _, _, h => (Bool.false_ne_true h).elim
  | .isin _ _, _, _, _, _, _, _, h => (Bool.false_ne_true h).elim
  | .idx _ _, _, _, _, _, _, _, h => (Bool.false_ne_true h).elim
  | .slc _ _ _, _, _, _, _, _, _, h => (Bool.false_ne_true h).elim
  | .rev _, _, _, _, _, _, _, h => (Bool.false_ne_true h).elim
  | .mth _ _ _, _, _, _, _, _, _, h => (Bool.false_ne_true h).elim
  | .attr _ _, _, _, _, _, _, _, h => (Bool.false_ne_true h).elim
  | .umth _ _ _, _, _, _, _, _, _, h => (Bool.false_ne_true h).elim
  | .new _ _, _, _, _, _, _, _, h => (Bool.false_ne_true h).elim
  | .comp _ _ _ _ _, _, _, _, _, _, _, h => (Bool.false_ne_true h).elim
  | .tru _, _, _, _, _, _, _, h => (Bool.false_ne_true h).elim
  | .val _, _, _, _, _, _, _, h => (Bool.false_ne_true h).elim
  | .range1 _, _, _, _, _, _, _, h => (Bool.false_ne_true h).elim
  | .range2 _ _, _, _, _, _, _, _, h => (Bool.false_ne_true h).elim
  | .range3 _ _ _, _, _, _, _, _, _, h => (Bool.false_ne_true h).elim
  | .enum _, _, _, _, _, _, _, h => (Bool.false_ne_true h).elim
  | .zip _ _, _, _, _, _, _, _, h => (Bool.false_ne_true h).elim
  | .ditems _, _, _, _, _, _, _, h => (Bool.false_ne_true h).elim
end
end
end PL

namespace PL
open PySem PySem.Spec PyProof.Rows L2

def lcB (sc : Scope) (x : Str) : Bool := match sc.names.lookup x with | some .local => true | _ => false
theorem lc_ok' {sc : Scope} {x : Str} (h : lcB sc x = true) : sc.names.lookup x = some .local := by
  unfold lcB at h
  split at h
  · assumption
  · cases h
def notName : Expr → Bool | .Name .. => false | _ => true
def swL (sc : Scope) : Expr → Expr → Bool
  | .Name y py, .ListComp _ _ scope pos => !(lcB sc y) || !(py.line == pos.line) || (scope.names.any fun (n, k) => n == y && (k == .local || k == .cell))
  | _, _ => false
def swB (sc : Scope) (tg ev : Expr) : Bool := nolc ev || notName tg || swL sc tg ev
def swpF (sc : Scope) (tg ev : Expr) : Option (Option (List Str)) :=
  match tg, ev with
  | .Tuple ts _ _, .Tuple vs _ _ =>
    if (!(ts.length == 2 || ts.length == 3) || vs.length != ts.length) = true then some none
    else if (vs.any fun | .Starred .. => true | _ => false) = true then some none
    else if ((ts.filterMap fun | .Name id pos => if sc.names.lookup id == some .local && pos.line == (ts.head?.map (·.pos.line)).getD 0 then some id else none | _ => none).length != ts.length ||
        (ts.filterMap fun | .Name id pos => if sc.names.lookup id == some .local && pos.line == (ts.head?.map (·.pos.line)).getD 0 then some id else none | _ => none).eraseDups.length !=
        (ts.filterMap fun | .Name id pos => if sc.names.lookup id == some .local && pos.line == (ts.head?.map (·.pos.line)).getD 0 then some id else none | _ => none).length) = true then some none
    else if (vs.all (foldedForSure 8)) = true then some none
    else if (vs.all (constantsAlone 8)) = true then none
    else some (some (ts.filterMap fun | .Name id pos => if sc.names.lookup id == some .local && pos.line == (ts.head?.map (·.pos.line)).getD 0 then some id else none | _ => none))
  | .List .., .Tuple .. => none
  | _, _ => some none
theorem swp_ok {sc : Scope} {tg ev : Expr} {env : Env} {r : Option (List Str)} (hs : env.scope = sc) (hk : sc.kind = .function) (h : swpF sc tg ev = some r) : swappedStores [tg] ev env = pure r := by
  have hb : env.blockKind = .function := by unfold Env.blockKind; rw [hs, hk]; rfl
  unfold swpF at h
  split at h
  · rename_i ts k1 p1 vs k2 p2
    unfold swappedStores
    have kd : ∀ id, env.kindOf id = sc.names.lookup id := fun id => by rw [← hs]; rfl
    simp only [kd, hb]
    split at h
    · rename_i e; cases h
      rw [if_pos (by simp only [Bool.or_eq_true] at e ⊢; exact .inl e)]
    · rename_i e
      rw [if_neg (by simp only [Bool.or_eq_true] at e ⊢; rintro (z | z); exact e z; exact absurd z (by decide))]
      split at h
      · rename_i e2; cases h
        exact Eq.trans (if_pos (by exact e2)) rfl
      · rename_i e2
        refine Eq.trans (if_neg (by exact e2)) ?_
        split at h
        · rename_i e3; cases h
          exact Eq.trans (if_pos (by exact e3)) rfl
        · rename_i e3
          refine Eq.trans (if_neg (by exact e3)) ?_
          split at h
          · rename_i e4; cases h
            exact Eq.trans (if_pos (by exact e4)) rfl
          · rename_i e4
            refine Eq.trans (if_neg (by exact e4)) ?_
            split at h
            · cases h
            · rename_i e5; cases h
              refine Eq.trans (if_neg (by exact e5)) ?_
              rfl
  · cases h
  · rename_i n1 n2
    cases h
    unfold swappedStores
    split
    · rename_i z
      split at z
      · rename_i e1; cases e1; exact (n1 _ _ _ _ _ _ rfl rfl).elim
      · rename_i e1; cases e1; exact (n2 _ _ _ _ _ rfl rfl).elim
      · cases z
    · rfl
theorem lc_not {sc : Scope} {x : Str} (h : lcB sc x = false) : (sc.names.lookup x == some .local) = false := by
  unfold lcB at h
  split at h
  · cases h
  · rename_i n
    cases e : sc.names.lookup x with
    | none => rfl
    | some k => cases k <;> first | rfl | exact absurd e n
theorem sw_plain {sc : Scope} {tg ev : Expr} {l : Nat} {env : Env} (hs : env.scope = sc) (h : swB sc tg ev = true) : swapsWithSole [tg] ev l env = pure false := by
  unfold swB at h
  rw [Bool.or_eq_true, Bool.or_eq_true] at h
  show swapsWith ev (some tg) l env = pure false
  rcases h with (h | h) | h
  · cases ev <;> first | rfl | cases h
  · cases ev <;> first | rfl | (cases tg <;> first | rfl | cases h)
  · unfold swL at h
    split at h
    · rename_i y py e gs scope pos
      have ky : env.kindOf y = sc.names.lookup y := by rw [← hs]; rfl
      unfold swapsWith
      simp only [ky, Expr.pos]
      simp only [Bool.or_eq_true, Bool.not_eq_true'] at h
      rcases h with (h | h) | h
      · simp [lc_not h]
      · simp [h]
      · rw [h]; simp
    · cases h
theorem swe_plain {ev : Expr} {l : Nat} {env : Env} (h : nolc ev = true) : swapsWith ev none l env = pure false := by
  cases ev <;> first | rfl | cases h

mutual
def mS (T : Tb) (N : List Str) (hot : Bool) : CS → Scope → (Str → Bool) → Stmt → Bool
  | .asg g e, sc, fb, s => match s with | .Assign [tg] ev _ => nost tg && swB sc tg ev && decide (swpF sc tg ev = some none) && mE T N hot e sc fb ev && mG T N hot none g sc fb tg | _ => false
  | .slc i e, sc, fb, s => match s with
    | .Assign [.Name y py] (.ListComp elt [⟨tg, itr, cs, 0⟩] scope pos) _ => decide (N[i]? = some y) && lcB sc y && (py.line == pos.line) && !(scope.names.any fun (n, k) => n == y && (k == .local || k == .cell)) && mE T N hot e sc fb (.ListComp elt [⟨tg, itr, cs, 0⟩] scope pos)
    | _ => false
  | .par i j a b, sc, fb, s => match s with
    | .Assign [.Tuple [.Name x px, .Name y py] kt pt] (.Tuple [ea, eb] k2 pt2) _ => !hot && decide (N[i]? = some x) && decide (N[j]? = some y) && decide (i ≠ j) && lcB sc x && lcB sc y && nost ea && nost eb && decide (swpF sc (.Tuple [.Name x px, .Name y py] kt pt) (.Tuple [ea, eb] k2 pt2) = some (some [x, y])) && mE T N hot a sc fb ea && mE T N hot b sc fb eb
    | _ => false
  | .par3 i j k a b c, sc, fb, s => match s with
    | .Assign [.Tuple [.Name x px, .Name y py, .Name z pz] kt pt] (.Tuple [ea, eb, ec] k2 pt2) _ => !hot && decide (N[i]? = some x) && decide (N[j]? = some y) && decide (N[k]? = some z) && decide (i ≠ j) && decide (i ≠ k) && decide (j ≠ k) && lcB sc x && lcB sc y && lcB sc z && nost ea && nost eb && nost ec && decide (swpF sc (.Tuple [.Name x px, .Name y py, .Name z pz] kt pt) (.Tuple [ea, eb, ec] k2 pt2) = some (some [x, y, z])) && mE T N hot a sc fb ea && mE T N hot b sc fb eb && mE T N hot c sc fb ec
    | _ => false
  | .aug i op e, sc, fb, s => match s with | .AugAssign (.Name x _) o ev _ => decide (o = bopPy op) && (decide (op = .add) || decide (op = .sub)) && decide (N[i]? = some x) && locB sc fb x && mE T N hot e sc fb ev | _ => false
  | .expr e, sc, fb, s => match s with | .Expr ev _ => nolc ev && mE T N hot e sc fb ev | _ => false
  | .ret e, sc, fb, s => match s with | .Return (some ev) _ => mE T N hot e sc fb ev | _ => false
  | .retN, _, _, s => match s with | .Return none _ => true | _ => false
  | .iff c t f, sc, fb, s => match s with | .If ec st sf _ => mT T N hot c sc fb ec && mB T N hot t sc fb st && mB T N hot f sc fb sf | _ => false
  | .whl c b, sc, fb, s => match s with | .While ec sb [] _ => !hot && mT T N hot c sc fb ec && mB T N hot b sc fb sb | _ => false
  | .forr g it b, sc, fb, s => match s with | .For tg ei sb [] _ => !hot && noset ei && mI T N hot it sc fb tg ei && mG T N hot none g sc fb tg && mB T N hot b sc fb sb | _ => false
  | .raise c es, sc, _, s => match s with | .Raise (some (.Call (.Name x _) [] [] _)) none _ => !hot && decide (T.cn c = some x) && glB sc x && nmOk x && (match es with | .nil => true | _ => false) | _ => false
  | .tri b hs, sc, fb, s => match s with | .Try sb (h₀ :: hds) [] [] _ => !hot && mB T N hot b sc fb sb && mH T N hs sc fb (h₀ :: hds) | _ => false
  | .pass, _, _, s => match s with | .Pass _ => true | _ => false
  | .brk, _, _, s => match s with | .Break _ => true | _ => false
  | .cont, _, _, s => match s with | .Continue _ => true | _ => false
  | _, _, _, _ => false
def mB (T : Tb) (N : List Str) (hot : Bool) : CS → Scope → (Str → Bool) → List Stmt → Bool
  | .nil, _, _, l => l.isEmpty
  | .cons s r, sc, fb, l => match l with | x :: xs => mS T N hot s sc fb x && mB T N hot r sc fb xs | [] => false
  | _, _, _, _ => false
def mH (T : Tb) (N : List Str) : CS → Scope → (Str → Bool) → List ExceptHandler → Bool
  | .hnil, _, _, l => l.isEmpty
  | .hcons c b r, sc, fb, l => match l with | .ExceptHandler (some (.Name x _)) none (b₀ :: suite) _ :: hds => decide (T.cn c = some x) && glB sc x && nmOk x && mB T N true b sc fb (b₀ :: suite) && mH T N r sc fb hds | _ => false
  | _, _, _, _ => false
end

structure SG (X : Cx) (T : Tb) (C : ACall) (N : List Str) (sub : Nat → Nat → Bool) (hot : Bool) (sc : Scope) (fb : Str → Bool) (Wx : WX) : Prop extends CG X T C N hot sc fb Wx where
  stk : X.stack = X.env :: X.outer
  fr : X.env.frame = some X.env.locals
  kind : sc.kind = .function
  own : hot = false → PassesOwn (model X.prog X.w) X.A X.env X.xe
  exc : ∀ c x, T.cn c = some x → ExcF X T c x
  sub : ∀ c d x y, T.cn c = some x → T.cn d = some y → PySem.W.exmOne X.K (.ref (clsAddr (wd X T) c)) (.ref (clsAddr (wd X T) d)) = some (sub c d)
section
variable {T : Tb} {C : ACall} {N : List Str} {sub : Nat → Nat → Bool}
theorem SG.tr {X : Cx} {sc : Scope} {fb : Str → Bool} {Wx : WX} {hot : Bool} (G : SG X T C N sub hot sc fb Wx) {W' : WX} {pn : List (Addr × Obj)} {xe : Value → Shared → Prop} (tk : Takes (X.tr pn xe) W') (p : PassesOwn (model X.prog X.w) X.A X.env xe) : SG (X.tr pn xe) T C N sub hot sc fb W' :=
  { mono := G.mono, hN := G.hN, nd := G.nd, hsc := G.hsc, hfb := G.hfb, hu := G.hu, calm := G.calm, fns := G.fns, gvs := G.gvs, free := G.free, tk := tk, stk := G.stk, fr := G.fr, kind := G.kind, own := fun _ => p,
    exc := fun c x h => let e := G.exc c x h; ⟨e.mg, e.ex, e.kp, e.su, e.ty⟩, sub := G.sub }
theorem SG.suite {X : Cx} {sc : Scope} {fb : Str → Bool} {Wx : WX} {hot : Bool} (G : SG X T C N sub hot sc fb Wx) (a : Addr) (pn : List (Addr × Obj)) : SG (X.suite a pn) T C N sub true sc fb (fun _ _ _ _ => False) :=
  { mono := G.mono, hN := G.hN, nd := G.nd, hsc := G.hsc, hfb := G.hfb, hu := G.hu, calm := fun h => (nomatch h), fns := fun h => (nomatch h), gvs := G.gvs, free := G.free, tk := takes0, stk := G.stk, fr := G.fr, kind := G.kind, own := fun h => (nomatch h),
    exc := fun c x h => let e := G.exc c x h; ⟨e.mg, e.ex, e.kp, e.su, e.ty⟩, sub := G.sub }
theorem mH_hok {sc : Scope} {fb : Str → Bool} : ∀ {hs : CS} {l : List ExceptHandler}, mH T N hs sc fb l = true → hOk T hs = true := by
  intro hs
  induction hs with
  | hnil => intros; rfl
  | hcons c b r _ ih =>
    intro l h
    simp only [mH] at h
    split at h
    · simp only [Bool.and_eq_true, decide_eq_true_eq] at h
      obtain ⟨⟨⟨⟨h1, h2⟩, h3⟩, h4⟩, h5⟩ := h
      show ((T.cn c).isSome && hOk T r) = true
      rw [h1, ih h5]; rfl
    · cases h
  | _ => intro l h; exact (Bool.false_ne_true h).elim

mutual
theorem sS : ∀ (e : CS) {X : Cx} {sc : Scope} {fb : Str → Bool} {Wx : WX} {hot : Bool}, SG X T C N sub hot sc fb Wx → ∀ {s : Stmt}, mS T N hot e sc fb s = true → PS X s (cS (wd X T) Wx (wpS C T sub e))
  | .asg g e, X, sc, fb, Wx, hot, G, s, h => by
    simp only [mS] at h; split at h
    · simp only [Bool.and_eq_true, decide_eq_true_eq] at h
      obtain ⟨⟨⟨⟨h1, h2⟩, h3⟩, h4⟩, h5⟩ := h
      exact st_asg (line := 0) G.mono (sE e G.toCG h4) (sG none g G.toCG h5) (sw_plain G.hsc h2) (swp_ok G.hsc G.kind h3) h1
    · cases h
  | .slc i e, X, sc, fb, Wx, hot, G, s, h => by
    simp only [mS] at h; split at h
    · simp only [Bool.and_eq_true, decide_eq_true_eq] at h
      rename_i y _ _ _ _ _ _ _ _
      obtain ⟨⟨⟨⟨h1, h2⟩, h3⟩, h4⟩, h5⟩ := h
      cases e with
      | comp own g it ifs elt =>
        simp only [mE, Bool.and_eq_true] at h5
        obtain ⟨⟨⟨⟨⟨⟨h0, g1⟩, g2⟩, g3⟩, g4⟩, g5⟩, g6⟩ := h5
        have hb := blkOk_by g1
        have ho : (ownPairs N own).map (·.2) = own := by unfold ownPairs; rw [List.map_map]; exact List.map_id' own
        have hl : X.env.scope.names.lookup y = some .local := by rw [G.hsc]; exact lc_ok' h2
        refine (ps_setLc (wi := cI (wd X T) Wx (wpI C T it)) (g := cGt (wd X T) (some own) (wpG C T g)) (tt := cT (wd X T) (fun _ _ _ _ => False) (wpTs C T ifs)) (te := cE (wd X T) (fun _ _ _ _ => False) (wpE C T elt)) (G.calm (by simpa using h0)) (by rw [G.hN]; exact G.nd) (by rw [G.hN]; exact h1) hl (sw_true (by rw [G.hsc]; exact G.kind) hl h3 (by simpa using h4)) (sI it G.toCG g2) (by rw [G.hN, G.hsc]; exact hb)
          (fun s H C' cl fp => sG (some own) g (G.toCG.blk s H _ C' cl fp) g4) (fun s H C' cl fp => sTs ifs (G.toCG.blk s H _ C' cl fp) g5) (fun s H C' cl fp => sE elt (G.toCG.blk s H _ C' cl fp) g6) (noset_fold g3)).imp
          fun D σ H ⟨env, hh, re, rh, q⟩ => ?_
        rw [ho]
        have q2 : wpE C T (.comp own g it ifs elt) env hh (cQ (wd X T) H fun v H1 => gName i v σ H1 D.nx) (cX (wd X T) Wx σ H) := by
          have q : wpE C T (.comp own g it ifs elt) env hh (fun v h1 => (absD (wd X T) Wx H D).nx (env.set i (some v)) h1) (fun x h' => (absD (wd X T) Wx H D).ex x env h') := q
          refine wpE_mono G.mono _ (fun x h1 q v H1 t1 r1 rv => ?_) (absD.xle re) q
          exact q _ _ t1 ((re.mono t1).set i rv) r1
        exact lc_ok G.mono re rh q2
      | _ => exact (Bool.false_ne_true h5).elim
    · cases h
  | .par i j a b, X, sc, fb, Wx, hot, G, s, h => by
    simp only [mS] at h; split at h
    · simp only [Bool.and_eq_true, decide_eq_true_eq] at h
      obtain ⟨⟨⟨⟨⟨⟨⟨⟨⟨⟨h0, h1⟩, h2⟩, h3⟩, h4⟩, h5⟩, h6⟩, h7⟩, h8⟩, h9⟩, h10⟩ := h
      exact st_par G.mono (G.calm (by simpa using h0)) (by rw [G.hN]; exact G.nd) (by rw [G.hN]; exact h1) (by rw [G.hN]; exact h2) h3 (by rw [G.hsc]; exact lc_ok' h4) (by rw [G.hsc]; exact lc_ok' h5) (sE a G.toCG h9) (sE b G.toCG h10) h6 h7 (swp_ok G.hsc G.kind h8)
    · cases h
  | .par3 i j k a b c, X, sc, fb, Wx, hot, G, s, h => by
    simp only [mS] at h; split at h
    · simp only [Bool.and_eq_true, decide_eq_true_eq] at h
      obtain ⟨⟨⟨⟨⟨⟨⟨⟨⟨⟨⟨⟨⟨⟨⟨⟨h0, h1⟩, h2⟩, h3⟩, h4⟩, h5⟩, h6⟩, h7⟩, h8⟩, h9⟩, h10⟩, h11⟩, h12⟩, h13⟩, h14⟩, h15⟩, h16⟩ := h
      exact st_par3 G.mono (G.calm (by simpa using h0)) (by rw [G.hN]; exact G.nd) (by rw [G.hN]; exact h1) (by rw [G.hN]; exact h2) (by rw [G.hN]; exact h3) h4 h5 h6 (by rw [G.hsc]; exact lc_ok' h7) (by rw [G.hsc]; exact lc_ok' h8) (by rw [G.hsc]; exact lc_ok' h9)
        (sE a G.toCG h14) (sE b G.toCG h15) (sE c G.toCG h16) h10 h11 h12 (swp_ok G.hsc G.kind h13)
    · cases h
  | .aug i op e, X, sc, fb, Wx, hot, G, s, h => by
    simp only [mS] at h; split at h
    · simp only [Bool.and_eq_true, Bool.or_eq_true, decide_eq_true_eq] at h
      obtain ⟨⟨⟨⟨rfl, h2⟩, h3⟩, h4⟩, h5⟩ := h
      have l := loc_ok h4
      exact st_aug G.mono h2 (by rw [G.hN]; exact G.nd) (by rw [G.hN]; exact h3) (by rw [G.hsc]; exact l.1) (by rw [G.hsc, G.hfb]; exact l.2) (sE e G.toCG h5)
    · cases h
  | .expr e, X, sc, fb, Wx, hot, G, s, h => by
    simp only [mS] at h; split at h
    · simp only [Bool.and_eq_true] at h
      exact st_expr G.mono (sE e G.toCG h.2) (swe_plain h.1)
    · cases h
  | .ret e, X, sc, fb, Wx, hot, G, s, h => by
    simp only [mS] at h; split at h
    · exact st_ret G.mono (sE e G.toCG h)
    · cases h
  | .retN, X, sc, fb, Wx, hot, G, s, h => by
    simp only [mS] at h; split at h
    · exact st_retN
    · cases h
  | .iff c t f, X, sc, fb, Wx, hot, G, s, h => by
    simp only [mS] at h; split at h
    · simp only [Bool.and_eq_true] at h
      exact st_if G.mono (sT c G.toCG h.1.1) (sB t G h.1.2) (sB f G h.2)
    · cases h
  | .whl c b, X, sc, fb, Wx, hot, G, s, h => by
    simp only [mS] at h; split at h
    · simp only [Bool.and_eq_true] at h
      exact st_whl G.mono (G.own (by simpa using h.1.1)) (sT c G.toCG h.1.2) (sB b G h.2)
    · cases h
  | .forr g it b, X, sc, fb, Wx, hot, G, s, h => by
    simp only [mS] at h; split at h
    · simp only [Bool.and_eq_true] at h
      obtain ⟨⟨⟨⟨h1, h2⟩, h3⟩, h4⟩, h5⟩ := h
      exact st_for G.mono (G.own (by simpa using h1)) (G.calm (by simpa using h1)) (sI it G.toCG h3) (sG none g G.toCG h4) (sB b G h5) (noset_fold h2)
    · cases h
  | .raise c es, X, sc, fb, Wx, hot, G, s, h => by
    simp only [mS] at h; split at h
    · simp only [Bool.and_eq_true, decide_eq_true_eq] at h
      obtain ⟨⟨⟨⟨h1, h2⟩, h3⟩, h4⟩, h5⟩ := h
      cases es with
      | nil => exact st_raise0 (G.calm (by simpa using h1)) G.tk (G.exc _ _ h2) h2 (gl_ok G.toCG h3) (nm_ok h4).1
      | _ => exact (Bool.false_ne_true h5).elim
    · cases h
  | .tri b hs, X, sc, fb, Wx, hot, G, s, h => by
    simp only [mS] at h; split at h
    · simp only [Bool.and_eq_true] at h
      exact st_tri G.mono G.stk G.fr G.tk G.sub (mH_hok h.2) (fun W' pn xe tk p => sB b (G.tr tk p) h.1.2) (sH hs G h.2)
    · cases h
  | .pass, X, sc, fb, Wx, hot, G, s, h => by
    simp only [mS] at h; split at h
    · exact st_pass
    · cases h
  | .brk, X, sc, fb, Wx, hot, G, s, h => by
    simp only [mS] at h; split at h
    · exact st_brk
    · cases h
  | .cont, X, sc, fb, Wx, hot, G, s, h => by
    simp only [mS] at h; split at h
    · exact st_cont
    · cases h
  | .nil, _, _, _, _, _, _, _, h => (Bool.false_ne_true h).elim
  | .cons _ _, _, _, _, _, _, _, _, h => (Bool.false_ne_true h).elim
  | .hnil, _, _, _, _, _, _, _, h => (Bool.false_ne_true h).elim
  | .hcons _ _ _, _, _, _, _, _, _, _, h => (Bool.false_ne_true h).elim
theorem sB : ∀ (e : CS) {X : Cx} {sc : Scope} {fb : Str → Bool} {Wx : WX} {hot : Bool}, SG X T C N sub hot sc fb Wx → ∀ {l : List Stmt}, mB T N hot e sc fb l = true → PSs X l (cS (wd X T) Wx (wpB C T sub e))
  | .nil, X, sc, fb, Wx, hot, G, l, h => by
    simp only [mB, List.isEmpty_iff] at h
    subst h; exact b_nil
  | .cons s r, X, sc, fb, Wx, hot, G, l, h => by
    simp only [mB] at h; split at h
    · simp only [Bool.and_eq_true] at h
      exact b_cons G.mono (sS s G h.1) (sB r G h.2)
    · cases h
  | .asg _ _, _, _, _, _, _, _, _, h => (Bool.false_ne_true h).elim
  | .slc _ _, _, _, _, _, _, _, _, h => (Bool.false_ne_true h).elim
  | .par _ _ _ _, _, _, _, _, _, _, _, h => (Bool.false_ne_true h).elim
  | .par3 _ _ _ _ _ _, _, _, _, _, _, _, _, h => (Bool.false_ne_true h).elim
  | .aug _ _ _, _, _, _, _, _, _, _, h => (Bool.false_ne_true h).elim
  | .expr _, _, _, _, _, _, _, _, h => (Bool.false_ne_true h).elim
  | .ret _, _, _, _, _, _, _, _, h => (Bool.false_ne_true h).elim
  | .retN, _, _, _, _, _, _, _, h => (Bool.false_ne_true h).elim
  | .iff _ _ _, _, _, _, _, _, _, _, h => (Bool.false_ne_true h).elim
  | .whl _ _, _, _, _, _, _, _, _, h => (Bool.false_ne_true h).elim
  | .forr _ _ _, _, _, _, _, _, _, _, h => (Bool.false_ne_true h).elim
  | .raise _ _, _, _, _, _, _, _, _, h => (Bool.false_ne_true h).elim
  | .tri _ _, _, _, _, _, _, _, _, h => (Bool.false_ne_true h).elim
  | .hnil, _, _, _, _, _, _, _, h => (Bool.false_ne_true h).elim
  | .hcons _ _ _, _, _, _, _, _, _, _, h => (Bool.false_ne_true h).elim
  | .pass, _, _, _, _, _, _, _, h => (Bool.false_ne_true h).elim
  | .brk, _, _, _, _, _, _, _, h => (Bool.false_ne_true h).elim
  | .cont, _, _, _, _, _, _, _, h => (Bool.false_ne_true h).elim
theorem sH : ∀ (e : CS) {X : Cx} {sc : Scope} {fb : Str → Bool} {Wx : WX} {hot : Bool}, SG X T C N sub hot sc fb Wx → ∀ {l : List ExceptHandler}, mH T N e sc fb l = true → HdsOk X l (hLst X T C sub e)
  | .hnil, X, sc, fb, Wx, hot, G, l, h => by
    simp only [mH, List.isEmpty_iff] at h
    subst h; exact .nil
  | .hcons c b r, X, sc, fb, Wx, hot, G, l, h => by
    simp only [mH] at h; split at h
    · simp only [Bool.and_eq_true, decide_eq_true_eq] at h
      obtain ⟨⟨⟨⟨h1, h2⟩, h3⟩, h4⟩, h5⟩ := h
      exact .cons ⟨gl_ok G.toCG h2, (nm_ok h3).1, .inl (G.exc _ _ h1).mg⟩ (fun a oe cls d pn _ _ => sB b (G.suite a _) h4) (sH r G h5)
    · cases h
  | .asg _ _, _, _, _, _, _, _, _, h => (Bool.false_ne_true h).elim
  | .slc _ _, _, _, _, _, _, _, _, h => (Bool.false_ne_true h).elim
  | .par _ _ _ _, _, _, _, _, _, _, _, h => (Bool.false_ne_true h).elim
  | .par3 _ _ _ _ _ _, _, _, _, _, _, _, _, h => (Bool.false_ne_true h).elim
  | .aug _ _ _, _, _, _, _, _, _, _, h => (Bool.false_ne_true h).elim
  | .expr _, _, _, _, _, _, _, _, h => (Bool.false_ne_true h).elim
  | .ret _, _, _, _, _, _, _, _, h => (Bool.false_ne_true h).elim
  | .retN, _, _, _, _, _, _, _, h => (Bool.false_ne_true h).elim
  | .iff _ _ _, _, _, _, _, _, _, _, h => (Bool.false_ne_true h).elim
  | .whl _ _, _, _, _, _, _, _, _, h => (Bool.false_ne_true h).elim
  | .forr _ _ _, _, _, _, _, _, _, _, h => (Bool.false_ne_true h).elim
  | .raise _ _, _, _, _, _, _, _, _, h => (Bool.false_ne_true h).elim
  | .tri _ _, _, _, _, _, _, _, _, h => (Bool.false_ne_true h).elim
  | .pass, _, _, _, _, _, _, _, h => (Bool.false_ne_true h).elim
  | .brk, _, _, _, _, _, _, _, h => (Bool.false_ne_true h).elim
  | .cont, _, _, _, _, _, _, _, h => (Bool.false_ne_true h).elim
  | .nil, _, _, _, _, _, _, _, h => (Bool.false_ne_true h).elim
  | .cons _ _, _, _, _, _, _, _, _, h => (Bool.false_ne_true h).elim
end
end
end PL

namespace PL
open PySem PySem.Spec PyProof.Rows L2

structure FDat where
  id : Nat
  x : Str
  N : List Str
  ps : List Str
  params : Arguments
  body : List Stmt
  scope : Scope
  code : CS
def FDat.dd (d : FDat) : He.DefD := ⟨(d.x, none), d.x, d.x, d.params, d.body, d.scope, [], []⟩
structure Law where
  F : List FDat
  X : List (Nat × Str)
  free : List Str
  G : List (Nat × Str × AV)
  sub : Nat → Nat → Bool
def Law.T (L : Law) : Tb where
  nm f := (L.F.find? (·.id == f)).map (·.x)
  mt _ := none
  cn c := L.X.lookup c
  fl _ := none
  gn g := (L.G.lookup g).map (·.1)
  gv g := (L.G.lookup g).map (·.2)
  free := L.free
def Law.pg (L : Law) : Pg where
  T := L.T
  code f := (L.F.find? (·.id == f)).map fun d => ⟨d.ps.length, d.N.length, d.code⟩
  sub := L.sub
def FDat.chk (T : Tb) (d : FDat) : Bool :=
  (match d.scope.kind with | .function => true | _ => false) && !d.scope.isCoroutine && !d.scope.isGenerator && decide d.N.Nodup && decide (d.N.take d.ps.length = d.ps) && d.ps.all (fun x => match d.scope.names.lookup x with | some .local => true | some .cell => true | _ => false) &&
    d.scope.names.all (fun y => match y.2 with | .free => false | _ => true) && mB T d.N false d.code d.scope (fun _ => true) d.body
theorem FDat.sc_ok {T : Tb} {d : FDat} (h : d.chk T = true) : FnScope d.N d.ps d.scope ∧ mB T d.N false d.code d.scope (fun _ => true) d.body = true := by
  unfold FDat.chk at h
  simp only [Bool.and_eq_true, decide_eq_true_eq, List.all_eq_true] at h
  obtain ⟨⟨⟨⟨⟨⟨⟨h1, h2⟩, h3⟩, h4⟩, h5⟩, h6⟩, h7⟩, h8⟩ := h
  refine ⟨⟨?_, by simpa using h2, by simpa using h3, h4, h5, fun x hx => ?_, fun y hy e => ?_⟩, h8⟩
  · split at h1
    · assumption
    · cases h1
  · have q := h6 x hx
    split at q <;> first | exact .inl (by assumption) | exact .inr (by assumption) | cases q
  · have q := h7 y hy
    rw [e] at q
    cases q

structure ExcW (W : Wd) (c : Nat) (x : Str) : Prop where
  mg : W.mg x = some (.ref (clsAddr W c))
  ex : PySem.W.excIn W.K (clsAddr W c) He.veBase "ValueError.__new__" = true
  kp : PySem.W.keepIn W.K (.ref (clsAddr W c)) = true
  su : PySem.W.subIn W.K (.ref (clsAddr W c)) (.type "BaseException") = some true
  ty : PySem.W.typeIn W.K (.ref (clsAddr W c)) = some (.type "type")
structure FunW (W : Wd) (d : FDat) (f : Addr) (fd : FuncData) : Prop where
  fn : FunD W.K d.x d.x d.params d.body d.scope [] [] f fd
  mg : W.mg d.x = some (.ref f)
  bd : Binds W.K fd d.ps []
structure Facts (W : Wd) (L : Law) (ad : FDat → Addr) (fd : FDat → FuncData) : Prop where
  T : W.T = L.T
  fn : ∀ d ∈ L.F, FunW W d (ad d) (fd d)
  exc : ∀ c x, L.T.cn c = some x → ExcW W c x
  sub : ∀ c d x y, L.T.cn c = some x → L.T.cn d = some y → PySem.W.exmOne W.K (.ref (clsAddr W c)) (.ref (clsAddr W d)) = some (L.sub c d)
  gvs : ∀ g x, L.T.gn g = some x → ∃ v u, W.mg x = some u ∧ RelV v u ∧ ∀ av, L.T.gv g = some av → ∀ H, Rep W.K H av v
  free : ∀ x, L.T.free.contains x = true → W.mg x = none
  nd : (L.F.map (·.id)).Nodup
  chk : ∀ d ∈ L.F, d.chk L.T = true
theorem find_self {F : List FDat} (nd : (F.map (·.id)).Nodup) {d : FDat} (h : d ∈ F) : F.find? (·.id == d.id) = some d := by
  induction F with
  | nil => cases h
  | cons e F ih =>
    rw [List.map_cons, List.nodup_cons] at nd
    rcases List.mem_cons.mp h with rfl | h
    · simp
    · have ne : (e.id == d.id) = false := by
        have : e.id ≠ d.id := fun z => nd.1 (by rw [z]; exact List.mem_map.mpr ⟨d, h, rfl⟩)
        simpa using this
      rw [List.find?_cons, ne]
      exact ih nd.2 h
theorem start_env {K : PySem.W.Frag} {H : Hp} {avs : List AV} {vs : List V} {N : List Str} (r : Reps K H avs vs) : REnv K H (astart N.length avs) (L2.start N vs) := by
  have hl := r.length
  refine ⟨by unfold astart L2.start; simp [hl], fun i av e => ?_⟩
  unfold astart at e
  unfold L2.start
  by_cases hi : i < avs.length
  · rw [List.getElem?_append_left (by simpa using hi), List.getElem?_map] at e
    rw [List.getElem?_append_left (by rw [List.length_map, hl]; exact hi), List.getElem?_map]
    cases ea : avs[i]? with
    | none => rw [ea] at e; cases e
    | some a =>
      rw [ea] at e
      cases e
      obtain ⟨v, e1, rv⟩ := r.get ea
      exact ⟨v, by rw [e1]; rfl, rv⟩
  · rw [List.getElem?_append_right (by simpa using hi)] at e
    have e := (List.getElem?_eq_some_iff.mp e).2
    simp at e
section
variable {P : Program} {w : World} {K : PySem.W.Frag} {mg : Str → Option Value} {base : Heap} {L : Law} {ad : FDat → Addr} {fd : FDat → FuncData}
theorem prog_ok (F : Facts ⟨P, w, K, mg, base, L.T⟩ L ad fd) : ∀ (n : Nat), ∀ d ∈ L.F, FnOk P w K mg base (L2.CX P w) n (ad d) (fd d) d.ps (cSp ⟨P, w, K, mg, base, L.T⟩ (wpC L.pg n d.id))
  | 0, d, _ => ⟨fun _ _ _ _ ⟨_, _, _, _, q⟩ => q.elim, fun _ _ _ _ _ _ _ _ _ _ _ _ _ ⟨_, _, _, _, q⟩ => q.elim⟩
  | n + 1, d, hd => by
    have ih := prog_ok F n
    obtain ⟨S, M⟩ := FDat.sc_ok (F.chk d hd)
    have U := F.fn d hd
    have hcode : L.pg.code d.id = some ⟨d.ps.length, d.N.length, d.code⟩ := by
      show (L.F.find? (·.id == d.id)).map _ = _
      rw [find_self F.nd hd]; rfl
    refine U.fn.ok S (fun vs H Q E ⟨avs, h, rh, rv, q⟩ => ?_) (fun cdv A outer s H vs Q E hr ⟨avs, h, rh, rv, q⟩ => ?_)
    · obtain ⟨cf, e, l, q⟩ := q
      rw [hcode] at e
      cases e
      rw [rv.length]; exact l
    · obtain ⟨cf, e, l, q⟩ := q
      rw [hcode] at e
      cases e
      refine ⟨cS ⟨P, w, K, mg, base, L.T⟩ (fun cls d _ H => E cls d H) (wpB (wpC L.pg n) L.T L.sub d.code), ?_, ?_⟩
      · refine sB (X := cxOf (L2.CX P w) P w K mg base d.N d.x d.scope (ad d) cdv A outer s H E) (T := L.T) (C := wpC L.pg n) (N := d.N) (sub := L.sub) d.code (sc := d.scope) (fb := fun _ => true) (hot := false) ?_ M
        exact
          { mono := wpC_mono _ n, hN := rfl, nd := S.nd, hsc := rfl, hfb := rfl, hu := hr.units, calm := fun _ => rfl,
            fns := fun _ f x hx => by
              have hx : (L.F.find? (·.id == f)).map (·.x) = some x := hx
              cases e : L.F.find? (·.id == f) with
              | none => rw [e] at hx; cases hx
              | some d' =>
                rw [e] at hx
                cases hx
                have hm := List.mem_of_find?_eq_some e
                have hi : d'.id = f := by simpa using List.find?_some e
                subst hi
                have U' := F.fn d' hm
                exact ⟨ad d', fd d', d'.ps, n, U'.mg, U'.fn.kp, U'.bd, hr, ih d' hm⟩
            gvs := F.gvs, free := F.free, tk := takes_of rfl rfl rfl rfl, stk := rfl, fr := rfl, kind := S.kind, own := fun _ => passes_of rfl,
            exc := fun c x h => let e := F.exc c x h; ⟨e.mg, e.ex, e.kp, e.su, e.ty⟩, sub := F.sub }
      · refine ⟨astart d.N.length avs, h, start_env rv, rh, wpB_mono (wpC_mono _ n) d.code ?_ q⟩
        refine ⟨fun _ _ q σ' H' t _ r => ?_, fun _ _ q => ?_, fun _ _ z => z.elim, fun _ _ z => z.elim, fun _ _ _ q cls dd σ' H' t _ r rx => ?_⟩
        · obtain ⟨h1, l1, q⟩ := q
          exact q .non H' t (r.sub l1) (rep_non.mpr rfl)
        · obtain ⟨h1, l1, q⟩ := q
          exact fun v H' t r rv => q v H' t (r.sub l1) rv
        · obtain ⟨h1, l1, q⟩ := q
          exact q cls dd H' t (r.sub l1) rx
end
end PL

namespace PL
open PySem PySem.Spec PyProof.Rows L2

def faOf (L : Law) : List He.Fa := L.F.map (fun d => .glo d.x) ++ (L.free.map .free ++ (L.X.map (fun p => .glo p.2) ++ (L.X.map (fun p => .exc p.2) ++ (L.X.flatMap fun p => L.X.map fun q => .exm p.2 q.2 (L.sub p.1 q.1)))))
def okV : Nat → PySem.W.Frag → AV → Value → Bool
  | _, _, .non, .none => true
  | _, _, .bl b, .bool c => b == c
  | _, _, .int i, .int j _ => decide (i = j)
  | _, _, .str x, .str y _ => decide (x = y)
  | n + 1, K, .tup xs, .ref a => (match K.lookup a with
    | some ⟨.type c, none, .seq its _, _⟩ => decide (c = "tuple") && decide (its.size ≤ sizeLine) && (decide (xs.length = its.toList.length) && (xs.zip its.toList).all fun p => okV n K p.1 p.2)
    | _ => false)
  | _, _, _, _ => false
theorem okV_ok {K : PySem.W.Frag} : ∀ (n : Nat) {av : AV} {u : Value}, okV n K av u = true → ∃ v, RelV v u ∧ ∀ H, Rep K H av v := by
  intro n
  induction n with
  | zero =>
    intro av u h
    cases av <;> cases u <;> first
      | exact ⟨.non, rfl, fun H => rep_non.mpr rfl⟩
      | (rename_i b c; have e : b = c := by simpa [okV] using h
         subst e; exact ⟨.bl b, rfl, fun H => rep_bl.mpr rfl⟩)
      | (rename_i b c t; have e : b = c := by simpa [okV] using h
         subst e; exact ⟨.int b, ⟨t, rfl⟩, fun H => rep_int.mpr rfl⟩)
      | (rename_i b c t; have e : b = c := by simpa [okV] using h
         subst e; exact ⟨.str b, ⟨t, rfl⟩, fun H => rep_str.mpr rfl⟩)
      | simp [okV] at h
  | succ n ih =>
    intro av u h
    cases av with
    | non => cases u <;> first | exact ⟨.non, rfl, fun H => rep_non.mpr rfl⟩ | simp [okV] at h
    | bl b => cases u <;> first
        | (rename_i c; have e : b = c := by simpa [okV] using h
           subst e; exact ⟨.bl b, rfl, fun H => rep_bl.mpr rfl⟩)
        | simp [okV] at h
    | int b => cases u <;> first
        | (rename_i c t; have e : b = c := by simpa [okV] using h
           subst e; exact ⟨.int b, ⟨t, rfl⟩, fun H => rep_int.mpr rfl⟩)
        | simp [okV] at h
    | str b => cases u <;> first
        | (rename_i c t; have e : b = c := by simpa [okV] using h
           subst e; exact ⟨.str b, ⟨t, rfl⟩, fun H => rep_str.mpr rfl⟩)
        | simp [okV] at h
    | wt _ => cases u <;> simp [okV] at h
    | rl _ => cases u <;> simp [okV] at h
    | ref _ => cases u <;> simp [okV] at h
    | tup xs =>
      cases u with
      | ref a =>
        simp only [okV] at h
        split at h
        · rename_i c its m osl e
          simp only [Bool.and_eq_true, decide_eq_true_eq, List.all_eq_true] at h
          obtain ⟨⟨rfl, hz⟩, hl, ha⟩ := h
          have key : ∀ (xs : List AV) (us : List Value), xs.length = us.length → (∀ p ∈ xs.zip us, okV n K p.1 p.2 = true) → ∃ vs, Vals vs us ∧ ∀ H, Reps K H xs vs := by
            intro xs
            induction xs with
            | nil =>
              intro us hl _
              cases us with
              | nil => exact ⟨[], .nil, fun H => reps_nil.mpr rfl⟩
              | cons _ _ => cases hl
            | cons x xs ihx =>
              intro us hl hh
              cases us with
              | nil => cases hl
              | cons w us =>
                obtain ⟨v, r, q⟩ := ih (hh (x, w) List.mem_cons_self)
                obtain ⟨vs, r2, q2⟩ := ihx us (by simpa using hl) fun p hp => hh p (List.mem_cons_of_mem _ hp)
                exact ⟨v :: vs, .cons r r2, fun H => reps_cons.mpr ⟨v, vs, rfl, q H, q2 H⟩⟩
          obtain ⟨vs, r, q⟩ := key xs its.toList hl ha
          exact ⟨.ref a, rfl, fun H => rep_tup.mpr ⟨a, vs, rfl, .inr ⟨_, its, m, e, rfl, rfl, rfl, hz, r⟩, q H⟩⟩
        · cases h
      | _ => simp [okV] at h
def exOf (L : Law) (K : PySem.W.Frag) : Bool := L.G.all fun g => match PySem.W.nsIn K mainGlobals g.2.1 with
  | some (some u) => okV 8 K g.2.2 u
  | _ => false
abbrev AlG : Type := He.AlD × Bool
def obsG (L : Law) (fn : List He.DefD) (K : PySem.W.Frag) : AlG := (He.obsD (faOf L) fn K, exOf L K)
def SaysG (L : Law) (fn : List He.DefD) (K : PySem.W.Frag) : Prop := He.SaysD (faOf L) fn K ∧ exOf L K = true
def obsGG (n : Nat) (L : Law) (fn : List He.DefD) (g : Addr → Option Obj) : AlG := obsG L fn (He.frG g (He.asD g n))
def hookG (n : Nat) (L : Law) (fn : List He.DefD) : PySem.W.Hook where
  α := AlG
  obs := fun s => obsGG n L fn s.heap.get?
  val := fun _ => (He.valD fn, true)
  says := fun _ h => ∃ K : PySem.W.Frag, K.In h ∧ SaysG L fn K
  of := fun _ _ e => ⟨_, He.frG_in, congrArg Prod.fst e, congrArg Prod.snd e⟩
  keeps := fun _ _ _ ⟨K, hK, c⟩ k => ⟨K, PySem.W.Frag.In.keeps hK k, c⟩
theorem obsGG_eq {n : Nat} {L : Law} {fn : List He.DefD} {g : Addr → Option Obj} {s : Shared} (h : ∀ a, g a = s.heap.get? a) : obsGG n L fn g = (hookG n L fn).obs s := by
  rw [show g = s.heap.get? from funext h] <;> rfl
def fnOf (L : Law) : List He.DefD := L.F.map FDat.dd
theorem says_fact {fa : List He.Fa} {fn : List He.DefD} {K : PySem.W.Frag} (c : He.SaysD fa fn K) {f : He.Fa} (h : f ∈ fa) : f.ok K = true := by
  have c1 := (He.ba (show ((fa.all fun f => f.ok K) && fn.all fun d => d.ok K) = true from congrArg (fun z : He.AlD => z.1) c)).1
  exact List.all_eq_true.mp c1 f h
theorem says_def {fa : List He.Fa} {fn : List He.DefD} {K : PySem.W.Frag} (c : He.SaysD fa fn K) {d : He.DefD} (h : d ∈ fn) : ∃ fd, FunD K d.name d.qual d.params d.body d.scope (d.dvs K) (d.kws K) (He.fAd K d.at_) fd := by
  obtain ⟨i, hi⟩ := List.mem_iff_getElem?.mp h
  exact c.def_ i hi
def BindOk (d : FDat) : Prop := ∀ (kV doc pm : Value) (an : Option Addr) (cdv ct : Value) (us : List Value), us.length = d.ps.length → bindArgs (PySem.W.fnOf d.x d.x d.params d.body d.scope .none kV doc pm an cdv ct) ⟨us, []⟩ = pure (d.ps.zip us)
theorem lookup_mem' {α β : Type} [BEq α] [LawfulBEq α] {l : List (α × β)} {a : α} {b : β} (h : l.lookup a = some b) : (a, b) ∈ l := by
  induction l with
  | nil => cases h
  | cons p l ih =>
    obtain ⟨x, y⟩ := p
    rw [List.lookup_cons] at h
    cases e : a == x with
    | true =>
      rw [e] at h
      cases h
      rw [eq_of_beq e]
      exact List.mem_cons_self
    | false =>
      rw [e] at h
      exact List.mem_cons_of_mem _ (ih h)
section
variable {P : Program} {w : World} {K : PySem.W.Frag} {mg : Str → Option Value} {base : Heap} {L : Law} {h : Heap}
theorem facts_of (X : K.In h) (G : h.Ns mainGlobals mg) (c2 : SaysG L (fnOf L) K) (nd : (L.F.map (·.id)).Nodup) (chk : ∀ d ∈ L.F, d.chk L.T = true) (bd : ∀ d ∈ L.F, BindOk d) :
    ∃ fd : FDat → FuncData, ∀ (P : Program) (w : World) (base : Heap), Facts ⟨P, w, K, mg, base, L.T⟩ L (fun d => He.ga K d.x) fd := by
  have c := c2.1
  have fex : ∀ d : FDat, ∃ fd, d ∈ L.F → FunD K d.x d.x d.params d.body d.scope [] [] (He.ga K d.x) fd := fun d => by
    by_cases hd : d ∈ L.F
    · obtain ⟨fd, F⟩ := says_def c (d := d.dd) (List.mem_map.mpr ⟨d, hd, rfl⟩)
      exact ⟨fd, fun _ => F⟩
    · exact ⟨⟨"", "", d.params, .stmts [], d.scope, 0, [], .none, .none, .none, .none, none, .none, .none, 0⟩, fun z => absurd z hd⟩
  refine ⟨fun d => (fex d).choose, fun P w base => ⟨rfl, fun d hd => ?_, fun e x hx => ?_, fun e e' x y hx hy => ?_, fun g x hx => ?_, fun x hx => ?_, nd, chk⟩⟩
  · have F := (fex d).choose_spec hd
    exact ⟨F, He.glo_ok X G (says_fact c (List.mem_append_left _ (List.mem_map.mpr ⟨d, hd, rfl⟩))), F.bindsN (bd d hd)⟩
  · have hm : (e, x) ∈ L.X := lookup_mem' hx
    have ca : clsAddr ⟨P, w, K, mg, base, L.T⟩ e = He.ga K x := by
      show He.ga K ((L.X.lookup e).getD "") = _
      rw [show L.X.lookup e = some x from hx]; rfl
    have g1 := He.glo_ok X G (says_fact c (f := .glo x) (List.mem_append_right _ (List.mem_append_right _ (List.mem_append_left _ (List.mem_map.mpr ⟨_, hm, rfl⟩)))))
    have g2 := He.exc_ok (says_fact c (f := .exc x) (List.mem_append_right _ (List.mem_append_right _ (List.mem_append_right _ (List.mem_append_left _ (List.mem_map.mpr ⟨_, hm, rfl⟩))))))
    exact ⟨by rw [ca]; exact g1, by rw [ca]; exact g2.1, by rw [ca]; exact g2.2.1, by rw [ca]; exact g2.2.2.1, by rw [ca]; exact g2.2.2.2⟩
  · have hm : (e, x) ∈ L.X := lookup_mem' hx
    have hm' : (e', y) ∈ L.X := lookup_mem' hy
    have ca : clsAddr ⟨P, w, K, mg, base, L.T⟩ e = He.ga K x := by
      show He.ga K ((L.X.lookup e).getD "") = _
      rw [show L.X.lookup e = some x from hx]; rfl
    have ca' : clsAddr ⟨P, w, K, mg, base, L.T⟩ e' = He.ga K y := by
      show He.ga K ((L.X.lookup e').getD "") = _
      rw [show L.X.lookup e' = some y from hy]; rfl
    rw [ca, ca']
    exact He.exm_ok (says_fact c (f := .exm x y (L.sub e e')) (List.mem_append_right _ (List.mem_append_right _ (List.mem_append_right _ (List.mem_append_right _ (
      (List.mem_flatMap.mpr ⟨_, hm, List.mem_map.mpr ⟨_, hm', rfl⟩⟩)))))))
  · have hx : (L.G.lookup g).map (·.1) = some x := hx
    cases eg : L.G.lookup g with
    | none => rw [eg] at hx; cases hx
    | some p =>
      rw [eg] at hx
      cases hx
      obtain ⟨x, v⟩ := p
      have hm : (g, x, v) ∈ L.G := lookup_mem' eg
      have q := List.all_eq_true.mp (show (L.G.all fun g => match PySem.W.nsIn K mainGlobals g.2.1 with
        | some (some u) => okV 8 K g.2.2 u
        | _ => false) = true from c2.2) _ hm
      have gv : L.T.gv g = some v := by
        show (L.G.lookup g).map _ = _
        rw [eg]; rfl
      dsimp only at q
      split at q
      · rename_i u e
        obtain ⟨w, r, k⟩ := okV_ok 8 q
        refine ⟨w, u, PySem.W.mg_of X G e, r, fun av ea H => ?_⟩
        rw [gv] at ea; cases ea
        exact k H
      · cases q
  · have hx : L.free.contains x = true := hx
    exact He.free_ok X G (says_fact c (f := .free x) (List.mem_append_right _ (List.mem_append_left _ (List.mem_map.mpr ⟨x, by simpa using hx, rfl⟩))))
end
theorem reps_ints {K : PySem.W.Frag} {H : Hp} : ∀ {ns : List Int}, Reps K H (ns.map AV.int) (ns.map V.int)
  | [] => reps_nil.mpr rfl
  | n :: ns => reps_cons.mpr ⟨_, _, rfl, rep_int.mpr rfl, reps_ints⟩
theorem law_end {l : PySem.W.OpenLaw} {n k : Nat} {q : Program} {loose : List Str} {XP : (Str → Option Value) → Heap → Prop} {d : DefRec} {L : Law} {dl : FDat} {x : Str}
    (hn : l.most = some n) (hn2 : n ≤ sizeLine) (hdf : d.params.defaults = []) (hr : Room k callerA) (hdl : dl ∈ L.F) (hname : d.name = dl.x) (hps : dl.ps = [x])
    (nd : (L.F.map (·.id)).Nodup) (chk : ∀ d ∈ L.F, d.chk L.T = true) (bd : ∀ d ∈ L.F, BindOk d)
    (main : ∀ ns : List Int, ns.length ≤ n → (∀ z ∈ ns, Builtin.Int.intBits z ≤ 1048576) → wpC L.pg k dl.id [.rl (ns.map .int)] (fun _ => none) (fun v _ => v = .bl true) (fun _ _ => False)) :
    PySem.W.WalkO q loose XP (fun _ h => ∃ K : PySem.W.Frag, K.In h ∧ SaysG L (fnOf L) K) l.row.toRowW d [] (fun f vs => PySem.call f vs) := by
  refine Att.attach_callB hn hdf fun w s₀ s₁ mg mb fa o pm cd doc a vs ns G Y ho hd hcd hmg hobj hints hlen hbits hg => ?_
  obtain ⟨K, KX, c⟩ := Y
  obtain ⟨fd, F⟩ := facts_of KX G.T.g c nd chk bd
  have hg1 : mg dl.x = some (.ref (He.ga K dl.x)) := (F l.prog w s₁.heap).fn dl hdl |>.mg
  rw [hname] at hmg
  have e := hmg.symm.trans hg1
  cases e
  have FD := (F l.prog w s₁.heap).fn dl hdl |>.fn
  refine law_call (CX := L2.CX l.prog w) (fd := fd dl) (x := x) (sp := cSp ⟨l.prog, w, K, mg, s₁.heap, L.T⟩ (wpC L.pg k dl.id)) KX G.T.g G.T.b G.T.builtins G.T.nolimit hg hobj hints (Nat.le_trans hlen hn2) hr (fun base Kb Gb => ?_)
    (fun s u => ?_) (fun H hO hS => ?_) fun H e s' => ?_
  · have q := prog_ok (F l.prog w base) k dl hdl
    rw [hps] at q
    exact q
  · have b := FunD.bindsA (ps := dl.ps) FD (bd dl hdl) s [u] (by rw [hps]; rfl)
    rw [hps] at b
    exact b
  · have hF : SqF K H a (ns.map V.int) := by
      rcases hS with (h | ⟨o, h⟩) | h
      · rcases hO a with z | ⟨o, xs, z⟩
        · rw [z] at h; cases h
        · rw [z] at h; cases h
      · exact .inl ⟨o, h⟩
      · exact .inr h
    refine ⟨[.rl (ns.map .int)], fun _ => none, fun _ _ z => (nomatch z), Reps.one (rep_rl.mpr ⟨a, _, rfl, hF, reps_ints⟩), ?_⟩
    refine wpC_mono _ k _ _ _ _ _ _ _ (fun v h1 q v' H' t r rv => ?_) (fun _ _ z => z.elim) (main ns hlen hbits)
    rw [q] at rv
    exact rep_bl.mp rv
  · rintro ⟨_, _, _, _, _, _, _, _, _, _, _, _, z⟩
    exact z
end PL

namespace PL
open PySem PySem.Spec PyProof.Rows L2
theorem shr_i {P : AH → Prop} {h : AH} (q : P h) : Shr P h := ⟨h, ALe.refl, q⟩
theorem shr_le {P : AH → Prop} {h h' : AH} (l : ALe h h') (q : P h) : Shr P h' := ⟨h, l, q⟩
theorem shs_i {P : AEnv → AH → Prop} {σ : AEnv} {h : AH} (q : P σ h) : Shs P σ h := ⟨σ, h, ⟨rfl, fun _ _ z => z⟩, ALe.refl, q⟩
def endF (Q : AQ) (E : AXQ) : AEnds := { nx := fun _ h' => Shr (Q .non) h', rt := fun v h' => Shr (Q v) h', bk := fun _ _ => False, ct := fun _ _ => False, ex := fun x _ h' => Shr (E x) h' }
theorem call_i {G : Pg} {n f : Nat} {vs : List AV} {h : AH} {Q : AQ} {E : AXQ} {np nn : Nat} {body : CS} (hc : G.code f = some ⟨np, nn, body⟩) (hl : vs.length = np) (hb : wpB (wpC G n) G.T G.sub body (endF Q E) (astart nn vs) h) : wpC G (n + 1) f vs h Q E := ⟨⟨np, nn, body⟩, hc, hl, hb⟩
theorem endF_nx {Q : AQ} {E : AXQ} {σ : AEnv} {h : AH} : (endF Q E).nx σ h = Shr (Q .non) h := rfl
theorem endF_rt {Q : AQ} {E : AXQ} : (endF Q E).rt = fun v h => Shr (Q v) h := rfl
theorem endF_ex {Q : AQ} {E : AXQ} {x : AX} {σ : AEnv} {h : AH} : (endF Q E).ex x σ h = Shr (E x) h := rfl
section
variable {C : ACall} {T : Tb} {sub : Nat → Nat → Bool} {σ : AEnv} {h : AH} {Q : AQ} {E : AXQ} {D : AEnds} {a b c e es o lo hi g : CE} {K : Bool → AH → Prop} {o1 o2 : COp}
theorem q_non : wpE C T .non σ h Q E = Q .non h := rfl
theorem q_bl {x : Bool} : wpE C T (.bl x) σ h Q E = Q (.bl x) h := rfl
theorem q_int {x : Int} : wpE C T (.int x) σ h Q E = Q (.int x) h := rfl
theorem q_str {x : Str} : wpE C T (.str x) σ h Q E = Q (.str x) h := rfl
theorem q_var {i : Nat} : wpE C T (.var i) σ h Q E = ∃ v, σ[i]? = some (some v) ∧ Q v h := rfl
theorem q_glob {i : Nat} : wpE C T (.glob i) σ h Q E = ∃ v, T.gv i = some v ∧ Q v h := rfl
theorem q_tup : wpE C T (.tup es) σ h Q E = wpEs C T es σ h (fun vs h' => vs.length ≤ sizeLine ∧ Q (.tup vs) h') E := rfl
theorem q_lst : wpE C T (.lst es) σ h Q E = wpEs C T es σ h (fun vs h' => vs.length ≤ sizeLine ∧ newL h' vs Q) E := rfl
theorem q_bin {op : BOp} : wpE C T (.bin op a b) σ h Q E = wpE C T a σ h (fun x h1 => wpE C T b σ h1 (fun y h2 => binR op x y h2 Q) E) E := rfl
theorem q_neg : wpE C T (.neg a) σ h Q E = wpE C T a σ h (fun x h1 => ∃ i, x = .int i ∧ Q (.int (-i)) h1) E := rfl
theorem q_not : wpE C T (.not a) σ h Q E = wpE C T a σ h (fun x h1 => ∃ b, x = .bl b ∧ Q (.bl (!b)) h1) E := rfl
theorem q_cmp : wpE C T (.cmp o1 a b) σ h Q E = wpE C T a σ h (fun x h1 => wpE C T b σ h1 (fun y h2 => cmpR o1 x y h2 fun r => Q (.bl r) h2) E) E := rfl
theorem q_chain : wpE C T (.chain o1 o2 a b c) σ h Q E = wpE C T a σ h (fun x h1 => wpE C T b σ h1 (fun y h2 => cmpR o1 x y h2 fun r =>
      if r = true then wpE C T c σ h2 (fun z h3 => cmpR o2 y z h3 fun r' => Q (.bl r') h3) E else Q (.bl false) h2) E) E := rfl
theorem q_and : wpE C T (.and es) σ h Q E = wpAndV C T es σ h Q E := rfl
theorem q_or : wpE C T (.or es) σ h Q E = wpOrV C T es σ h Q E := rfl
theorem q_ifx : wpE C T (.ifx c a b) σ h Q E = wpT C T c σ h (fun r h1 => if r = true then wpE C T a σ h1 Q E else wpE C T b σ h1 Q E) E := rfl
theorem q_call {f : Nat} : wpE C T (.call f es) σ h Q E = wpEs C T es σ h (fun vs h1 => C f vs h1 Q E) E := rfl
theorem q_blt {f : Blt} : wpE C T (.blt f es) σ h Q E = wpEs C T es σ h (fun vs h1 => bltR f vs h1 Q) E := rfl
theorem q_isin {ts : List Ty} : wpE C T (.isin e ts) σ h Q E = wpE C T e σ h (fun x h1 => tyR ts x h1 fun r => Q (.bl r) h1) E := rfl
theorem q_idx : wpE C T (.idx a b) σ h Q E = wpE C T a σ h (fun x h1 => wpE C T b σ h1 (fun y h2 => ixR x y h2 Q) E) E := rfl
theorem q_slc : wpE C T (.slc a lo hi) σ h Q E = wpE C T a σ h (fun x h1 => wpP C T lo σ h1 (fun l h2 => wpP C T hi σ h2 (fun u h3 => slR x l u h3 Q) E) E) E := rfl
theorem q_rev : wpE C T (.rev a) σ h Q E = wpE C T a σ h (fun x h1 => revR x h1 Q) E := rfl
theorem q_mth {m : Mth} : wpE C T (.mth m o es) σ h Q E = wpE C T o σ h (fun x h1 => mthTy m x h1 ∧ wpEs C T es σ h1 (fun vs h2 => mthR m x vs h2 Q) E) E := rfl
theorem w_asg : wpS C T sub (.asg g e) D σ h = wpE C T e σ h (fun v h1 => wpG C T g v σ h1 D.nx) (fun x h' => D.ex x σ h') := rfl
theorem w_slc {i : Nat} : wpS C T sub (.slc i e) D σ h = wpE C T e σ h (fun v h1 => D.nx (σ.set i (some v)) h1) (fun x h' => D.ex x σ h') := rfl
theorem w_par {i j : Nat} : wpS C T sub (.par i j a b) D σ h = wpE C T a σ h (fun v h1 => wpE C T b σ h1 (fun w h2 => D.nx ((σ.set i (some v)).set j (some w)) h2) (fun x h' => D.ex x σ h')) (fun x h' => D.ex x σ h') := rfl
theorem w_par3 {i j k : Nat} : wpS C T sub (.par3 i j k a b c) D σ h = wpE C T a σ h (fun v h1 => wpE C T b σ h1 (fun w h2 => wpE C T c σ h2 (fun u h3 => D.nx (((σ.set i (some v)).set j (some w)).set k (some u)) h3) (fun x h' => D.ex x σ h')) (fun x h' => D.ex x σ h')) (fun x h' => D.ex x σ h') := rfl
theorem w_expr : wpS C T sub (.expr e) D σ h = wpE C T e σ h (fun _ h1 => D.nx σ h1) (fun x h' => D.ex x σ h') := rfl
theorem w_ret : wpS C T sub (.ret e) D σ h = wpE C T e σ h D.rt (fun x h' => D.ex x σ h') := rfl
theorem w_retN : wpS C T sub .retN D σ h = D.rt .non h := rfl
theorem w_iff {t f : CS} : wpS C T sub (.iff c t f) D σ h = wpT C T c σ h (fun b h1 => if b = true then wpB C T sub t D σ h1 else wpB C T sub f D σ h1) (fun x h' => D.ex x σ h') := rfl
theorem w_raise {x : Nat} : wpS C T sub (.raise x es) D σ h = wpEs C T es σ h (fun vs h1 => D.ex ⟨x, vs⟩ σ h1) (fun x h' => D.ex x σ h') := rfl
theorem w_tri {t f : CS} : wpS C T sub (.tri t f) D σ h = wpB C T sub t { D with ex := fun x σ' h' => wpH C T sub f x D σ' h' } σ h := rfl
theorem w_pass : wpS C T sub .pass D σ h = D.nx σ h := rfl
theorem w_brk : wpS C T sub .brk D σ h = D.bk σ h := rfl
theorem w_cont : wpS C T sub .cont D σ h = D.ct σ h := rfl
end
def setR (x y v : AV) (h : AH) (K : AH → Prop) : Prop := ∃ a, x = .ref a ∧
      ((∃ xs i, y = .int i ∧ 0 ≤ i ∧ i < xs.length ∧ h a = some (.lst xs) ∧ K (aupd h a (.lst (xs.set i.toNat v)))) ∨
       (∃ kvs k, y.toKey = some k ∧ h a = some (.dK kvs) ∧ kvs.length < sizeLine ∧ K (aupd h a (.dK (dput kvs k v)))))
theorem g_idxR {C : ACall} {T : Tb} {o i : CE} {v : AV} {σ : AEnv} {h : AH} {K : AEnv → AH → Prop} : wpG C T (.idx o i) v σ h K = wpE C T o σ h (fun x h1 => wpE C T i σ h1 (fun y h2 => setR x y v h2 fun h3 => K σ h3) fun _ _ => False) fun _ _ => False := rfl
theorem g_varR {C : ACall} {T : Tb} {i : Nat} {v : AV} {σ : AEnv} {h : AH} {K : AEnv → AH → Prop} : wpG C T (.var i) v σ h K = K (σ.set i (some v)) h := rfl
theorem g_tupR {C : ACall} {T : Tb} {gs : CE} {vs : List AV} {σ : AEnv} {h : AH} {K : AEnv → AH → Prop} (hl : vs.length = gs.len) (q : wpGs C T gs vs σ h K) : wpG C T (.tup gs) (.tup vs) σ h K := .inl ⟨vs, .inl rfl, hl, q⟩
theorem g_wtR {C : ACall} {T : Tb} {gs : CE} {vs : List AV} {σ : AEnv} {h : AH} {K : AEnv → AH → Prop} (hl : vs.length = gs.len) (q : wpGs C T gs vs σ h K) : wpG C T (.tup gs) (.wt vs) σ h K := .inl ⟨vs, .inr rfl, hl, q⟩
theorem g_lstR {C : ACall} {T : Tb} {gs : CE} {vs : List AV} {a : Addr} {σ : AEnv} {h : AH} {K : AEnv → AH → Prop} (e : h a = some (.lst vs)) (hl : vs.length = gs.len) (q : wpGs C T gs vs σ h K) : wpG C T (.tup gs) (.ref a) σ h K := .inr ⟨a, vs, rfl, e, hl, q⟩
theorem gs_nilR {C : ACall} {T : Tb} {σ : AEnv} {h : AH} {K : AEnv → AH → Prop} : wpGs C T .nil [] σ h K = K σ h := by
  show ([] = [] ∧ K σ h) = _
  simp
theorem gs_consR {C : ACall} {T : Tb} {g gs : CE} {v : AV} {vs : List AV} {σ : AEnv} {h : AH} {K : AEnv → AH → Prop} : wpGs C T (.cons g gs) (v :: vs) σ h K = wpG C T g v σ h (fun σ1 h1 => wpGs C T gs vs σ1 h1 K) := by
  show (∃ v' r, v :: vs = v' :: r ∧ wpG C T g v' σ h (fun σ1 h1 => wpGs C T gs r σ1 h1 K)) = _
  apply propext
  constructor
  · rintro ⟨v', r, e, q⟩
    cases e
    exact q
  · intro q
    exact ⟨v, vs, rfl, q⟩
theorem set_lst {a : Addr} {i : Int} {v : AV} {xs : List AV} {h : AH} {K : AH → Prop} (e : h a = some (.lst xs)) (h0 : 0 ≤ i) (h1 : i < xs.length) (q : K (aupd h a (.lst (xs.set i.toNat v)))) : setR (.ref a) (.int i) v h K := ⟨a, rfl, .inl ⟨xs, i, rfl, h0, h1, e, q⟩⟩
theorem set_dK {a : Addr} {y v : AV} {kvs : List (Key × AV)} {k : Key} {h : AH} {K : AH → Prop} (e : h a = some (.dK kvs)) (ek : y.toKey = some k) (h1 : kvs.length < sizeLine) (q : K (aupd h a (.dK (dput kvs k v)))) : setR (.ref a) y v h K := ⟨a, rfl, .inr ⟨kvs, k, ek, e, h1, q⟩⟩
theorem wp_cut {C : ACall} (hC : CMono C) {T : Tb} {sub : Nat → Nat → Bool} {s r : CS} {D : AEnds} {σ : AEnv} {h : AH} (P : AEnv → AH → Prop) (h1 : wpS C T sub s { D with nx := P } σ h) (h2 : ∀ σ h, P σ h → wpB C T sub r D σ h) : wpB C T sub (.cons s r) D σ h := by
  show wpS C T sub s { D with nx := fun σ1 h1 => wpB C T sub r D σ1 h1 } σ h
  refine wpS_mono hC s ?_ h1
  exact ⟨h2, fun _ _ z => z, fun _ _ z => z, fun _ _ z => z, fun _ _ _ z => z⟩
theorem wp_mid {C : ACall} (hC : CMono C) {T : Tb} {sub : Nat → Nat → Bool} {s : CS} {D : AEnds} {σ : AEnv} {h : AH} (P : AEnv → AH → Prop) (h1 : wpS C T sub s { D with nx := P } σ h) (h2 : ∀ σ h, P σ h → D.nx σ h) : wpS C T sub s D σ h := by
  refine wpS_mono hC s ?_ h1
  exact ⟨h2, fun _ _ z => z, fun _ _ z => z, fun _ _ z => z, fun _ _ _ z => z⟩
theorem b_nil' {C : ACall} {T : Tb} {sub : Nat → Nat → Bool} {D : AEnds} {σ : AEnv} {h : AH} : wpB C T sub .nil D σ h = D.nx σ h := rfl
theorem b_cons' {C : ACall} {T : Tb} {sub : Nat → Nat → Bool} {s r : CS} {D : AEnds} {σ : AEnv} {h : AH} : wpB C T sub (.cons s r) D σ h = wpS C T sub s { D with nx := fun σ1 h1 => wpB C T sub r D σ1 h1 } σ h := rfl
theorem v_ref {C : ACall} {T : Tb} {p : Addr} {xs : List AV} {h : AH} {K : List AV → (AH → Prop) → Prop} (e : h p = some (.lst xs)) (q : K xs fun h' => h' p = some (.lst xs)) : itR (.ref p) h K := ⟨xs, e, q⟩
theorem v_tup {xs : List AV} {h : AH} {K : List AV → (AH → Prop) → Prop} : itR (.tup xs) h K = K xs fun _ => True := rfl
theorem v_rl {xs : List AV} {h : AH} {K : List AV → (AH → Prop) → Prop} : itR (.rl xs) h K = K xs fun _ => True := rfl
theorem sl_rl {xs : List AV} {lo hi : Option Int} {h : AH} {Q : AQ} : slR (.rl xs) lo hi h Q = ∀ p, h p = none → Q (.ref p) (aupd h p (.lst (acut xs lo hi))) := rfl
theorem sl_tup {xs : List AV} {lo hi : Option Int} {h : AH} {Q : AQ} : slR (.tup xs) lo hi h Q = Q (.tup (acut xs lo hi)) h := rfl
theorem sl_lst {a : Addr} {xs : List AV} {lo hi : Option Int} {h : AH} {Q : AQ} (e : h a = some (.lst xs)) (q : ∀ p, h p = none → Q (.ref p) (aupd h p (.lst (acut xs lo hi)))) : slR (.ref a) lo hi h Q := ⟨xs, e, q⟩
theorem len_nil {α : Type} : ([] : List α).length = 0 := rfl
section
variable {i j : Int} {s t : Str} {xs ys : List AV} {h : AH} {Q : AQ} {R : Bool → Prop} {a b : Addr} {c d : Bool}
theorem b_add : binR .add (.int i) (.int j) h Q = Q (.int (i + j)) h := rfl
theorem b_addT : binR .add (.tup xs) (.tup ys) h Q = (xs.length + ys.length ≤ sizeLine ∧ Q (.tup (xs ++ ys)) h) := rfl
theorem b_addS : binR .add (.str s) (.str t) h Q = (s.length + t.length ≤ sizeLine ∧ Q (.str (s ++ t)) h) := rfl
theorem b_addL : binR .add (.ref a) (.ref b) h Q = ∃ xs ys, h a = some (.lst xs) ∧ h b = some (.lst ys) ∧ xs.length + ys.length ≤ sizeLine ∧ ∀ p, h p = none → Q (.ref p) (aupd h p (.lst (xs ++ ys))) := rfl
theorem b_sub : binR .sub (.int i) (.int j) h Q = Q (.int (i - j)) h := rfl
theorem b_mul : binR .mul (.int i) (.int j) h Q = (CMulW i j ∧ Q (.int (i * j)) h) := rfl
theorem b_fdiv : binR .fdiv (.int i) (.int j) h Q = ((j ≠ 0 ∧ j.natAbs.log2 < 9000) ∧ Q (.int (i.fdiv j)) h) := rfl
theorem b_mod : binR .mod (.int i) (.int j) h Q = (0 < j ∧ Q (.int (i % j)) h) := rfl
theorem b_pow : binR .pow (.int i) (.int j) h Q = (CPow i j ∧ Q (.int (i ^ j.toNat)) h) := rfl
theorem c_eq {x y : AV} : cmpR .eq x y h R = eqR x y h R := rfl
theorem c_ne {x y : AV} : cmpR .ne x y h R = eqR x y h fun b => R (!b) := rfl
theorem e_int : eqR (.int i) (.int j) h R = R (decide (i = j)) := by
  show (AV.flat 50 _ = true ∧ AV.flat 50 _ = true ∧ R (i == j)) = _
  have e : (i == j) = decide (i = j) := by by_cases e : i = j <;> simp [e]
  simp [AV.flat, e]
theorem e_bl : eqR (.bl c) (.bl d) h R = R (c == d) := by
  show (AV.flat 50 _ = true ∧ AV.flat 50 _ = true ∧ R (c == d)) = _
  simp [AV.flat]
theorem e_str : eqR (.str s) (.str t) h R = ((PyData.strOk s = true ∧ PyData.strOk t = true) ∧ R (s == t)) := by
  show (AV.flat 50 _ = true ∧ AV.flat 50 _ = true ∧ R (s == t)) = _
  simp [AV.flat, and_assoc]
theorem c_lt : cmpR .lt (.int i) (.int j) h R = R (decide (i < j)) := rfl
theorem c_le : cmpR .le (.int i) (.int j) h R = R (decide (i ≤ j)) := rfl
theorem c_gt : cmpR .gt (.int i) (.int j) h R = R (decide (j < i)) := rfl
theorem c_ge : cmpR .ge (.int i) (.int j) h R = R (decide (j ≤ i)) := rfl
theorem c_isN {x : AV} : cmpR .is x .non h R = R (match x with | .non => true | _ => false) := by cases x <;> rfl
theorem c_isnotN {x : AV} : cmpR .isnot x .non h R = R (!(match x with | .non => true | _ => false)) := by cases x <;> rfl
theorem c_isB : cmpR .is (.bl c) (.bl d) h R = R (decide (c = d)) := rfl
theorem c_isnotB : cmpR .isnot (.bl c) (.bl d) h R = R (!decide (c = d)) := rfl
theorem t_non {ts : List Ty} : tyR ts .non h R = R false := rfl
theorem t_bl {ts : List Ty} : tyR ts (.bl c) h R = R (hasTy ts .bool || hasTy ts .int) := rfl
theorem t_int {ts : List Ty} : tyR ts (.int i) h R = R (hasTy ts .int) := rfl
theorem t_str {ts : List Ty} : tyR ts (.str s) h R = R (hasTy ts .str) := rfl
theorem t_tup {ts : List Ty} : tyR ts (.tup xs) h R = R (hasTy ts .tuple) := rfl
theorem t_rl {ts : List Ty} : tyR ts (.rl xs) h R = R (hasTy ts .list) := rfl
theorem t_lst {ts : List Ty} (e : h a = some (.lst xs)) (q : R (hasTy ts .list)) : tyR ts (.ref a) h R := .inl ⟨xs, e, q⟩
theorem t_dK {ts : List Ty} {kvs} (e : h a = some (.dK kvs)) (q : R (hasTy ts .dict)) : tyR ts (.ref a) h R := .inr ⟨kvs, e, q⟩
theorem r_bl : truR (.bl c) h R = R c := rfl
theorem r_non : truR .non h R = R false := rfl
theorem r_int : truR (.int i) h R = R (i != 0) := rfl
theorem r_tup : truR (.tup xs) h R = R (!xs.isEmpty) := rfl
theorem x_tup : ixR (.tup xs) (.int i) h Q = ∃ v, atI xs i = some v ∧ Q v h := rfl
theorem x_rl : ixR (.rl xs) (.int i) h Q = ∃ v, atI xs i = some v ∧ Q v h := rfl
theorem x_lst {v : AV} (e : h a = some (.lst xs)) (e2 : atI xs i = some v) (q : Q v h) : ixR (.ref a) (.int i) h Q := .inl ⟨xs, i, v, rfl, e, e2, q⟩
theorem l_len {vs : List AV} : bltR .len vs h Q = one vs fun x => lenR x h Q := rfl
theorem l_abs {vs : List AV} : bltR .abs vs h Q = one vs fun x => absR x h Q := rfl
theorem l_int {vs : List AV} : bltR .int vs h Q = one vs fun x => intR x h Q := rfl
theorem l_tuple {vs : List AV} : bltR .tuple vs h Q = one vs fun x => tupleR x h Q := rfl
theorem l_list {vs : List AV} : bltR .list vs h Q = one vs fun x => listR x h Q := rfl
theorem l_all {vs : List AV} : bltR .all vs h Q = one vs fun x => allR x h Q := rfl
theorem l_any {vs : List AV} : bltR .any vs h Q = one vs fun x => anyR x h Q := rfl
theorem l_sum {vs : List AV} : bltR .sum vs h Q = one vs fun x => sumR x h Q := rfl
theorem l_max {vs : List AV} : bltR .max vs h Q = two vs fun x y => maxR x y h Q := rfl
theorem l_min {vs : List AV} : bltR .min vs h Q = two vs fun x y => minR x y h Q := rfl
theorem one_i {x : AV} {K : AV → Prop} : one [x] K = K x := rfl
theorem two_i {x y : AV} {K : AV → AV → Prop} : two [x, y] K = K x y := rfl
theorem n_tup : lenR (.tup xs) h Q = Q (.int xs.length) h := rfl
theorem n_rl : lenR (.rl xs) h Q = Q (.int xs.length) h := rfl
theorem n_lst (e : h a = some (.lst xs)) (q : Q (.int xs.length) h) : lenR (.ref a) h Q := .inl ⟨xs, e, q⟩
theorem a_int : absR (.int i) h Q = Q (.int (if i < 0 then -i else i)) h := rfl
theorem i_int : intR (.int i) h Q = Q (.int i) h := rfl
end
theorem at0 {x : AV} {xs : List AV} : atI (x :: xs) 0 = some x := rfl
theorem at1 {x y : AV} {xs : List AV} : atI (x :: y :: xs) 1 = some y := rfl
theorem at2 {x y z : AV} {xs : List AV} : atI (x :: y :: z :: xs) 2 = some z := rfl
theorem at3 {x y z w : AV} {xs : List AV} : atI (x :: y :: z :: w :: xs) 3 = some w := rfl
theorem at4 {x y z w u : AV} {xs : List AV} : atI (x :: y :: z :: w :: u :: xs) 4 = some u := rfl
theorem n_str {s : Str} {h : AH} {Q : AQ} : lenR (.str s) h Q = (s.length ≤ sizeLine ∧ Q (.int s.length) h) := rfl
theorem c_ltS {s t : Str} {h : AH} {R : Bool → Prop} : cmpR .lt (.str s) (.str t) h R = R (decide (s.cps.toList < t.cps.toList)) := rfl
theorem c_inn {x y : AV} {h : AH} {R : Bool → Prop} : cmpR .inn x y h R = inR x y h R := rfl
theorem c_notin {x y : AV} {h : AH} {R : Bool → Prop} : cmpR .notin x y h R = inR x y h fun b => R (!b) := rfl
theorem in_str1 {c : Nat} {z : Str} {h : AH} {R : Bool → Prop} : inR (.str ⟨#[c]⟩) (.str z) h R = R (decide (c ∈ z.cps.toList)) := by
  show (∃ c', (⟨#[c]⟩ : Str) = ⟨#[c']⟩ ∧ R (decide (c' ∈ z.cps.toList))) = _
  apply propext
  constructor
  · rintro ⟨c', e, q⟩
    have : c = c' := by simpa using e
    subst this
    exact q
  · intro q
    exact ⟨c, rfl, q⟩
theorem l_sorted {vs : List AV} {h : AH} {Q : AQ} : bltR .sorted vs h Q = one vs fun x => sortedR x h Q := rfl
theorem l_dict {vs : List AV} {h : AH} {Q : AQ} : bltR .dict vs h Q = one vs fun x => dictR x h Q := rfl
theorem x_str {z : Str} {i : Int} {h : AH} {Q : AQ} : ixR (.str z) (.int i) h Q = (z.length ≤ sizeLine ∧ ∃ c, L2.atI z.cps.toList i = some c ∧ Q (.str ⟨#[c]⟩) h) := rfl
theorem v_str {z : Str} {h : AH} {K : List AV → (AH → Prop) → Prop} : itR (.str z) h K = K (z.cps.toList.map fun c => .str ⟨#[c]⟩) fun _ => True := rfl
theorem i_bl {c : Bool} {h : AH} {Q : AQ} : intR (.bl c) h Q = Q (.int (if c then 1 else 0)) h := rfl
theorem m_app {h : AH} {Q : AQ} {a : Addr} {xs : List AV} {y : AV} (e : h a = some (.lst xs)) (hl : xs.length < sizeLine) (q : Q .non (aupd h a (.lst (xs ++ [y])))) : mthR .append (.ref a) [y] h Q := ⟨xs, e, hl, q⟩
theorem ms_app {h : AH} {a : Addr} {xs : List AV} (e : h a = some (.lst xs)) : mthTy .append (.ref a) h := ⟨xs, e⟩
theorem eq_same {v w : AV} {h : AH} {R : Bool → Prop} (hv : AV.flat 50 v = true) (hw : AV.flat 50 w = true) (nv : ∀ a, v ≠ .ref a) (q : R (AV.eqv v w)) : eqR v w h R := by
  unfold eqR
  split
  · rename_i a b; exact absurd rfl (nv a)
  · exact ⟨hv, hw, q⟩
theorem eq_txt {s : Str} {h : AH} {R : Bool → Prop} (hs : PyData.strOk s = true) (q : R true) : eqR (.str s) (.str s) h R := by
  refine eq_same (by simpa [AV.flat] using hs) (by simpa [AV.flat] using hs) (fun a e => by cases e) ?_
  have : AV.eqv (.str s) (.str s) = true := by simp [AV.eqv]
  rw [this]
  exact q
theorem tu_tup {xs : List AV} {h : AH} {Q : AQ} : tupleR (.tup xs) h Q = Q (.tup xs) h := rfl
theorem tu_lst {a : Addr} {xs : List AV} {h : AH} {Q : AQ} (e : h a = some (.lst xs)) (q : Q (.tup xs) h) : tupleR (.ref a) h Q := ⟨xs, e, q⟩
theorem al_lst {a : Addr} {xs : List AV} {bs : List Bool} {h : AH} {Q : AQ} (e : h a = some (.lst xs)) (eb : bls? xs = some bs) (q : Q (.bl (bs.all id)) h) : allR (.ref a) h Q := ⟨xs, bs, e, eb, q⟩
theorem ms_get {a : Addr} {kvs} {h : AH} (e : h a = some (.dK kvs)) : mthTy .get (.ref a) h := ⟨kvs, e⟩
theorem m_get {x : AV} {vs : List AV} {h : AH} {Q : AQ} : mthR .get x vs h Q = two vs fun k d => getR x k d h Q := rfl
theorem get_dK {a : Addr} {k d : AV} {kvs} {k' : Key} {h : AH} {Q : AQ} (e : h a = some (.dK kvs)) (ek : k.toKey = some k') (q : Q ((dget kvs k').getD d) h) : getR (.ref a) k d h Q := ⟨kvs, k', ek, e, q⟩
theorem x_dK {a : Addr} {k v : AV} {kvs} {k' : Key} {h : AH} {Q : AQ} (e : h a = some (.dK kvs)) (ek : k.toKey = some k') (ev : dget kvs k' = some v) (q : Q v h) : ixR (.ref a) k h Q := .inr ⟨kvs, k', v, ek, e, ev, q⟩
theorem s2 : 2 ≤ sizeLine := by decide
theorem zero_le_size : 0 ≤ sizeLine := by decide
theorem sz1 : (1 ≤ sizeLine) = True := by decide
theorem sz3 : (3 ≤ sizeLine) = True := by decide
theorem sz4 : (4 ≤ sizeLine) = True := by decide
theorem sz5 : (5 ≤ sizeLine) = True := by decide
theorem sz6 : (6 ≤ sizeLine) = True := by decide
theorem sz7 : (7 ≤ sizeLine) = True := by decide
theorem sz8 : (8 ≤ sizeLine) = True := by decide
theorem sz9 : (9 ≤ sizeLine) = True := by decide
theorem sz10 : (10 ≤ sizeLine) = True := by decide
theorem sz11 : (11 ≤ sizeLine) = True := by decide
theorem sz12 : (12 ≤ sizeLine) = True := by decide
theorem sz13 : (13 ≤ sizeLine) = True := by decide
theorem sz14 : (14 ≤ sizeLine) = True := by decide
theorem sz15 : (15 ≤ sizeLine) = True := by decide
theorem sz16 : (16 ≤ sizeLine) = True := by decide
theorem sz17 : (17 ≤ sizeLine) = True := by decide
theorem sz18 : (18 ≤ sizeLine) = True := by decide
theorem sz19 : (19 ≤ sizeLine) = True := by decide
theorem sz20 : (20 ≤ sizeLine) = True := by decide
theorem sz21 : (21 ≤ sizeLine) = True := by decide
theorem sz22 : (22 ≤ sizeLine) = True := by decide
theorem sz23 : (23 ≤ sizeLine) = True := by decide
theorem sz24 : (24 ≤ sizeLine) = True := by decide
theorem sz25 : (25 ≤ sizeLine) = True := by decide
theorem sz26 : (26 ≤ sizeLine) = True := by decide
theorem sz27 : (27 ≤ sizeLine) = True := by decide
theorem sz28 : (28 ≤ sizeLine) = True := by decide
theorem sz29 : (29 ≤ sizeLine) = True := by decide
theorem sz30 : (30 ≤ sizeLine) = True := by decide
theorem sz31 : (31 ≤ sizeLine) = True := by decide
theorem sz32 : (32 ≤ sizeLine) = True := by decide
theorem sz33 : (33 ≤ sizeLine) = True := by decide
theorem sz34 : (34 ≤ sizeLine) = True := by decide
theorem sz35 : (35 ≤ sizeLine) = True := by decide
theorem sz36 : (36 ≤ sizeLine) = True := by decide
theorem sz37 : (37 ≤ sizeLine) = True := by decide
theorem sz38 : (38 ≤ sizeLine) = True := by decide
theorem sz39 : (39 ≤ sizeLine) = True := by decide
theorem sz40 : (40 ≤ sizeLine) = True := by decide
theorem len_small {n : Nat} (h : n ≤ 1000000) : n ≤ sizeLine := by
  have : (1000000 : Nat) ≤ sizeLine := by decide
  omega
end PL
open PL
local macro_rules | `(tactic| bv_omega) => `(tactic| simp only [b_nil', b_cons', aupd_same, aupd_aupd, q_glob, q_non, q_bl, q_int, q_str, q_var, q_tup, q_lst, q_bin, q_neg, q_not, q_cmp, q_chain, q_and, q_or, q_ifx, q_call, q_blt, q_isin, q_idx, q_slc, q_rev, q_mth, w_asg, w_slc, w_par, w_par3, w_expr, w_ret, w_retN, w_iff, w_raise, w_tri, w_pass, w_brk, w_cont, wpEs, wpT, wpAnd, wpOr, wpAndV, wpOrV, wpTs, wpI, v_tup, v_rl, sl_rl, sl_tup, g_varR, g_idxR, gs_nilR, gs_consR, wpP, wpH, b_add, b_addT, b_addS, b_sub, b_mul, b_fdiv, b_mod, b_pow, c_eq, c_ne, e_int, e_bl, e_str, c_lt, c_le, c_gt, c_ge, c_isN, c_isnotN, c_isB, c_isnotB, t_non, t_bl, t_int, t_str, t_tup, t_rl, hasTy,
  r_bl, r_non, r_int, r_tup, x_tup, x_rl, l_len, l_abs, l_int, l_tuple, l_list, l_all, l_any, l_sum, l_max, l_min, l_sorted, l_dict, n_str, c_ltS, c_inn, c_notin, in_str1, x_str, v_str, tu_tup, m_get, one_i, two_i, n_tup, n_rl, a_int, i_int, i_bl, at0, at1, at2, at3, at4,
  astart, List.map, List.length, List.length_cons, List.length_nil, List.replicate, List.cons_append, List.nil_append, Nat.reduceAdd, Nat.reduceSub, List.set_cons_zero, List.set_cons_succ, List.getElem?_cons_zero, List.getElem?_cons_succ, awipe,
  Option.some.injEq, AV.int.injEq, AV.bl.injEq, AV.tup.injEq, AV.str.injEq, AV.ref.injEq, exists_eq_left', exists_eq_left, endF_nx, endF_rt, endF_ex, Bool.not_true, Bool.not_false, if_true, if_false, Bool.true_eq_false, Bool.false_eq_true, reduceIte, reduceCtorEq, List.mem_cons, List.not_mem_nil, or_false, or_true, false_or, true_or, decide_true, decide_false, decide_eq_true_eq, Bool.or_true, Bool.or_false, Bool.true_or, Bool.false_or, false_and, and_false, true_and, and_true, exists_false, ne_eq, not_false_eq_true, not_true_eq_false, beq_self_eq_true, Bool.not_eq_true', decide_eq_false_iff_not, decide_not, Bool.not_not, s2, zero_le_size, sz1, sz3, sz4, sz5, sz6, sz7, sz8, sz9, sz10, sz11, sz12, sz13, sz14, sz15, sz16, sz17, sz18, sz19, sz20, sz21, sz22, sz23, sz24, sz25, sz26, sz27, sz28, sz29, sz30, sz31, sz32, sz33, sz34, sz35, sz36, sz37, sz38, sz39, sz40, Int.reduceEq, Int.reduceLT, Int.reduceLE])
namespace PL
open PySem PySem.Spec PyProof.Rows L2

section
variable {G : Pg} {n : Nat} {T : Tb} {sub : Nat → Nat → Bool} {C : ACall} (hC : CMono C)
include hC
theorem wp_whl {c : CE} {b : CS} {D : AEnds} (I : Nat → AEnv → AH → Prop) {m : Nat} {σ : AEnv} {h : AH} (h0 : I m σ h)
    (step : ∀ m σ h, I m σ h → wpT C T c σ h (fun r h1 => if r = true then wpB C T sub b { D with nx := fun σ' h' => ∃ m', m' < m ∧ I m' σ' h', ct := fun σ' h' => ∃ m', m' < m ∧ I m' σ' h', bk := D.nx } σ h1 else D.nx σ h1) (fun x h' => D.ex x σ h')) : wpS C T sub (.whl c b) D σ h := by
  have key : ∀ k m σ h, m < k → I m σ h → whlL (fun σ h k => wpT C T c σ h k (fun x h' => D.ex x σ h')) (fun nx σ h => wpB C T sub b { D with nx := nx, ct := nx, bk := D.nx } σ h) D.nx k σ h := by
    intro k
    induction k with
    | zero => intro m σ h l; omega
    | succ k ih =>
      intro m σ h l i
      refine wpT_mono hC c (fun r h1 q => ?_) (fun _ _ z => z) (step m σ h i)
      cases r with
      | false => exact q
      | true =>
        simp only [if_true] at q ⊢
        refine wpB_mono hC b ?_ q
        have up : ∀ σ' h', (∃ m', m' < m ∧ I m' σ' h') → Shs (whlL (fun σ h k => wpT C T c σ h k (fun x h' => D.ex x σ h')) (fun nx σ h => wpB C T sub b { D with nx := nx, ct := nx, bk := D.nx } σ h) D.nx k) σ' h' := by
          rintro σ' h' ⟨m', hm, i'⟩
          exact shs_i (ih m' σ' h' (by omega) i')
        exact ⟨up, fun _ _ z => z, fun _ _ z => z, up, fun _ _ _ z => z⟩
  exact ⟨m + 1, key (m + 1) m σ h (Nat.lt_succ_self m) h0⟩
theorem for_go {g : CE} {b : CS} {D : AEnds} {chk : AH → Prop} (I : List AV → AEnv → AH → Prop) (hz : ∀ σ h, I [] σ h → chk h ∧ D.nx σ h)
    (hs : ∀ x xs σ h, I (x :: xs) σ h → chk h ∧ wpG C T g x σ h fun σ2 h2 => wpB C T sub b { D with nx := I xs, ct := I xs, bk := D.nx } σ2 h2) :
    ∀ (xs : List AV) (σ : AEnv) (h : AH), I xs σ h → forL (fun x nx σ h => wpG C T g x σ h (fun σ2 h2 => wpB C T sub b { D with nx := nx, ct := nx, bk := D.nx } σ2 h2)) chk D.nx xs σ h
  | [], σ, h, i => hz σ h i
  | x :: xs, σ, h, i => by
    have q := hs x xs σ h i
    have up : ∀ σ' h', I xs σ' h' → Shs (forL (fun x nx σ h => wpG C T g x σ h (fun σ2 h2 => wpB C T sub b { D with nx := nx, ct := nx, bk := D.nx } σ2 h2)) chk D.nx xs) σ' h' := fun σ' h' i' => shs_i (for_go I hz hs xs σ' h' i')
    exact ⟨q.1, wpG_mono hC g (fun σ2 h2 q2 => by
      refine wpB_mono hC b ?_ q2
      exact ⟨up, fun _ _ z => z, fun _ _ z => z, up, fun _ _ _ z => z⟩) q.2⟩
theorem range_for {g : CE} {b : CS} {D : AEnds} {lo : Int} {σ : AEnv} {h : AH} {m : Nat} (I : Nat → AEnv → AH → Prop) (h0 : I m σ h) (hz : ∀ σ h, I 0 σ h → D.nx σ h)
    (hs : ∀ j σ h, j < m → I (j + 1) σ h → wpG C T g (.int (lo + ((m - (j + 1) : Nat) : Int))) σ h fun σ2 h2 => wpB C T sub b { D with nx := I j, ct := I j, bk := D.nx } σ2 h2) :
    forL (fun x nx σ h => wpG C T g x σ h (fun σ2 h2 => wpB C T sub b { D with nx := nx, ct := nx, bk := D.nx } σ2 h2)) (fun _ => True) D.nx (rangeL lo m) σ h := by
  have key : ∀ j, j ≤ m → ∀ σ h, I j σ h → forL (fun x nx σ h => wpG C T g x σ h (fun σ2 h2 => wpB C T sub b { D with nx := nx, ct := nx, bk := D.nx } σ2 h2)) (fun _ => True) D.nx (rangeL (lo + ((m - j : Nat) : Int)) j) σ h := by
    intro j
    induction j with
    | zero => intro _ σ h i; exact ⟨trivial, hz σ h i⟩
    | succ j ih =>
      intro hj σ h i
      refine ⟨trivial, wpG_mono hC g (fun σ2 h2 q => ?_) (hs j σ h (by omega) i)⟩
      have e : lo + ((m - (j + 1) : Nat) : Int) + 1 = lo + ((m - j : Nat) : Int) := by omega
      rw [e]
      have up : ∀ σ' h', I j σ' h' → Shs (forL (fun x nx σ h => wpG C T g x σ h (fun σ2 h2 => wpB C T sub b { D with nx := nx, ct := nx, bk := D.nx } σ2 h2)) (fun _ => True) D.nx (rangeL (lo + ((m - j : Nat) : Int)) j)) σ' h' := fun σ' h' i' => shs_i (ih (by omega) σ' h' i')
      refine wpB_mono hC b ?_ q
      exact ⟨up, fun _ _ z => z, fun _ _ z => z, up, fun _ _ _ z => z⟩
  have q := key m (Nat.le_refl m) σ h h0
  rw [Nat.sub_self] at q
  simpa using q
theorem for_r1 {g a : CE} {b : CS} {D : AEnds} {σ : AEnv} {h : AH} (q : wpE C T a σ h (fun x h1 => ∃ m : Nat, x = .int m ∧ m < 2 ^ 62 ∧ ∃ I : Nat → AEnv → AH → Prop, I m σ h1 ∧ (∀ σ h, I 0 σ h → D.nx σ h) ∧
      ∀ j σ h, j < m → I (j + 1) σ h → wpG C T g (.int ((m - (j + 1) : Nat) : Int)) σ h fun σ2 h2 => wpB C T sub b { D with nx := I j, ct := I j, bk := D.nx } σ2 h2) (fun x h' => D.ex x σ h')) : wpS C T sub (.forr g (.range1 a) b) D σ h := by
  refine wpE_mono hC a (fun x h1 q => ?_) (fun _ _ z => z) q
  obtain ⟨m, rfl, hm, I, i0, hz, hs⟩ := q
  refine ⟨m, rfl, by omega, by omega, ?_⟩
  refine range_for hC I (lo := 0) i0 hz (fun j σ h hj i => ?_)
  have q := hs j σ h hj i
  rw [Int.zero_add]
  exact q
theorem for_v {g a : CE} {b : CS} {D : AEnds} {σ : AEnv} {h : AH} (q : wpE C T a σ h (fun x h1 => itR x h1 fun xs chk => ∃ I : List AV → AEnv → AH → Prop, I xs σ h1 ∧ (∀ σ h, I [] σ h → chk h ∧ D.nx σ h) ∧
      ∀ x xs σ h, I (x :: xs) σ h → chk h ∧ wpG C T g x σ h fun σ2 h2 => wpB C T sub b { D with nx := I xs, ct := I xs, bk := D.nx } σ2 h2) (fun x h' => D.ex x σ h')) : wpS C T sub (.forr g (.val a) b) D σ h := by
  refine wpE_mono hC a (fun x h1 q => ?_) (fun _ _ z => z) q
  refine itR_mono (fun xs chk q => ?_) q
  obtain ⟨I, i0, hz, hs⟩ := q
  exact for_go hC I hz hs xs σ h1 i0
theorem lc_pure {D : Addr} {own : List Nat} {g ifs elt : CE} {chk fin : AH → Prop} {σ : AEnv} {h : AH} (F : AV → Option AV) (hc : ∀ acc, chk (aupd h D (.lst acc))) :
    ∀ (xs : List AV) (acc : List AV), acc.length + xs.length ≤ sizeLine →
    (∀ x ∈ xs, ∀ acc, wpG C T g x (awipe σ own) (aupd h D (.lst acc)) fun σ2 h2 => wpTs C T ifs σ2 h2 (fun b h3 => if b = true then wpE C T elt σ2 h3 (fun y h4 => F x = some y ∧ ALe (aupd h D (.lst acc)) h4) (fun _ _ => False) else F x = none ∧ ALe (aupd h D (.lst acc)) h3) fun _ _ => False) →
    fin (aupd h D (.lst (acc ++ xs.filterMap F))) →
    lcL D own (fun x σ h k => wpG C T g x σ h k) (fun σ h k => wpTs C T ifs σ h k fun _ _ => False) (fun σ h k => wpE C T elt σ h k fun _ _ => False) chk fin σ xs (aupd h D (.lst acc))
  | [], acc, hl, hs, hf => ⟨hc acc, by simpa using hf⟩
  | x :: xs, acc, hl, hs, hf => by
    refine ⟨hc acc, wpG_mono hC g (fun σ2 h2 q => wpTs_mono hC ifs (fun b h3 q => ?_) (fun _ _ z => z) q) (hs x List.mem_cons_self acc)⟩
    cases b with
    | true =>
      simp only [if_true] at q ⊢
      refine wpE_mono hC elt (fun y h4 q => ?_) (fun _ _ z => z) q
      obtain ⟨q1, q2⟩ := q
      have e4 : h4 D = some (.lst acc) := q2 D _ (by unfold aupd; simp)
      refine ⟨acc, e4, by rw [List.length_cons] at hl; omega, aupd h D (.lst (acc ++ [y])), ?_, ?_⟩
      · intro a o eo
        unfold aupd at eo ⊢
        by_cases ha : a = D
        · simp [ha] at eo ⊢; exact eo
        · simp [ha] at eo ⊢
          exact q2 a o (by unfold aupd; simp [ha]; exact eo)
      · refine lc_pure F hc xs (acc ++ [y]) (by rw [List.length_append]; rw [List.length_cons] at hl; simp; omega) (fun x' hx' => hs x' (List.mem_cons_of_mem _ hx')) ?_
        rw [List.filterMap_cons, q1] at hf
        simpa using hf
    | false =>
      simp only [Bool.false_eq_true, if_false] at q ⊢
      refine ⟨_, q.2, ?_⟩
      refine lc_pure F hc xs acc (by rw [List.length_cons] at hl; omega) (fun x' hx' => hs x' (List.mem_cons_of_mem _ hx')) ?_
      rw [List.filterMap_cons, q.1] at hf
      exact hf
theorem comp_pure {own : List Nat} {g it ifs elt : CE} {σ : AEnv} {h : AH} {Q : AQ} {E : AXQ} (q : wpI C T it σ h (fun xs chk h1 => xs.length ≤ sizeLine ∧ (∀ D acc, h1 D = none → chk (aupd h1 D (.lst acc))) ∧ ∃ F : AV → Option AV,
      (∀ D, h1 D = none → ∀ x ∈ xs, ∀ acc, wpG C T g x (awipe σ own) (aupd h1 D (.lst acc)) fun σ2 h2 => wpTs C T ifs σ2 h2 (fun b h3 => if b = true then wpE C T elt σ2 h3 (fun y h4 => F x = some y ∧ ALe (aupd h1 D (.lst acc)) h4) (fun _ _ => False) else F x = none ∧ ALe (aupd h1 D (.lst acc)) h3) fun _ _ => False) ∧
      ∀ D, h1 D = none → Q (.ref D) (aupd h1 D (.lst (xs.filterMap F)))) E) : wpE C T (.comp own g it ifs elt) σ h Q E := by
  show wpI C T it σ h _ E
  refine wpI_mono hC it (fun xs chk h1 q => ?_) (fun _ _ z => z) q
  obtain ⟨hl, hc, F, hs, hf⟩ := q
  intro D hD
  exact lc_pure hC F (fun acc => hc D acc hD) xs [] (by simpa using hl) (hs D hD) (by simpa using hf D hD)
end
end PL

namespace PL
def c0_is_integer : CS := .cons (.ret (.and (.cons (.isin (.var 0) [.int]) (.cons (.not (.isin (.var 0) [.bool])) .nil)))) .nil
def c1_divisor : CS := .cons (.whl (.cmp .ne (.var 1) (.int 0)) (.cons (.par 0 1 (.var 1) (.bin .mod (.blt .int (.cons (.var 0) .nil)) (.var 1))) .nil)) (.cons (.ret (.var 0)) .nil)
def c2_is_fraction : CS := .cons (.iff (.or (.cons (.not (.tru (.isin (.var 0) [.tuple]))) (.cons (.cmp .ne (.blt .len (.cons (.var 0) .nil)) (.int 2)) (.cons (.not (.tru (.call 0 (.cons (.idx (.var 0) (.int 0)) .nil)))) (.cons (.not (.tru (.call 0 (.cons (.idx (.var 0) (.int 1)) .nil)))) .nil))))) (.cons (.ret (.bl false)) .nil) .nil) (.cons (.ret (.and (.cons (.cmp .gt (.idx (.var 0) (.int 1)) (.int 0)) (.cons (.cmp .eq (.call 1 (.cons (.blt .abs (.cons (.idx (.var 0) (.int 0)) .nil)) (.cons (.idx (.var 0) (.int 1)) .nil))) (.int 1)) .nil)))) .nil)
def c3_made : CS := .cons (.asg (.var 2) (.call 1 (.cons (.blt .abs (.cons (.var 0) .nil)) (.cons (.blt .abs (.cons (.var 1) .nil)) .nil)))) (.cons (.iff (.cmp .lt (.var 1) (.int 0)) (.cons (.asg (.var 2) (.neg (.var 2))) .nil) .nil) (.cons (.ret (.tup (.cons (.bin .fdiv (.var 0) (.var 2)) (.cons (.bin .fdiv (.var 1) (.var 2)) .nil)))) .nil))
def c4_check_fraction : CS := .cons (.iff (.not (.tru (.call 2 (.cons (.var 0) .nil)))) (.cons (.raise 0 .nil) .nil) .nil) .nil
def c17_fraction : CS := .cons (.iff (.or (.cons (.not (.tru (.call 0 (.cons (.var 0) .nil)))) (.cons (.not (.tru (.call 0 (.cons (.var 1) .nil)))) (.cons (.cmp .eq (.var 1) (.int 0)) .nil)))) (.cons (.raise 0 .nil) .nil) .nil) (.cons (.ret (.call 3 (.cons (.var 0) (.cons (.var 1) .nil)))) .nil)
def c5_raw_plus : CS := .cons (.ret (.call 3 (.cons (.bin .add (.bin .mul (.idx (.var 0) (.int 0)) (.idx (.var 1) (.int 1))) (.bin .mul (.idx (.var 1) (.int 0)) (.idx (.var 0) (.int 1)))) (.cons (.bin .mul (.idx (.var 0) (.int 1)) (.idx (.var 1) (.int 1))) .nil)))) .nil
def c6_raw_less : CS := .cons (.ret (.call 3 (.cons (.bin .sub (.bin .mul (.idx (.var 0) (.int 0)) (.idx (.var 1) (.int 1))) (.bin .mul (.idx (.var 1) (.int 0)) (.idx (.var 0) (.int 1)))) (.cons (.bin .mul (.idx (.var 0) (.int 1)) (.idx (.var 1) (.int 1))) .nil)))) .nil
def c7_raw_times : CS := .cons (.ret (.call 3 (.cons (.bin .mul (.idx (.var 0) (.int 0)) (.idx (.var 1) (.int 0))) (.cons (.bin .mul (.idx (.var 0) (.int 1)) (.idx (.var 1) (.int 1))) .nil)))) .nil
def c8_raw_by : CS := .cons (.ret (.call 3 (.cons (.bin .mul (.idx (.var 0) (.int 0)) (.idx (.var 1) (.int 1))) (.cons (.bin .mul (.idx (.var 0) (.int 1)) (.idx (.var 1) (.int 0))) .nil)))) .nil
def c13_plus : CS := .cons (.expr (.call 4 (.cons (.var 0) .nil))) (.cons (.expr (.call 4 (.cons (.var 1) .nil))) (.cons (.ret (.call 5 (.cons (.var 0) (.cons (.var 1) .nil)))) .nil))
def c14_less : CS := .cons (.expr (.call 4 (.cons (.var 0) .nil))) (.cons (.expr (.call 4 (.cons (.var 1) .nil))) (.cons (.ret (.call 6 (.cons (.var 0) (.cons (.var 1) .nil)))) .nil))
def c15_times : CS := .cons (.expr (.call 4 (.cons (.var 0) .nil))) (.cons (.expr (.call 4 (.cons (.var 1) .nil))) (.cons (.ret (.call 7 (.cons (.var 0) (.cons (.var 1) .nil)))) .nil))
def c16_by : CS := .cons (.expr (.call 4 (.cons (.var 0) .nil))) (.cons (.expr (.call 4 (.cons (.var 1) .nil))) (.cons (.iff (.cmp .eq (.idx (.var 1) (.int 0)) (.int 0)) (.cons (.raise 1 .nil) .nil) .nil) (.cons (.ret (.call 8 (.cons (.var 0) (.cons (.var 1) .nil)))) .nil)))
def c20_law_hand : CS := .cons (.slc 1 (.comp [2] (.var 2) (.val (.slc (.var 0) .nil (.cons (.int 63) .nil))) .nil (.blt .abs (.cons (.blt .int (.cons (.var 2) .nil)) .nil)))) (.cons (.ret (.lst (.cons (.var 1) (.cons (.int 0) (.cons (.int 0) (.cons (.bin .add (.int 83) (.bin .mul (.int 7) (.blt .len (.cons (.var 1) .nil)))) (.cons (.int 0) .nil))))))) .nil)
def c10_law_draw : CS := .cons (.iff (.and (.cons (.cmp .eq (.idx (.var 0) (.int 2)) (.int 0)) (.cons (.cmp .lt (.idx (.var 0) (.int 1)) (.blt .len (.cons (.idx (.var 0) (.int 0)) .nil))) .nil))) (.cons (.asg (.var 2) (.idx (.idx (.var 0) (.int 0)) (.idx (.var 0) (.int 1)))) (.cons (.asg (.idx (.var 0) (.int 1)) (.bin .add (.idx (.var 0) (.int 1)) (.int 1))) (.cons (.asg (.idx (.var 0) (.int 3)) (.bin .mod (.blt .int (.cons (.bin .add (.bin .add (.bin .mul (.idx (.var 0) (.int 3)) (.int 69621)) (.var 2)) (.int 29)) .nil)) (.int 2147483629))) (.cons (.iff (.cmp .ge (.var 2) (.bin .pow (.int 10) (.int 18))) (.cons (.asg (.idx (.var 0) (.int 2)) (.var 2)) .nil) .nil) .nil)))) .nil) (.cons (.iff (.cmp .gt (.idx (.var 0) (.int 2)) (.int 0)) (.cons (.asg (.var 3) (.bin .mod (.blt .int (.cons (.idx (.var 0) (.int 2)) .nil)) (.var 1))) (.cons (.asg (.idx (.var 0) (.int 2)) (.bin .fdiv (.idx (.var 0) (.int 2)) (.var 1))) (.cons (.ret (.var 3)) .nil))) .nil) (.cons (.asg (.idx (.var 0) (.int 4)) (.bin .add (.idx (.var 0) (.int 4)) (.int 1))) (.cons (.asg (.var 4) (.bin .mod (.blt .int (.cons (.bin .mul (.blt .int (.cons (.bin .add (.idx (.var 0) (.int 3)) (.bin .mul (.int 7919) (.idx (.var 0) (.int 4)))) .nil)) (.int 48271)) .nil)) (.int 2147483647))) (.cons (.asg (.var 4) (.bin .mod (.blt .int (.cons (.bin .mul (.var 4) (.bin .add (.bin .fdiv (.var 4) (.int 1009)) (.int 69621))) .nil)) (.int 2147483647))) (.cons (.asg (.var 4) (.bin .mod (.blt .int (.cons (.bin .mul (.var 4) (.bin .add (.bin .fdiv (.var 4) (.int 2003)) (.int 40692))) .nil)) (.int 2147483399))) (.cons (.ret (.bin .mod (.blt .int (.cons (.bin .fdiv (.var 4) (.int 16)) .nil)) (.var 1))) .nil))))))
def c9_law_is : CS := .cons (.iff (.tru (.isin (.var 1) [.tuple, .list])) (.cons (.iff (.cmp .ne (.isin (.var 0) [.tuple]) (.isin (.var 1) [.tuple])) (.cons (.ret (.bl false)) .nil) .nil) (.cons (.iff (.or (.cons (.cmp .ne (.isin (.var 0) [.list]) (.isin (.var 1) [.list])) (.cons (.cmp .ne (.blt .len (.cons (.var 0) .nil)) (.blt .len (.cons (.var 1) .nil))) .nil))) (.cons (.ret (.bl false)) .nil) .nil) (.cons (.ret (.blt .all (.cons (.comp [2, 3] (.tup (.cons (.var 2) (.cons (.var 3) .nil))) (.zip (.var 0) (.var 1)) .nil (.call 9 (.cons (.var 2) (.cons (.var 3) .nil)))) .nil))) .nil))) .nil) (.cons (.iff (.or (.cons (.cmp .is (.var 1) .non) (.cons (.cmp .is (.var 0) .non) .nil))) (.cons (.ret (.and (.cons (.cmp .is (.var 1) .non) (.cons (.cmp .is (.var 0) .non) .nil)))) .nil) .nil) (.cons (.iff (.cmp .ne (.isin (.var 0) [.bool]) (.isin (.var 1) [.bool])) (.cons (.ret (.bl false)) .nil) .nil) (.cons (.ret (.and (.cons (.cmp .eq (.isin (.var 0) [.str]) (.isin (.var 1) [.str])) (.cons (.cmp .eq (.var 0) (.var 1)) .nil)))) .nil)))
def c11_law_low : CS := .cons (.asg (.var 2) (.blt .abs (.cons (.var 0) .nil))) (.cons (.asg (.var 3) (.blt .abs (.cons (.var 1) .nil))) (.cons (.whl (.cmp .gt (.var 3) (.int 0)) (.cons (.asg (.var 4) (.bin .mod (.blt .int (.cons (.var 2) .nil)) (.var 3))) (.cons (.asg (.var 2) (.var 3)) (.cons (.asg (.var 3) (.var 4)) .nil)))) (.cons (.iff (.cmp .lt (.var 1) (.int 0)) (.cons (.asg (.var 2) (.bin .sub (.int 0) (.var 2))) .nil) .nil) (.cons (.ret (.tup (.cons (.bin .fdiv (.var 0) (.var 2)) (.cons (.bin .fdiv (.var 1) (.var 2)) .nil)))) .nil))))
def c12_law_great : CS := .cons (.asg (.var 2) (.int 0)) (.cons (.forr (.var 3) (.range1 (.bin .add (.int 1) (.call 10 (.cons (.var 0) (.cons (.var 1) .nil))))) (.cons (.asg (.var 2) (.bin .add (.bin .mul (.var 2) (.int 10)) (.call 10 (.cons (.var 0) (.cons (.int 10) .nil))))) .nil)) (.cons (.ret (.bin .mul (.var 2) (.idx (.lst (.cons (.int 1) (.cons (.bin .sub (.int 0) (.int 1)) .nil))) (.call 10 (.cons (.var 0) (.cons (.int 2) .nil)))))) .nil))
def c21_law_share : CS := .cons (.ret (.call 11 (.cons (.call 12 (.cons (.var 0) (.cons (.var 1) .nil))) (.cons (.bin .add (.int 1) (.blt .abs (.cons (.call 12 (.cons (.var 0) (.cons (.var 1) .nil))) .nil))) .nil)))) .nil
def c26_is_within : CS := .cons (.ret (.and (.cons (.call 0 (.cons (.var 0) .nil)) (.cons (.chain .le .le (.var 1) (.var 0) (.var 2)) .nil)))) .nil
def c24_raw_at_most : CS := .cons (.ret (.cmp .le (.bin .mul (.idx (.var 0) (.int 0)) (.idx (.var 1) (.int 1))) (.bin .mul (.idx (.var 1) (.int 0)) (.idx (.var 0) (.int 1))))) .nil
def c28_at_most : CS := .cons (.expr (.call 4 (.cons (.var 0) .nil))) (.cons (.expr (.call 4 (.cons (.var 1) .nil))) (.cons (.ret (.call 24 (.cons (.var 0) (.cons (.var 1) .nil)))) .nil))
def c25_raw_power : CS := .cons (.iff (.cmp .lt (.var 1) (.int 0)) (.cons (.ret (.call 25 (.cons (.call 8 (.cons (.glob 4) (.cons (.var 0) .nil))) (.cons (.neg (.var 1)) .nil)))) .nil) .nil) (.cons (.par3 2 3 4 (.glob 4) (.var 1) (.var 0)) (.cons (.whl (.cmp .gt (.var 3) (.int 0)) (.cons (.iff (.cmp .eq (.bin .mod (.blt .int (.cons (.var 3) .nil)) (.int 2)) (.int 1)) (.cons (.asg (.var 2) (.call 7 (.cons (.var 2) (.cons (.var 4) .nil)))) .nil) .nil) (.cons (.asg (.var 3) (.bin .fdiv (.var 3) (.int 2))) (.cons (.asg (.var 4) (.ifx (.cmp .gt (.var 3) (.int 0)) (.call 7 (.cons (.var 4) (.cons (.var 4) .nil))) (.var 4))) .nil)))) (.cons (.ret (.var 2)) .nil)))
def c27_power_of : CS := .cons (.expr (.call 4 (.cons (.var 0) .nil))) (.cons (.iff (.not (.tru (.call 26 (.cons (.var 1) (.cons (.neg (.int 100)) (.cons (.int 100) .nil)))))) (.cons (.raise 2 .nil) .nil) .nil) (.cons (.iff (.and (.cons (.cmp .eq (.idx (.var 0) (.int 0)) (.int 0)) (.cons (.cmp .lt (.var 1) (.int 0)) .nil))) (.cons (.raise 1 .nil) .nil) .nil) (.cons (.ret (.call 25 (.cons (.var 0) (.cons (.var 1) .nil)))) .nil)))
def c34_is_name : CS := .cons (.ret (.and (.cons (.isin (.var 0) [.str]) (.cons (.chain .le .le (.int 1) (.blt .len (.cons (.var 0) .nil)) (.glob 0)) (.cons (.blt .all (.cons (.comp [1] (.var 1) (.val (.var 0)) .nil (.cmp .inn (.var 1) (.glob 1))) .nil)) .nil))))) .nil
def c35_are_named_pairs : CS := .cons (.iff (.not (.tru (.isin (.var 0) [.tuple]))) (.cons (.ret (.bl false)) .nil) .nil) (.cons (.iff (.not (.tru (.blt .all (.cons (.comp [2] (.var 2) (.val (.var 0)) .nil (.and (.cons (.isin (.var 2) [.tuple]) (.cons (.cmp .eq (.blt .len (.cons (.var 2) .nil)) (.int 2)) (.cons (.call 34 (.cons (.idx (.var 2) (.int 0)) .nil)) .nil))))) .nil)))) (.cons (.ret (.bl false)) .nil) .nil) (.cons (.ret (.blt .all (.cons (.comp [1] (.var 1) (.range1 (.bin .sub (.blt .len (.cons (.var 0) .nil)) (.int 1))) .nil (.cmp .lt (.idx (.idx (.var 0) (.var 1)) (.int 0)) (.idx (.idx (.var 0) (.bin .add (.var 1) (.int 1))) (.int 0)))) .nil))) .nil))
def c36_is_dimension : CS := .cons (.ret (.and (.cons (.call 35 (.cons (.var 0) .nil)) (.cons (.blt .all (.cons (.comp [1, 2] (.tup (.cons (.var 1) (.cons (.var 2) .nil))) (.val (.var 0)) .nil (.and (.cons (.call 0 (.cons (.var 2) .nil)) (.cons (.cmp .ne (.var 2) (.int 0)) .nil)))) .nil)) .nil)))) .nil
def c37_check_dimension : CS := .cons (.iff (.not (.tru (.call 36 (.cons (.var 0) .nil)))) (.cons (.raise 3 .nil) .nil) .nil) .nil
def c38_raw_together : CS := .cons (.asg (.var 3) (.blt .dict (.cons (.var 0) .nil))) (.cons (.forr (.tup (.cons (.var 4) (.cons (.var 5) .nil))) (.val (.var 1)) (.cons (.asg (.idx (.var 3) (.var 4)) (.bin .add (.mth .get (.var 3) (.cons (.var 4) (.cons (.int 0) .nil))) (.bin .mul (.var 2) (.var 5)))) .nil)) (.cons (.ret (.blt .tuple (.cons (.comp [4] (.var 4) (.val (.blt .sorted (.cons (.var 3) .nil))) (.cons (.cmp .ne (.idx (.var 3) (.var 4)) (.int 0)) .nil) (.tup (.cons (.var 4) (.cons (.idx (.var 3) (.var 4)) .nil)))) .nil))) .nil))
def c42_together : CS := .cons (.expr (.call 37 (.cons (.var 0) .nil))) (.cons (.expr (.call 37 (.cons (.var 1) .nil))) (.cons (.ret (.call 38 (.cons (.var 0) (.cons (.var 1) (.cons (.int 1) .nil))))) .nil))
def c43_apart : CS := .cons (.expr (.call 37 (.cons (.var 0) .nil))) (.cons (.expr (.call 37 (.cons (.var 1) .nil))) (.cons (.ret (.call 38 (.cons (.var 0) (.cons (.var 1) (.cons (.neg (.int 1)) .nil))))) .nil))
def c39_raw_raised : CS := .cons (.ret (.blt .tuple (.cons (.comp [2, 3] (.tup (.cons (.var 2) (.cons (.var 3) .nil))) (.val (.var 0)) (.cons (.cmp .ne (.var 1) (.int 0)) .nil) (.tup (.cons (.var 2) (.cons (.bin .mul (.var 3) (.var 1)) .nil)))) .nil))) .nil
def c44_raised : CS := .cons (.expr (.call 37 (.cons (.var 0) .nil))) (.cons (.iff (.not (.tru (.call 26 (.cons (.var 1) (.cons (.neg (.glob 2)) (.cons (.glob 2) .nil)))))) (.cons (.raise 2 .nil) .nil) .nil) (.cons (.ret (.call 39 (.cons (.var 0) (.cons (.var 1) .nil)))) .nil))
def c40_are_dimensions : CS := .cons (.ret (.and (.cons (.isin (.var 0) [.tuple]) (.cons (.blt .all (.cons (.comp [1] (.var 1) (.val (.var 0)) .nil (.call 36 (.cons (.var 1) .nil))) .nil)) .nil)))) .nil
def c41_raw_bases : CS := .cons (.asg (.var 1) .dct0) (.cons (.forr (.var 2) (.val (.var 0)) (.cons (.forr (.tup (.cons (.var 3) (.cons (.var 4) .nil))) (.val (.var 2)) (.cons (.asg (.idx (.var 1) (.var 3)) (.bl true)) .nil)) .nil)) (.cons (.ret (.blt .sorted (.cons (.var 1) .nil))) .nil))
def c45_bases_of : CS := .cons (.iff (.not (.tru (.call 40 (.cons (.var 0) .nil)))) (.cons (.raise 4 .nil) .nil) .nil) (.cons (.ret (.blt .tuple (.cons (.call 41 (.cons (.var 0) .nil)) .nil))) .nil)
def c48_law_names : CS := .cons (.asg (.var 2) (.str "abcdefghijklmnopqrstuvwxyz")) (.cons (.asg (.var 3) .dct0) (.cons (.forr (.var 4) (.range1 (.var 1)) (.cons (.asg (.var 5) (.idx (.var 2) (.call 10 (.cons (.var 0) (.cons (.int 26) .nil))))) (.cons (.forr (.var 4) (.range1 (.call 10 (.cons (.var 0) (.cons (.int 8) .nil)))) (.cons (.asg (.var 5) (.bin .add (.var 5) (.idx (.var 2) (.call 10 (.cons (.var 0) (.cons (.int 26) .nil)))))) .nil)) (.cons (.asg (.idx (.var 3) (.var 5)) (.bl true)) .nil)))) (.cons (.ret (.blt .sorted (.cons (.var 3) .nil))) .nil)))
def c49_law_size : CS := .cons (.asg (.var 3) (.lst .nil)) (.cons (.forr (.var 4) (.val (.var 1)) (.cons (.iff (.cmp .eq (.call 10 (.cons (.var 0) (.cons (.int 2) .nil))) (.int 0)) (.cons (.asg (.var 5) (.bin .sub (.call 10 (.cons (.var 0) (.cons (.bin .mul (.int 2) (.var 2)) .nil))) (.var 2))) (.cons (.expr (.mth .append (.var 3) (.cons (.tup (.cons (.var 4) (.cons (.bin .add (.var 5) (.blt .int (.cons (.cmp .ge (.var 5) (.int 0)) .nil))) .nil))) .nil))) .nil)) .nil) .nil)) (.cons (.ret (.blt .tuple (.cons (.var 3) .nil))) .nil))
def c46_law_added : CS := .cons (.asg (.var 3) (.blt .dict (.cons (.var 0) .nil))) (.cons (.forr (.tup (.cons (.var 4) (.cons (.var 5) .nil))) (.val (.var 1)) (.cons (.asg (.idx (.var 3) (.var 4)) (.bin .add (.mth .get (.var 3) (.cons (.var 4) (.cons (.int 0) .nil))) (.bin .mul (.var 2) (.var 5)))) .nil)) (.cons (.ret (.blt .tuple (.cons (.comp [4] (.var 4) (.val (.blt .sorted (.cons (.var 3) .nil))) (.cons (.cmp .ne (.idx (.var 3) (.var 4)) (.int 0)) .nil) (.tup (.cons (.var 4) (.cons (.idx (.var 3) (.var 4)) .nil)))) .nil))) .nil))
def c63_are_weights : CS := .cons (.ret (.and (.cons (.call 35 (.cons (.var 0) .nil)) (.cons (.blt .all (.cons (.comp [1, 2] (.tup (.cons (.var 1) (.cons (.var 2) .nil))) (.val (.var 0)) .nil (.and (.cons (.call 2 (.cons (.var 2) .nil)) (.cons (.cmp .ne (.idx (.var 2) (.int 0)) (.int 0)) .nil)))) .nil)) .nil)))) .nil
def c64_raw_weighs : CS := .cons (.par 2 3 (.blt .dict (.cons (.var 0) .nil)) (.glob 5)) (.cons (.forr (.tup (.cons (.var 4) (.cons (.var 5) .nil))) (.val (.var 1)) (.cons (.asg (.var 3) (.call 5 (.cons (.var 3) (.cons (.call 7 (.cons (.mth .get (.var 2) (.cons (.var 4) (.cons (.glob 5) .nil))) (.cons (.tup (.cons (.var 5) (.cons (.int 1) .nil))) .nil))) .nil)))) .nil)) (.cons (.ret (.var 3)) .nil))
def c65_weighs : CS := .cons (.iff (.not (.tru (.call 63 (.cons (.var 0) .nil)))) (.cons (.raise 6 .nil) .nil) .nil) (.cons (.expr (.call 37 (.cons (.var 1) .nil))) (.cons (.ret (.call 64 (.cons (.var 0) (.cons (.var 1) .nil)))) .nil))
def c67_law_weighed : CS := .cons (.asg (.var 2) (.blt .dict (.cons (.var 0) .nil))) (.cons (.asg (.var 3) (.tup (.cons (.int 0) (.cons (.int 1) .nil)))) (.cons (.forr (.tup (.cons (.var 4) (.cons (.var 5) .nil))) (.val (.var 1)) (.cons (.asg (.var 6) (.mth .get (.var 2) (.cons (.var 4) (.cons (.tup (.cons (.int 0) (.cons (.int 1) .nil))) .nil)))) (.cons (.asg (.var 3) (.call 11 (.cons (.bin .add (.bin .mul (.idx (.var 3) (.int 0)) (.idx (.var 6) (.int 1))) (.bin .mul (.bin .mul (.var 5) (.idx (.var 6) (.int 0))) (.idx (.var 3) (.int 1)))) (.cons (.bin .mul (.idx (.var 3) (.int 1)) (.idx (.var 6) (.int 1))) .nil)))) .nil))) (.cons (.ret (.var 3)) .nil)))
def c53_is_scale : CS := .cons (.ret (.and (.cons (.call 35 (.cons (.var 0) .nil)) (.cons (.blt .all (.cons (.comp [1, 2] (.tup (.cons (.var 1) (.cons (.var 2) .nil))) (.val (.var 0)) .nil (.and (.cons (.call 2 (.cons (.var 2) .nil)) (.cons (.cmp .gt (.idx (.var 2) (.int 0)) (.int 0)) .nil)))) .nil)) .nil)))) .nil
def c54_check_scale : CS := .cons (.iff (.not (.tru (.call 53 (.cons (.var 0) .nil)))) (.cons (.raise 5 .nil) .nil) .nil) .nil
def c55_raw_scaled : CS := .cons (.par 2 3 (.blt .dict (.cons (.var 0) .nil)) (.glob 4)) (.cons (.forr (.tup (.cons (.var 4) (.cons (.var 5) .nil))) (.val (.var 1)) (.cons (.asg (.var 3) (.call 7 (.cons (.var 3) (.cons (.call 25 (.cons (.mth .get (.var 2) (.cons (.var 4) (.cons (.glob 4) .nil))) (.cons (.var 5) .nil))) .nil)))) .nil)) (.cons (.ret (.var 3)) .nil))
def c56_scaled : CS := .cons (.expr (.call 54 (.cons (.var 0) .nil))) (.cons (.expr (.call 37 (.cons (.var 1) .nil))) (.cons (.iff (.not (.tru (.blt .all (.cons (.comp [2, 3] (.tup (.cons (.var 2) (.cons (.var 3) .nil))) (.val (.var 1)) .nil (.call 26 (.cons (.var 3) (.cons (.neg (.glob 3)) (.cons (.glob 3) .nil))))) .nil)))) (.cons (.raise 2 .nil) .nil) .nil) (.cons (.ret (.call 55 (.cons (.var 0) (.cons (.var 1) .nil)))) .nil)))
def c94_is_plain_dimension : CS := .cons (.iff (.or (.cons (.not (.tru (.call 36 (.cons (.var 0) .nil)))) (.cons (.cmp .gt (.blt .len (.cons (.var 0) .nil)) (.glob 7)) .nil))) (.cons (.ret (.bl false)) .nil) .nil) (.cons (.ret (.blt .all (.cons (.comp [1, 2] (.tup (.cons (.var 1) (.cons (.var 2) .nil))) (.val (.var 0)) .nil (.call 26 (.cons (.var 2) (.cons (.neg (.glob 8)) (.cons (.glob 8) .nil))))) .nil))) .nil)
def c145_is_told_unit : CS := .cons (.iff (.or (.cons (.not (.tru (.isin (.var 0) [.tuple]))) (.cons (.cmp .ne (.blt .len (.cons (.var 0) .nil)) (.int 2)) .nil))) (.cons (.ret (.bl false)) .nil) .nil) (.cons (.ret (.and (.cons (.call 2 (.cons (.idx (.var 0) (.int 0)) .nil)) (.cons (.cmp .gt (.idx (.idx (.var 0) (.int 0)) (.int 0)) (.int 0)) (.cons (.call 94 (.cons (.idx (.var 0) (.int 1)) .nil)) .nil))))) .nil)
def c146_is_system : CS := .cons (.iff (.or (.cons (.not (.tru (.call 35 (.cons (.var 0) .nil)))) (.cons (.not (.chain .le .le (.int 1) (.blt .len (.cons (.var 0) .nil)) (.glob 19))) .nil))) (.cons (.ret (.bl false)) .nil) .nil) (.cons (.ret (.blt .all (.cons (.comp [1, 2] (.tup (.cons (.var 1) (.cons (.var 2) .nil))) (.val (.var 0)) .nil (.call 145 (.cons (.var 2) .nil))) .nil))) .nil)
def c147_check_system : CS := .cons (.iff (.not (.tru (.call 146 (.cons (.var 0) .nil)))) (.cons (.raise 11 .nil) .nil) .nil) .nil
def c148_raw_are_units : CS := .cons (.iff (.not (.tru (.call 35 (.cons (.var 1) .nil)))) (.cons (.ret (.bl false)) .nil) .nil) (.cons (.asg (.var 2) (.blt .dict (.cons (.var 0) .nil))) (.cons (.ret (.blt .all (.cons (.comp [3, 4] (.tup (.cons (.var 3) (.cons (.var 4) .nil))) (.val (.var 1)) .nil (.and (.cons (.cmp .inn (.var 3) (.var 2)) (.cons (.call 26 (.cons (.var 4) (.cons (.neg (.glob 8)) (.cons (.glob 8) .nil)))) (.cons (.cmp .ne (.var 4) (.int 0)) .nil))))) .nil))) .nil))
def c154_are_units : CS := .cons (.expr (.call 147 (.cons (.var 0) .nil))) (.cons (.ret (.call 148 (.cons (.var 0) (.cons (.var 1) .nil)))) .nil)
def c149_check_units : CS := .cons (.iff (.not (.tru (.call 148 (.cons (.var 0) (.cons (.var 1) .nil))))) (.cons (.raise 12 .nil) .nil) .nil) .nil
def c150_raw_factor : CS := .cons (.par 2 3 (.blt .dict (.cons (.var 0) .nil)) (.glob 4)) (.cons (.forr (.tup (.cons (.var 4) (.cons (.var 5) .nil))) (.val (.var 1)) (.cons (.asg (.var 3) (.call 7 (.cons (.var 3) (.cons (.call 25 (.cons (.idx (.idx (.var 2) (.var 4)) (.int 0)) (.cons (.var 5) .nil))) .nil)))) .nil)) (.cons (.ret (.var 3)) .nil))
def c151_raw_dimension : CS := .cons (.par 2 3 (.blt .dict (.cons (.var 0) .nil)) (.tup .nil)) (.cons (.forr (.tup (.cons (.var 4) (.cons (.var 5) .nil))) (.val (.var 1)) (.cons (.asg (.var 3) (.call 38 (.cons (.var 3) (.cons (.call 39 (.cons (.idx (.idx (.var 2) (.var 4)) (.int 1)) (.cons (.var 5) .nil))) (.cons (.int 1) .nil))))) .nil)) (.cons (.ret (.var 3)) .nil))
def c152_factor_of : CS := .cons (.expr (.call 147 (.cons (.var 0) .nil))) (.cons (.expr (.call 149 (.cons (.var 0) (.cons (.var 1) .nil)))) (.cons (.ret (.call 150 (.cons (.var 0) (.cons (.var 1) .nil)))) .nil))
def c153_dimension_in : CS := .cons (.expr (.call 147 (.cons (.var 0) .nil))) (.cons (.expr (.call 149 (.cons (.var 0) (.cons (.var 1) .nil)))) (.cons (.ret (.call 151 (.cons (.var 0) (.cons (.var 1) .nil)))) .nil))
def c155_law_system : CS := .cons (.asg (.var 2) (.lst .nil)) (.cons (.forr (.var 3) (.val (.call 48 (.cons (.var 0) (.cons (.bin .add (.int 1) (.call 10 (.cons (.var 0) (.cons (.int 8) .nil)))) .nil)))) (.cons (.asg (.var 4) (.call 11 (.cons (.bin .add (.int 1) (.call 10 (.cons (.var 0) (.cons (.int 9999) .nil)))) (.cons (.bin .add (.int 1) (.call 10 (.cons (.var 0) (.cons (.int 999) .nil)))) .nil)))) (.cons (.expr (.mth .append (.var 2) (.cons (.tup (.cons (.var 3) (.cons (.tup (.cons (.var 4) (.cons (.call 49 (.cons (.var 0) (.cons (.var 1) (.cons (.int 3) .nil)))) .nil))) .nil))) .nil))) .nil))) (.cons (.ret (.blt .tuple (.cons (.var 2) .nil))) .nil))
def c156_law_units : CS := .cons (.asg (.var 3) (.lst .nil)) (.cons (.forr (.tup (.cons (.var 4) (.cons (.var 5) .nil))) (.val (.var 1)) (.cons (.iff (.and (.cons (.cmp .eq (.call 10 (.cons (.var 0) (.cons (.int 2) .nil))) (.int 0)) (.cons (.cmp .lt (.blt .len (.cons (.var 3) .nil)) (.var 2)) .nil))) (.cons (.asg (.var 6) (.bin .sub (.call 10 (.cons (.var 0) (.cons (.int 6) .nil))) (.int 3))) (.cons (.expr (.mth .append (.var 3) (.cons (.tup (.cons (.var 4) (.cons (.bin .add (.var 6) (.blt .int (.cons (.cmp .ge (.var 6) (.int 0)) .nil))) .nil))) .nil))) .nil)) .nil) .nil)) (.cons (.ret (.blt .tuple (.cons (.var 3) .nil))) .nil))
def c157_law_factor : CS := .cons (.asg (.var 2) (.blt .dict (.cons (.var 0) .nil))) (.cons (.asg (.var 3) (.int 1)) (.cons (.asg (.var 4) (.int 1)) (.cons (.forr (.tup (.cons (.var 5) (.cons (.var 6) .nil))) (.val (.var 1)) (.cons (.asg (.var 7) (.idx (.idx (.var 2) (.var 5)) (.int 0))) (.cons (.forr (.var 8) (.range1 (.blt .abs (.cons (.var 6) .nil))) (.cons (.asg (.var 3) (.bin .mul (.var 3) (.idx (.var 7) (.blt .int (.cons (.cmp .lt (.var 6) (.int 0)) .nil))))) (.cons (.asg (.var 4) (.bin .mul (.var 4) (.idx (.var 7) (.blt .int (.cons (.cmp .gt (.var 6) (.int 0)) .nil))))) .nil))) .nil))) (.cons (.ret (.call 11 (.cons (.var 3) (.cons (.var 4) .nil)))) .nil))))
def c158_law_dimension : CS := .cons (.asg (.var 2) (.blt .dict (.cons (.var 0) .nil))) (.cons (.asg (.var 3) (.tup .nil)) (.cons (.forr (.tup (.cons (.var 4) (.cons (.var 5) .nil))) (.val (.var 1)) (.cons (.asg (.var 3) (.call 46 (.cons (.var 3) (.cons (.idx (.idx (.var 2) (.var 4)) (.int 1)) (.cons (.var 5) .nil))))) .nil)) (.cons (.ret (.var 3)) .nil)))
abbrev f0 : CF := ⟨1, 1, c0_is_integer⟩
abbrev f1 : CF := ⟨2, 2, c1_divisor⟩
abbrev f2 : CF := ⟨1, 1, c2_is_fraction⟩
abbrev f3 : CF := ⟨2, 3, c3_made⟩
abbrev f4 : CF := ⟨1, 1, c4_check_fraction⟩
abbrev f17 : CF := ⟨2, 2, c17_fraction⟩
abbrev f5 : CF := ⟨2, 2, c5_raw_plus⟩
abbrev f6 : CF := ⟨2, 2, c6_raw_less⟩
abbrev f7 : CF := ⟨2, 2, c7_raw_times⟩
abbrev f8 : CF := ⟨2, 2, c8_raw_by⟩
abbrev f13 : CF := ⟨2, 2, c13_plus⟩
abbrev f14 : CF := ⟨2, 2, c14_less⟩
abbrev f15 : CF := ⟨2, 2, c15_times⟩
abbrev f16 : CF := ⟨2, 2, c16_by⟩
abbrev f20 : CF := ⟨1, 3, c20_law_hand⟩
abbrev f10 : CF := ⟨2, 5, c10_law_draw⟩
abbrev f9 : CF := ⟨2, 4, c9_law_is⟩
abbrev f11 : CF := ⟨2, 5, c11_law_low⟩
abbrev f12 : CF := ⟨2, 4, c12_law_great⟩
abbrev f21 : CF := ⟨2, 2, c21_law_share⟩
abbrev f26 : CF := ⟨3, 3, c26_is_within⟩
abbrev f24 : CF := ⟨2, 2, c24_raw_at_most⟩
abbrev f28 : CF := ⟨2, 2, c28_at_most⟩
abbrev f25 : CF := ⟨2, 5, c25_raw_power⟩
abbrev f27 : CF := ⟨2, 2, c27_power_of⟩
abbrev f34 : CF := ⟨1, 2, c34_is_name⟩
abbrev f35 : CF := ⟨1, 3, c35_are_named_pairs⟩
abbrev f36 : CF := ⟨1, 3, c36_is_dimension⟩
abbrev f37 : CF := ⟨1, 1, c37_check_dimension⟩
abbrev f38 : CF := ⟨3, 6, c38_raw_together⟩
abbrev f42 : CF := ⟨2, 2, c42_together⟩
abbrev f43 : CF := ⟨2, 2, c43_apart⟩
abbrev f39 : CF := ⟨2, 4, c39_raw_raised⟩
abbrev f44 : CF := ⟨2, 2, c44_raised⟩
abbrev f40 : CF := ⟨1, 2, c40_are_dimensions⟩
abbrev f41 : CF := ⟨1, 5, c41_raw_bases⟩
abbrev f45 : CF := ⟨1, 1, c45_bases_of⟩
abbrev f48 : CF := ⟨2, 6, c48_law_names⟩
abbrev f49 : CF := ⟨3, 6, c49_law_size⟩
abbrev f46 : CF := ⟨3, 6, c46_law_added⟩
abbrev f63 : CF := ⟨1, 3, c63_are_weights⟩
abbrev f64 : CF := ⟨2, 6, c64_raw_weighs⟩
abbrev f65 : CF := ⟨2, 2, c65_weighs⟩
abbrev f67 : CF := ⟨2, 7, c67_law_weighed⟩
abbrev f53 : CF := ⟨1, 3, c53_is_scale⟩
abbrev f54 : CF := ⟨1, 1, c54_check_scale⟩
abbrev f55 : CF := ⟨2, 6, c55_raw_scaled⟩
abbrev f56 : CF := ⟨2, 4, c56_scaled⟩
abbrev f94 : CF := ⟨1, 3, c94_is_plain_dimension⟩
abbrev f145 : CF := ⟨1, 1, c145_is_told_unit⟩
abbrev f146 : CF := ⟨1, 3, c146_is_system⟩
abbrev f147 : CF := ⟨1, 1, c147_check_system⟩
abbrev f148 : CF := ⟨2, 5, c148_raw_are_units⟩
abbrev f154 : CF := ⟨2, 2, c154_are_units⟩
abbrev f149 : CF := ⟨2, 2, c149_check_units⟩
abbrev f150 : CF := ⟨2, 6, c150_raw_factor⟩
abbrev f151 : CF := ⟨2, 6, c151_raw_dimension⟩
abbrev f152 : CF := ⟨2, 2, c152_factor_of⟩
abbrev f153 : CF := ⟨2, 2, c153_dimension_in⟩
abbrev f155 : CF := ⟨2, 5, c155_law_system⟩
abbrev f156 : CF := ⟨3, 7, c156_law_units⟩
abbrev f157 : CF := ⟨2, 9, c157_law_factor⟩
abbrev f158 : CF := ⟨2, 6, c158_law_dimension⟩
end PL

namespace PL
open PySem PySem.Spec PyProof.Rows L2
def Tyd (h : AH) : AV → Prop
  | .ref a => (∃ xs, h a = some (.lst xs)) ∨ ∃ kvs, h a = some (.dK kvs)
  | .wt _ => False
  | _ => True
def isInt : AV → Bool | .int _ => true | _ => false
def isTupV : AV → Bool | .tup _ => true | _ => false
variable {G : Pg} {n : Nat} {Q : AQ} {E : AXQ} {h : AH}
theorem is_integer_spec (c0 : G.code 0 = some f0) {v : AV} (ht : Tyd h v) (hq : Q (.bl (isInt v)) h) : wpC G (n + 1) 0 [v] h Q E := by
  refine call_i c0 rfl ?_
  unfold c0_is_integer
  cases v with
  | ref a =>
    bv_omega
    rcases ht with ⟨xs, e⟩ | ⟨xs, e⟩
    · refine t_lst e ?_
      bv_omega
      exact shr_i hq
    · refine t_dK e ?_
      bv_omega
      exact shr_i hq
  | wt _ => exact ht.elim
  | _ =>
    bv_omega
    exact shr_i hq
theorem divisor_spec (c1 : G.code 1 = some f1) {x y : Nat} (hq : Q (.int (Nat.gcd x y)) h) : wpC G (n + 1) 1 [.int x, .int y] h Q E := by
  refine call_i c1 rfl ?_
  unfold c1_divisor
  bv_omega
  refine wp_whl (wpC_mono G n) (fun m σ h' => ∃ a b : Nat, m = b ∧ σ = [some (.int a), some (.int b)] ∧ h' = h ∧ Nat.gcd a b = Nat.gcd x y) (m := y) ⟨x, y, rfl, rfl, rfl, rfl⟩ ?_
  rintro m σ h' ⟨a, b, rfl, rfl, rfl, hg⟩
  bv_omega
  by_cases e : m = 0
  · subst e
    rw [Nat.gcd_zero_right] at hg
    rw [← hg] at hq
    have e0 : ((0 : Nat) : Int) = 0 := rfl
    simp only [e0]
    bv_omega
    exact shr_i hq
  · have e0 : ¬ ((m : Int) = 0) := by omega
    simp only [e0]
    bv_omega
    refine ⟨by omega, a % m, Nat.mod_lt _ (by omega), m, by simp, ?_⟩
    rw [← hg, Nat.gcd_comm a m, Nat.gcd_rec m a, Nat.gcd_comm]
theorem nat_abs {i : Int} : (if i < 0 then -i else i) = (i.natAbs : Int) := by split <;> omega

def fr (q : Rat) : AV := .tup [.int q.num, .int q.den]
theorem log_lt {x k : Nat} (h : x < 2 ^ k) (hk : 0 < k) : x.log2 < k := by
  rcases Nat.eq_zero_or_pos x with rfl | hx
  · simpa using hk
  · exact (Nat.log2_lt (by omega)).mpr h
theorem mulW {i j : Int} {a b : Nat} (ha : i.natAbs < 2 ^ a) (hb : j.natAbs < 2 ^ b) (h0 : 0 < a) (h1 : 0 < b) (h : a + b ≤ 1000000) : CMulW i j := wide_mul ha hb h0 h1 h
theorem fdiv_neg' {a g : Int} (hg : 0 < g) (hd : g ∣ a) : a.fdiv (-g) = -(a / g) := by
  obtain ⟨c, rfl⟩ := hd
  have h1 : g * c = (-g) * (-c) := by rw [Int.neg_mul_neg]
  rw [Int.mul_ediv_cancel_left _ (by omega), h1, Int.mul_fdiv_cancel_left _ (by omega)]
theorem fdiv_pos' {a g : Int} (hg : 0 < g) : a.fdiv g = a / g := Int.fdiv_eq_ediv_of_nonneg a (by omega)
theorem divInt_num {t b : Int} (hb : 0 < b) : (Rat.divInt t b).num = t / (Nat.gcd t.natAbs b.natAbs : Int) ∧ ((Rat.divInt t b).den : Int) = b / (Nat.gcd t.natAbs b.natAbs : Int) := by
  obtain ⟨n, rfl⟩ := Int.eq_ofNat_of_zero_le (by omega : 0 ≤ b)
  have hn : n ≠ 0 := by omega
  have e : Rat.divInt t (n : Int) = Rat.normalize t n hn := by
    rw [Rat.divInt_ofNat]
    exact (Rat.normalize_eq_mkRat hn).symm
  rw [e, Rat.normalize_eq]
  simp
theorem made_val {t b : Int} (hb : b ≠ 0) : (if b < 0 then .tup [.int (t.fdiv (-(Nat.gcd t.natAbs b.natAbs : Int))), .int (b.fdiv (-(Nat.gcd t.natAbs b.natAbs : Int)))] else .tup [.int (t.fdiv (Nat.gcd t.natAbs b.natAbs : Int)), .int (b.fdiv (Nat.gcd t.natAbs b.natAbs : Int))] : AV) = fr (Rat.divInt t b) := by
  have hg : 0 < (Nat.gcd t.natAbs b.natAbs : Int) := by
    have := Nat.gcd_pos_of_pos_right t.natAbs (show 0 < b.natAbs by omega)
    omega
  have d1 : (Nat.gcd t.natAbs b.natAbs : Int) ∣ t := Int.ofNat_dvd_left.mpr (Nat.gcd_dvd_left _ _)
  have d2 : (Nat.gcd t.natAbs b.natAbs : Int) ∣ b := Int.ofNat_dvd_left.mpr (Nat.gcd_dvd_right _ _)
  unfold fr
  split
  · rename_i hneg
    have e : Rat.divInt t b = Rat.divInt (-t) (-b) := by rw [Rat.divInt_neg', Int.neg_neg]
    have q := divInt_num (t := -t) (b := -b) (by omega)
    rw [Int.natAbs_neg, Int.natAbs_neg] at q
    rw [e, q.1, q.2, fdiv_neg' hg d1, fdiv_neg' hg d2, Int.neg_ediv_of_dvd d1, Int.neg_ediv_of_dvd d2]
  · have q := divInt_num (t := t) (b := b) (by omega)
    rw [q.1, q.2, fdiv_pos' hg, fdiv_pos' hg]
theorem made_gen (c1 : G.code 1 = some f1) (c3 : G.code 3 = some f3) {t b : Int} (hb : b ≠ 0) (hl : (Nat.gcd t.natAbs b.natAbs).log2 < 9000) (hq : Q (fr (Rat.divInt t b)) h) : wpC G (n + 2) 3 [.int t, .int b] h Q E := by
  refine call_i c3 rfl ?_
  unfold c3_made
  bv_omega
  rw [nat_abs, nat_abs]
  refine divisor_spec c1 ?_
  have hg := Nat.gcd_pos_of_pos_right t.natAbs (show 0 < b.natAbs by omega)
  have mv := made_val (t := t) hb
  by_cases e : b < 0
  · simp only [e, if_true] at mv ⊢
    bv_omega
    rw [mv]
    refine ⟨⟨by omega, by simpa using hl⟩, ⟨by omega, by simpa using hl⟩, shr_i hq⟩
  · simp only [e, if_false] at mv ⊢
    bv_omega
    rw [mv]
    refine ⟨⟨by omega, by simpa using hl⟩, ⟨by omega, by simpa using hl⟩, shr_i hq⟩
theorem made_spec (c1 : G.code 1 = some f1) (c3 : G.code 3 = some f3) {t b : Int} (hb : b ≠ 0) (hs : b.natAbs < 2 ^ 8000) (hq : Q (fr (Rat.divInt t b)) h) : wpC G (n + 2) 3 [.int t, .int b] h Q E := by
  refine made_gen c1 c3 hb ?_ hq
  have h1 : Nat.gcd t.natAbs b.natAbs ≤ b.natAbs := Nat.le_of_dvd (by omega) (Nat.gcd_dvd_right _ _)
  exact Nat.lt_of_lt_of_le (log_lt (Nat.lt_of_le_of_lt h1 hs) (by omega)) (by omega)

def isFr : AV → Bool
  | .tup [.int a, .int b] => decide (0 < b) && decide (Nat.gcd a.natAbs b.natAbs = 1)
  | _ => false
def TydT (h : AH) (v : AV) : Prop := Tyd h v ∧ ∀ xs, v = .tup xs → ∀ x ∈ xs, Tyd h x
theorem isFr_fr (q : Rat) : isFr (fr q) = true := by
  show (decide (0 < (q.den : Int)) && decide (Nat.gcd q.num.natAbs (q.den : Int).natAbs = 1)) = true
  have h1 : 0 < (q.den : Int) := by have := q.den_pos; omega
  have h2 : Nat.gcd q.num.natAbs q.den = 1 := q.reduced
  have h3 : 0 < q.den := q.den_pos
  simp [h1, h2, h3]
theorem isFr_1 {x : AV} : isFr (.tup [x]) = false := by cases x <;> rfl
theorem isFr_3 {x y z : AV} {r : List AV} : isFr (.tup (x :: y :: z :: r)) = false := by cases x <;> first | rfl | (cases y <;> rfl)
theorem isFr_b {x y : AV} (h : isInt x = false ∨ isInt y = false) : isFr (.tup [x, y]) = false := by
  cases x with
  | int a =>
    cases y with
    | int b => rcases h with h | h <;> cases h
    | _ => rfl
  | _ => rfl
theorem is_fraction_spec (c0 : G.code 0 = some f0) (c1 : G.code 1 = some f1) (c2 : G.code 2 = some f2) {v : AV} (ht : TydT h v) (hq : Q (.bl (isFr v)) h) : wpC G (n + 2) 2 [v] h Q E := by
  refine call_i c2 rfl ?_
  unfold c2_is_fraction
  have no : (∀ xs, v ≠ .tup xs) → isFr v = false := by
    intro hx
    cases v with
    | tup xs => exact absurd rfl (hx xs)
    | _ => rfl
  cases v with
  | ref a =>
    bv_omega
    rcases ht.1 with ⟨xs, e⟩ | ⟨xs, e⟩
    · refine t_lst e ?_
      bv_omega
      exact shr_i hq
    · refine t_dK e ?_
      bv_omega
      exact shr_i hq
  | tup xs =>
    have hx := ht.2 xs rfl
    match xs, hx, hq with
    | [], _, hq => bv_omega; simp; exact shr_i hq
    | [_], _, hq => rw [isFr_1] at hq; bv_omega; simp; exact shr_i hq
    | a :: b :: c :: r, _, hq =>
      rw [isFr_3] at hq
      bv_omega
      have e : ¬ (((r.length + 1 + 1 + 1 : Nat) : Int) = 2) := by omega
      simp only [e]
      bv_omega
      exact shr_i hq
    | [x, y], hx, hq =>
      bv_omega
      have e : ((0 + 1 + 1 : Nat) : Int) = 2 := rfl
      simp only [e]
      bv_omega
      refine is_integer_spec c0 (hx x (by simp)) ?_
      bv_omega
      cases x with
      | int a =>
        simp only [isInt]
        bv_omega
        refine is_integer_spec c0 (hx y (by simp)) ?_
        bv_omega
        cases y with
        | int b =>
          simp only [isInt]
          bv_omega
          replace hq : Q (.bl (decide (0 < b) && decide (Nat.gcd a.natAbs b.natAbs = 1))) h := hq
          by_cases hb : 0 < b
          · simp only [hb, decide_true, Bool.true_and] at hq ⊢
            bv_omega
            rw [nat_abs]
            have eb : (b : Int) = (b.natAbs : Int) := by omega
            have eg : Nat.gcd a.natAbs b.natAbs = Nat.gcd a.natAbs b.natAbs := rfl
            generalize hk : b.natAbs = k at eb hq
            subst eb
            refine divisor_spec c1 ?_
            bv_omega
            have ed : decide (((Nat.gcd a.natAbs k : Nat) : Int) = 1) = decide (Nat.gcd a.natAbs k = 1) := by
              apply decide_eq_decide.mpr
              omega
            rw [ed]
            exact shr_i hq
          · simp only [hb, decide_false, Bool.false_and] at hq ⊢
            bv_omega
            exact shr_i hq
        | _ => simp only [isInt]; bv_omega; exact shr_i hq
      | _ => simp only [isInt]; bv_omega; exact shr_i hq
  | wt _ => exact ht.1.elim
  | _ => bv_omega; exact shr_i hq

def Sz (k : Nat) (q : Rat) : Prop := q.num.natAbs < 2 ^ k ∧ q.den < 2 ^ k
theorem Sz.mono {k m : Nat} {q : Rat} (s : Sz k q) (h : k ≤ m) : Sz m q := ⟨Nat.lt_of_lt_of_le s.1 (Nat.pow_le_pow_right (by omega) h), Nat.lt_of_lt_of_le s.2 (Nat.pow_le_pow_right (by omega) h)⟩
theorem sz_divInt {t b : Int} {k : Nat} (hb : b ≠ 0) (h1 : t.natAbs < 2 ^ k) (h2 : b.natAbs < 2 ^ k) : Sz k (Rat.divInt t b) := by
  have key : ∀ t b : Int, 0 < b → t.natAbs < 2 ^ k → b.natAbs < 2 ^ k → Sz k (Rat.divInt t b) := by
    intro t b hb h1 h2
    have q := divInt_num (t := t) hb
    have hg : 0 < (Nat.gcd t.natAbs b.natAbs) := Nat.gcd_pos_of_pos_right t.natAbs (by omega)
    refine ⟨?_, ?_⟩
    · rw [q.1, Int.natAbs_ediv_of_dvd (Int.ofNat_dvd_left.mpr (Nat.gcd_dvd_left _ _))]
      exact Nat.lt_of_le_of_lt (Nat.div_le_self _ _) h1
    · have e : (Rat.divInt t b).den = b.natAbs / Nat.gcd t.natAbs b.natAbs := by
        have e2 : ((Rat.divInt t b).den : Int) = ((b.natAbs / Nat.gcd t.natAbs b.natAbs : Nat) : Int) := by
          rw [q.2]
          have : (b : Int) = (b.natAbs : Int) := by omega
          rw [Int.natCast_ediv, ← this]
        omega
      rw [e]
      exact Nat.lt_of_le_of_lt (Nat.div_le_self _ _) h2
  by_cases h : 0 < b
  · exact key t b h h1 h2
  · have e : Rat.divInt t b = Rat.divInt (-t) (-b) := by rw [Rat.divInt_neg', Int.neg_neg]
    rw [e]
    exact key (-t) (-b) (by omega) (by rw [Int.natAbs_neg]; exact h1) (by rw [Int.natAbs_neg]; exact h2)
theorem add_divInt (x y : Rat) : x + y = Rat.divInt (x.num * y.den + y.num * x.den) (x.den * y.den) := by
  have h1 : (x.den : Int) ≠ 0 := by have := x.den_pos; omega
  have h2 : (y.den : Int) ≠ 0 := by have := y.den_pos; omega
  rw [← Rat.divInt_add_divInt _ _ h1 h2, Rat.num_divInt_den, Rat.num_divInt_den]
theorem sub_divInt (x y : Rat) : x - y = Rat.divInt (x.num * y.den - y.num * x.den) (x.den * y.den) := by
  have h := add_divInt x (-y)
  rw [Rat.neg_num, Rat.neg_den] at h
  rw [Rat.sub_eq_add_neg, h, Int.neg_mul, Int.sub_eq_add_neg]
theorem mul_divInt (x y : Rat) : x * y = Rat.divInt (x.num * y.num) (x.den * y.den) := by
  rw [← Rat.divInt_mul_divInt, Rat.num_divInt_den, Rat.num_divInt_den]
theorem div_divInt (x y : Rat) : x / y = Rat.divInt (x.num * y.den) (x.den * y.num) := by
  rw [Rat.div_def, Rat.inv_def, ← Rat.divInt_mul_divInt, Rat.num_divInt_den]
theorem lt_mul {a b : Nat} {i j : Int} (ha : i.natAbs < 2 ^ a) (hb : j.natAbs < 2 ^ b) : (i * j).natAbs < 2 ^ (a + b) := wide_lt ha hb
theorem den_nz (x : Rat) : (x.den : Int) ≠ 0 := by have := x.den_pos; omega
theorem sz_add {a b : Nat} {x y : Rat} (hx : Sz a x) (hy : Sz b y) : Sz (a + b + 1) (x + y) := by
  rw [add_divInt]
  have h1 := lt_mul (i := x.num) (j := y.den) hx.1 hy.2
  have h2 := lt_mul (i := y.num) (j := x.den) hy.1 hx.2
  have h3 := lt_mul (i := x.den) (j := y.den) hx.2 hy.2
  rw [Nat.add_comm b a] at h2
  have e : (2 : Nat) ^ (a + b + 1) = 2 ^ (a + b) + 2 ^ (a + b) := by rw [Nat.pow_succ]; omega
  exact sz_divInt (Int.mul_ne_zero (den_nz x) (den_nz y)) (by rw [e]; omega) (by rw [e]; omega)
theorem sz_sub {a b : Nat} {x y : Rat} (hx : Sz a x) (hy : Sz b y) : Sz (a + b + 1) (x - y) := by
  rw [sub_divInt]
  have h1 := lt_mul (i := x.num) (j := y.den) hx.1 hy.2
  have h2 := lt_mul (i := y.num) (j := x.den) hy.1 hx.2
  have h3 := lt_mul (i := x.den) (j := y.den) hx.2 hy.2
  rw [Nat.add_comm b a] at h2
  have e : (2 : Nat) ^ (a + b + 1) = 2 ^ (a + b) + 2 ^ (a + b) := by rw [Nat.pow_succ]; omega
  exact sz_divInt (Int.mul_ne_zero (den_nz x) (den_nz y)) (by rw [e]; omega) (by rw [e]; omega)
theorem sz_mul {a b : Nat} {x y : Rat} (hx : Sz a x) (hy : Sz b y) : Sz (a + b) (x * y) := by
  rw [mul_divInt]
  exact sz_divInt (Int.mul_ne_zero (den_nz x) (den_nz y)) (lt_mul hx.1 hy.1) (lt_mul (j := (y.den : Int)) hx.2 hy.2)
theorem num_nz {y : Rat} (h : y ≠ 0) : y.num ≠ 0 := fun e => h (Rat.num_eq_zero.mp e)
theorem sz_div {a b : Nat} {x y : Rat} (h : y ≠ 0) (hx : Sz a x) (hy : Sz b y) : Sz (a + b) (x / y) := by
  rw [div_divInt]
  exact sz_divInt (Int.mul_ne_zero (den_nz x) (num_nz h)) (lt_mul (j := (y.den : Int)) hx.1 hy.2) (lt_mul (i := (x.den : Int)) hx.2 hy.1)
theorem fr_Tyd {x : Rat} : TydT h (fr x) := ⟨trivial, fun xs e v hv => by
  unfold fr at e
  cases e
  simp at hv
  rcases hv with rfl | rfl <;> exact trivial⟩
theorem check_fraction_spec (c0 : G.code 0 = some f0) (c1 : G.code 1 = some f1) (c2 : G.code 2 = some f2) (c4 : G.code 4 = some f4) {v : AV} (ht : TydT h v) (hq : isFr v = true → Q .non h) (he : isFr v = false → E ⟨0, []⟩ h) : wpC G (n + 3) 4 [v] h Q E := by
  refine call_i c4 rfl ?_
  unfold c4_check_fraction
  bv_omega
  refine is_fraction_spec c0 c1 c2 ht ?_
  bv_omega
  cases e : isFr v with
  | true => bv_omega; exact shr_i (hq e)
  | false => bv_omega; exact shr_i (he e)
theorem raw_plus_spec (c1 : G.code 1 = some f1) (c3 : G.code 3 = some f3) (c5 : G.code 5 = some f5) {x y : Rat} {a b : Nat} (hx : Sz a x) (hy : Sz b y) (ha : 0 < a) (hb : 0 < b) (hab : a + b ≤ 8000) (hq : Q (fr (x + y)) h) : wpC G (n + 3) 5 [fr x, fr y] h Q E := by
  refine call_i c5 rfl ?_
  unfold c5_raw_plus fr
  bv_omega
  refine ⟨mulW hx.1 (j := (y.den : Int)) hy.2 ha hb (by omega), mulW hy.1 (j := (x.den : Int)) hx.2 hb ha (by omega), mulW (i := (x.den : Int)) (j := (y.den : Int)) hx.2 hy.2 ha hb (by omega), ?_⟩
  refine made_spec c1 c3 (Int.mul_ne_zero (den_nz x) (den_nz y)) (Nat.lt_of_lt_of_le (lt_mul (i := (x.den : Int)) (j := (y.den : Int)) hx.2 hy.2) (Nat.pow_le_pow_right (by omega) hab)) ?_
  rw [← add_divInt]
  exact shr_i hq
theorem raw_less_spec (c1 : G.code 1 = some f1) (c3 : G.code 3 = some f3) (c6 : G.code 6 = some f6) {x y : Rat} {a b : Nat} (hx : Sz a x) (hy : Sz b y) (ha : 0 < a) (hb : 0 < b) (hab : a + b ≤ 8000) (hq : Q (fr (x - y)) h) : wpC G (n + 3) 6 [fr x, fr y] h Q E := by
  refine call_i c6 rfl ?_
  unfold c6_raw_less fr
  bv_omega
  refine ⟨mulW hx.1 (j := (y.den : Int)) hy.2 ha hb (by omega), mulW hy.1 (j := (x.den : Int)) hx.2 hb ha (by omega), mulW (i := (x.den : Int)) (j := (y.den : Int)) hx.2 hy.2 ha hb (by omega), ?_⟩
  refine made_spec c1 c3 (Int.mul_ne_zero (den_nz x) (den_nz y)) (Nat.lt_of_lt_of_le (lt_mul (i := (x.den : Int)) (j := (y.den : Int)) hx.2 hy.2) (Nat.pow_le_pow_right (by omega) hab)) ?_
  rw [← sub_divInt]
  exact shr_i hq
theorem raw_times_spec (c1 : G.code 1 = some f1) (c3 : G.code 3 = some f3) (c7 : G.code 7 = some f7) {x y : Rat} {a b : Nat} (hx : Sz a x) (hy : Sz b y) (ha : 0 < a) (hb : 0 < b) (hab : a + b ≤ 8000) (hq : Q (fr (x * y)) h) : wpC G (n + 3) 7 [fr x, fr y] h Q E := by
  refine call_i c7 rfl ?_
  unfold c7_raw_times fr
  bv_omega
  refine ⟨mulW hx.1 hy.1 ha hb (by omega), mulW (i := (x.den : Int)) (j := (y.den : Int)) hx.2 hy.2 ha hb (by omega), ?_⟩
  refine made_spec c1 c3 (Int.mul_ne_zero (den_nz x) (den_nz y)) (Nat.lt_of_lt_of_le (lt_mul (i := (x.den : Int)) (j := (y.den : Int)) hx.2 hy.2) (Nat.pow_le_pow_right (by omega) hab)) ?_
  rw [← mul_divInt]
  exact shr_i hq
theorem raw_times_gen (c1 : G.code 1 = some f1) (c3 : G.code 3 = some f3) (c7 : G.code 7 = some f7) {x y : Rat} {a b : Nat} (hx : Sz a x) (hy : Sz b y) (ha : 0 < a) (hb : 0 < b) (hab : a + b ≤ 900000)
    (hg : (Nat.gcd (x.num * y.num).natAbs ((x.den : Int) * y.den).natAbs).log2 < 9000) (hq : Q (fr (x * y)) h) : wpC G (n + 3) 7 [fr x, fr y] h Q E := by
  refine call_i c7 rfl ?_
  unfold c7_raw_times fr
  bv_omega
  refine ⟨mulW hx.1 hy.1 ha hb (by omega), mulW (i := (x.den : Int)) (j := (y.den : Int)) hx.2 hy.2 ha hb (by omega), ?_⟩
  refine made_gen c1 c3 (Int.mul_ne_zero (den_nz x) (den_nz y)) hg ?_
  rw [← mul_divInt]
  exact shr_i hq
theorem gcd_right {x y : Rat} (hy : y ≠ 0) : Nat.gcd (x.num * y.num).natAbs ((x.den : Int) * y.den).natAbs ≤ y.num.natAbs * y.den := by
  rw [Int.natAbs_mul, Int.natAbs_mul, Int.natAbs_natCast, Int.natAbs_natCast]
  have hpos : 0 < y.num.natAbs * y.den := Nat.mul_pos (by have := num_nz hy; omega) y.den_pos
  refine Nat.le_of_dvd hpos ?_
  have h1 : Nat.gcd (x.num.natAbs * y.num.natAbs) (x.den * y.den) ∣ Nat.gcd (x.num.natAbs * y.num.natAbs) x.den * Nat.gcd (x.num.natAbs * y.num.natAbs) y.den := Nat.gcd_mul_right_dvd_mul_gcd _ _ _
  refine Nat.dvd_trans h1 (Nat.mul_dvd_mul ?_ (Nat.gcd_dvd_right _ _))
  rw [Nat.gcd_comm]
  have cp : Nat.Coprime x.den x.num.natAbs := (Nat.coprime_comm.mp x.reduced)
  exact (cp.coprime_dvd_left (Nat.gcd_dvd_left _ _)).dvd_of_dvd_mul_left (Nat.gcd_dvd_right _ _)
theorem gcd_left {x y : Rat} (hx : x ≠ 0) : Nat.gcd (x.num * y.num).natAbs ((x.den : Int) * y.den).natAbs ≤ x.num.natAbs * x.den := by
  rw [Int.mul_comm x.num, Int.mul_comm (x.den : Int)]
  exact gcd_right hx
theorem log_gcd {g p k : Nat} (h : g ≤ p) (hp : p < 2 ^ k) (hk : 0 < k) (hk2 : k ≤ 8900) : g.log2 < 9000 := Nat.lt_of_lt_of_le (log_lt (Nat.lt_of_le_of_lt h hp) hk) (by omega)
theorem raw_times_big (c1 : G.code 1 = some f1) (c3 : G.code 3 = some f3) (c7 : G.code 7 = some f7) {x y : Rat} {a b : Nat} (hx : Sz a x) (hy : Sz b y) (hx0 : x ≠ 0) (hy0 : y ≠ 0) (ha : 0 < a) (hb : 0 < b) (hab : a + b ≤ 900000)
    (hg : a ≤ 4400 ∨ b ≤ 4400) (hq : Q (fr (x * y)) h) : wpC G (n + 3) 7 [fr x, fr y] h Q E := by
  refine raw_times_gen c1 c3 c7 hx hy ha hb hab ?_ hq
  rcases hg with hg | hg
  · exact log_gcd (k := a + a) (gcd_left hx0) (by rw [Nat.pow_add]; exact Nat.mul_lt_mul_of_lt_of_lt hx.1 hx.2) (by omega) (by omega)
  · exact log_gcd (k := b + b) (gcd_right hy0) (by rw [Nat.pow_add]; exact Nat.mul_lt_mul_of_lt_of_lt hy.1 hy.2) (by omega) (by omega)
theorem raw_by_spec (c1 : G.code 1 = some f1) (c3 : G.code 3 = some f3) (c8 : G.code 8 = some f8) {x y : Rat} {a b : Nat} (hx : Sz a x) (hy : Sz b y) (hy0 : y ≠ 0) (ha : 0 < a) (hb : 0 < b) (hab : a + b ≤ 8000) (hq : Q (fr (x / y)) h) : wpC G (n + 3) 8 [fr x, fr y] h Q E := by
  refine call_i c8 rfl ?_
  unfold c8_raw_by fr
  bv_omega
  refine ⟨mulW hx.1 (j := (y.den : Int)) hy.2 ha hb (by omega), mulW (i := (x.den : Int)) hx.2 hy.1 ha hb (by omega), ?_⟩
  refine made_spec c1 c3 (Int.mul_ne_zero (den_nz x) (num_nz hy0)) (Nat.lt_of_lt_of_le (lt_mul (i := (x.den : Int)) hx.2 hy.1) (Nat.pow_le_pow_right (by omega) hab)) ?_
  rw [← div_divInt]
  exact shr_i hq

theorem plus_spec (c0 : G.code 0 = some f0) (c1 : G.code 1 = some f1) (c2 : G.code 2 = some f2) (c3 : G.code 3 = some f3) (c4 : G.code 4 = some f4) (c5 : G.code 5 = some f5) (c13 : G.code 13 = some f13) {x y : Rat} {a b : Nat} (hx : Sz a x) (hy : Sz b y) (ha : 0 < a) (hb : 0 < b) (hab : a + b ≤ 8000) (hq : Q (fr (x + y)) h) : wpC G (n + 4) 13 [fr x, fr y] h Q E := by
  refine call_i c13 rfl ?_
  unfold c13_plus
  bv_omega
  refine check_fraction_spec c0 c1 c2 c4 fr_Tyd (fun _ => ?_) fun e => by rw [isFr_fr] at e; cases e
  refine check_fraction_spec c0 c1 c2 c4 fr_Tyd (fun _ => ?_) fun e => by rw [isFr_fr] at e; cases e
  exact raw_plus_spec c1 c3 c5 hx hy ha hb hab (shr_i hq)
theorem plus_bad (c0 : G.code 0 = some f0) (c1 : G.code 1 = some f1) (c2 : G.code 2 = some f2) (c4 : G.code 4 = some f4) (c13 : G.code 13 = some f13) {v w : AV} (hv : TydT h v) (hw : TydT h w) (hb : isFr v = false ∨ isFr w = false) (he : E ⟨0, []⟩ h) : wpC G (n + 4) 13 [v, w] h Q E := by
  refine call_i c13 rfl ?_
  unfold c13_plus
  bv_omega
  refine check_fraction_spec c0 c1 c2 c4 hv (fun e1 => ?_) fun _ => shr_i he
  refine check_fraction_spec c0 c1 c2 c4 hw (fun e2 => ?_) fun _ => shr_i he
  rw [e1, e2] at hb
  rcases hb with hb | hb <;> cases hb

theorem less_spec (c0 : G.code 0 = some f0) (c1 : G.code 1 = some f1) (c2 : G.code 2 = some f2) (c3 : G.code 3 = some f3) (c4 : G.code 4 = some f4) (c6 : G.code 6 = some f6) (c14 : G.code 14 = some f14) {x y : Rat} {a b : Nat} (hx : Sz a x) (hy : Sz b y) (ha : 0 < a) (hb : 0 < b) (hab : a + b ≤ 8000) (hq : Q (fr (x - y)) h) : wpC G (n + 4) 14 [fr x, fr y] h Q E := by
  refine call_i c14 rfl ?_
  unfold c14_less
  bv_omega
  refine check_fraction_spec c0 c1 c2 c4 fr_Tyd (fun _ => ?_) fun e => by rw [isFr_fr] at e; cases e
  refine check_fraction_spec c0 c1 c2 c4 fr_Tyd (fun _ => ?_) fun e => by rw [isFr_fr] at e; cases e
  exact raw_less_spec c1 c3 c6 hx hy ha hb hab (shr_i hq)
theorem less_bad (c0 : G.code 0 = some f0) (c1 : G.code 1 = some f1) (c2 : G.code 2 = some f2) (c4 : G.code 4 = some f4) (c14 : G.code 14 = some f14) {v w : AV} (hv : TydT h v) (hw : TydT h w) (hb : isFr v = false ∨ isFr w = false) (he : E ⟨0, []⟩ h) : wpC G (n + 4) 14 [v, w] h Q E := by
  refine call_i c14 rfl ?_
  unfold c14_less
  bv_omega
  refine check_fraction_spec c0 c1 c2 c4 hv (fun e1 => ?_) fun _ => shr_i he
  refine check_fraction_spec c0 c1 c2 c4 hw (fun e2 => ?_) fun _ => shr_i he
  rw [e1, e2] at hb
  rcases hb with hb | hb <;> cases hb

theorem times_spec (c0 : G.code 0 = some f0) (c1 : G.code 1 = some f1) (c2 : G.code 2 = some f2) (c3 : G.code 3 = some f3) (c4 : G.code 4 = some f4) (c7 : G.code 7 = some f7) (c15 : G.code 15 = some f15) {x y : Rat} {a b : Nat} (hx : Sz a x) (hy : Sz b y) (ha : 0 < a) (hb : 0 < b) (hab : a + b ≤ 8000) (hq : Q (fr (x * y)) h) : wpC G (n + 4) 15 [fr x, fr y] h Q E := by
  refine call_i c15 rfl ?_
  unfold c15_times
  bv_omega
  refine check_fraction_spec c0 c1 c2 c4 fr_Tyd (fun _ => ?_) fun e => by rw [isFr_fr] at e; cases e
  refine check_fraction_spec c0 c1 c2 c4 fr_Tyd (fun _ => ?_) fun e => by rw [isFr_fr] at e; cases e
  exact raw_times_spec c1 c3 c7 hx hy ha hb hab (shr_i hq)
theorem times_bad (c0 : G.code 0 = some f0) (c1 : G.code 1 = some f1) (c2 : G.code 2 = some f2) (c4 : G.code 4 = some f4) (c15 : G.code 15 = some f15) {v w : AV} (hv : TydT h v) (hw : TydT h w) (hb : isFr v = false ∨ isFr w = false) (he : E ⟨0, []⟩ h) : wpC G (n + 4) 15 [v, w] h Q E := by
  refine call_i c15 rfl ?_
  unfold c15_times
  bv_omega
  refine check_fraction_spec c0 c1 c2 c4 hv (fun e1 => ?_) fun _ => shr_i he
  refine check_fraction_spec c0 c1 c2 c4 hw (fun e2 => ?_) fun _ => shr_i he
  rw [e1, e2] at hb
  rcases hb with hb | hb <;> cases hb

theorem by_spec (c0 : G.code 0 = some f0) (c1 : G.code 1 = some f1) (c2 : G.code 2 = some f2) (c3 : G.code 3 = some f3) (c4 : G.code 4 = some f4) (c8 : G.code 8 = some f8) (c16 : G.code 16 = some f16) {x y : Rat} {a b : Nat} (hx : Sz a x) (hy : Sz b y) (hy0 : y ≠ 0) (ha : 0 < a) (hb : 0 < b) (hab : a + b ≤ 8000) (hq : Q (fr (x / y)) h) : wpC G (n + 4) 16 [fr x, fr y] h Q E := by
  refine call_i c16 rfl ?_
  unfold c16_by
  bv_omega
  refine check_fraction_spec c0 c1 c2 c4 fr_Tyd (fun _ => ?_) fun e => by rw [isFr_fr] at e; cases e
  refine check_fraction_spec c0 c1 c2 c4 fr_Tyd (fun _ => ?_) fun e => by rw [isFr_fr] at e; cases e
  have r := fun Q E h hq => raw_by_spec (n := n) (Q := Q) (E := E) (h := h) c1 c3 c8 hx hy hy0 ha hb hab hq
  have hn := num_nz hy0
  unfold fr at r ⊢
  bv_omega
  simp only [hn]
  bv_omega
  exact r _ _ _ (shr_i hq)
theorem by_zero (c0 : G.code 0 = some f0) (c1 : G.code 1 = some f1) (c2 : G.code 2 = some f2) (c4 : G.code 4 = some f4) (c16 : G.code 16 = some f16) {x : Rat} (he : E ⟨1, []⟩ h) : wpC G (n + 4) 16 [fr x, fr 0] h Q E := by
  refine call_i c16 rfl ?_
  unfold c16_by
  bv_omega
  refine check_fraction_spec c0 c1 c2 c4 fr_Tyd (fun _ => ?_) fun e => by rw [isFr_fr] at e; cases e
  refine check_fraction_spec c0 c1 c2 c4 fr_Tyd (fun _ => ?_) fun e => by rw [isFr_fr] at e; cases e
  have e0 : (0 : Rat).num = 0 := rfl
  unfold fr
  bv_omega
  simp only [e0]
  bv_omega
  exact shr_i he
theorem by_bad (c0 : G.code 0 = some f0) (c1 : G.code 1 = some f1) (c2 : G.code 2 = some f2) (c4 : G.code 4 = some f4) (c16 : G.code 16 = some f16) {v w : AV} (hv : TydT h v) (hw : TydT h w) (hb : isFr v = false ∨ isFr w = false) (he : E ⟨0, []⟩ h) : wpC G (n + 4) 16 [v, w] h Q E := by
  refine call_i c16 rfl ?_
  unfold c16_by
  bv_omega
  refine check_fraction_spec c0 c1 c2 c4 hv (fun e1 => ?_) fun _ => shr_i he
  refine check_fraction_spec c0 c1 c2 c4 hw (fun e2 => ?_) fun _ => shr_i he
  rw [e1, e2] at hb
  rcases hb with hb | hb <;> cases hb
theorem fraction_spec (c0 : G.code 0 = some f0) (c1 : G.code 1 = some f1) (c3 : G.code 3 = some f3) (c17 : G.code 17 = some f17) {t b : Int} (hb : b ≠ 0) (hs : b.natAbs < 2 ^ 8000) (hq : Q (fr (Rat.divInt t b)) h) : wpC G (n + 3) 17 [.int t, .int b] h Q E := by
  refine call_i c17 rfl ?_
  unfold c17_fraction
  bv_omega
  refine is_integer_spec c0 trivial ?_
  simp only [isInt]
  bv_omega
  refine is_integer_spec c0 trivial ?_
  simp only [isInt]
  bv_omega
  simp only [hb]
  bv_omega
  exact made_spec c1 c3 hb hs (shr_i hq)
theorem fraction_bad (c0 : G.code 0 = some f0) (c17 : G.code 17 = some f17) {v w : AV} (hv : Tyd h v) (hw : Tyd h w) (hb : isInt v = false ∨ isInt w = false ∨ w = .int 0) (he : E ⟨0, []⟩ h) : wpC G (n + 3) 17 [v, w] h Q E := by
  refine call_i c17 rfl ?_
  unfold c17_fraction
  bv_omega
  refine is_integer_spec c0 hv ?_
  cases e1 : isInt v with
  | false =>
    bv_omega
    exact shr_i he
  | true =>
    bv_omega
    refine is_integer_spec c0 hw ?_
    cases e2 : isInt w with
    | false =>
      bv_omega
      exact shr_i he
    | true =>
      rw [e1, e2] at hb
      simp only [Bool.true_eq_false, false_or] at hb
      subst hb
      bv_omega
      exact shr_i he
end PL

namespace PL
open PySem PySem.Spec PyProof.Rows L2
variable {G : Pg} {n : Nat} {Q : AQ} {E : AXQ} {h : AH}
structure HandW (h : AH) (a : Addr) (N : Nat) (c : Addr) (cs : List Int) (i z s k : Int) : Prop where
  e : h a = some (.lst [.ref c, .int i, .int z, .int s, .int k])
  ne : c ≠ a
  ec : h c = some (.lst (cs.map AV.int))
  pos : ∀ x ∈ cs, 0 ≤ x
  i0 : 0 ≤ i
  z0 : 0 ≤ z
  s0 : 0 ≤ s
  s1 : s < 2 ^ 64
  k0 : 0 ≤ k
  k1 : k ≤ N
def HandOk (h : AH) (a : Addr) (N : Nat) (c : Addr) : Prop := ∃ cs i z s k, HandW h a N c cs i z s k
theorem HandW.ok {h : AH} {a : Addr} {N : Nat} {c : Addr} {cs : List Int} {i z s k : Int} (w : HandW h a N c cs i z s k) : HandOk h a N c := ⟨_, _, _, _, _, w⟩
theorem HandW.upd {h : AH} {a : Addr} {N M : Nat} {c : Addr} {cs : List Int} {i z s k i' z' s' k' : Int} (w : HandW h a N c cs i z s k) (hi : 0 ≤ i') (hz : 0 ≤ z') (hs : 0 ≤ s') (hs1 : s' < 2 ^ 64) (hk : 0 ≤ k') (hk1 : k' ≤ M) :
    HandW (aupd h a (.lst [.ref c, .int i', .int z', .int s', .int k'])) a M c cs i' z' s' k' :=
  ⟨aupd_same, w.ne, by rw [aupd_ne w.ne]; exact w.ec, w.pos, hi, hz, hs, hs1, hk, hk1⟩
theorem lnat {a b : Nat} (h : a < 2 ^ b) (hb : 0 < b) : a.log2 < b := log_lt h hb
theorem mulS {i j : Int} (h : i.natAbs < 2 ^ 64) (h2 : j.natAbs < 2 ^ 64) : CMulW i j := wide_mul h h2 (by omega) (by omega) (by omega)
theorem atI_map {cs : List Int} {i : Int} (h0 : 0 ≤ i) (h1 : i < cs.length) : ∃ x, atI (cs.map AV.int) i = some (.int x) ∧ x ∈ cs := by
  have hi : i.toNat < cs.length := by omega
  refine ⟨cs[i.toNat], ?_, List.getElem_mem hi⟩
  unfold atI
  rw [if_pos h0, List.getElem?_map, List.getElem?_eq_getElem hi]
  rfl
section
variable {a : Addr} {x0 x1 x2 x3 x4 v : AV} {K : AH → Prop}
theorem set51 (e : h a = some (.lst [x0, x1, x2, x3, x4])) (q : K (aupd h a (.lst [x0, v, x2, x3, x4]))) : setR (.ref a) (.int 1) v h K := set_lst e (by decide) (by simp) q
theorem set52 (e : h a = some (.lst [x0, x1, x2, x3, x4])) (q : K (aupd h a (.lst [x0, x1, v, x3, x4]))) : setR (.ref a) (.int 2) v h K := set_lst e (by decide) (by simp) q
theorem set53 (e : h a = some (.lst [x0, x1, x2, x3, x4])) (q : K (aupd h a (.lst [x0, x1, x2, v, x4]))) : setR (.ref a) (.int 3) v h K := set_lst e (by decide) (by simp) q
theorem set54 (e : h a = some (.lst [x0, x1, x2, x3, x4])) (q : K (aupd h a (.lst [x0, x1, x2, x3, v]))) : setR (.ref a) (.int 4) v h K := set_lst e (by decide) (by simp) q
end
theorem aupd_self {a : Addr} {o : AO} (e : h a = some o) : aupd h a o = h := by
  funext b
  unfold aupd
  split
  · rename_i hb; rw [hb, e]
  · rfl
theorem emod_b {x m : Int} (h : 0 < m) : 0 ≤ x % m ∧ x % m < m := ⟨Int.emod_nonneg x (by omega), Int.emod_lt_of_pos x h⟩
theorem log60 {j : Int} (h0 : 0 < j) (h : j < 2 ^ 60) : j.natAbs.log2 < 9000 := Nat.lt_trans (log_lt (k := 60) (by omega) (by omega)) (by omega)
theorem draw_gen (c10 : G.code 10 = some f10) {a c : Addr} {N : Nat} {m : Int} (w : HandOk h a N c) (hN : N + 1 < 2 ^ 60) (hm : 0 < m) (hm2 : m.natAbs.log2 < 9000)
    (hq : ∀ (r : Int) (o : AO), 0 ≤ r → r < m → HandOk (aupd h a o) a (N + 1) c → Q (.int r) (aupd h a o)) : wpC G (n + 1) 10 [.ref a, .int m] h Q E := by
  refine call_i c10 rfl ?_
  unfold c10_law_draw
  refine wp_cut (wpC_mono G n) (fun σ' h' => ∃ cell o, σ' = [some (.ref a), some (.int m), cell, none, none] ∧ h' = aupd h a o ∧ HandOk h' a N c) ?_ ?_
  · obtain ⟨cs, i, z, s, k, w⟩ := w
    have self : ∀ cell : Option AV, ∃ cell' o, [some (AV.ref a), some (AV.int m), cell, none, none] = [some (AV.ref a), some (AV.int m), cell', none, none] ∧ h = aupd h a o ∧ HandOk h a N c := fun cell => ⟨cell, _, rfl, (aupd_self w.e).symm, cs, i, z, s, k, w⟩
    bv_omega
    refine x_lst w.e rfl ?_
    bv_omega
    by_cases hz : z = 0
    · rw [if_pos hz]
      refine x_lst w.e rfl (x_lst w.e rfl (n_lst w.ec ?_))
      bv_omega
      rw [List.length_map]
      by_cases hi : i < cs.length
      · rw [if_pos hi]
        obtain ⟨x, ex, hx⟩ := atI_map w.i0 hi
        refine x_lst w.e rfl (x_lst w.e rfl (x_lst w.ec ex (x_lst w.e rfl ?_)))
        bv_omega
        refine set51 w.e (x_lst aupd_same rfl ?_)
        bv_omega
        have s0 := w.s0
        have s1 := w.s1
        have i0 := w.i0
        refine ⟨mulS (by omega) (by decide), set53 aupd_same ?_⟩
        have em := emod_b (x := s * 69621 + x + 29) (m := 2147483629) (by decide)
        refine ⟨⟨by decide, by decide, by decide⟩, ?_⟩
        bv_omega
        split
        · refine set52 aupd_same ?_
          bv_omega
          exact ⟨_, _, rfl, rfl, _, _, _, _, _, w.upd (by omega) (w.pos x hx) em.1 (by omega) w.k0 w.k1⟩
        · exact ⟨_, _, rfl, rfl, _, _, _, _, _, w.upd (by omega) w.z0 em.1 (by omega) w.k0 w.k1⟩
      · rw [if_neg hi]
        exact self _
    · rw [if_neg hz]
      exact self _
  · rintro σ' h' ⟨cell, o, rfl, rfl, w⟩
    obtain ⟨cs, i, z, s, k, w⟩ := w
    bv_omega
    refine x_lst w.e rfl ?_
    bv_omega
    split
    · rename_i hz
      refine x_lst w.e rfl ?_
      bv_omega
      refine ⟨hm, x_lst w.e rfl ?_⟩
      bv_omega
      refine ⟨⟨by omega, hm2⟩, set52 w.e ?_⟩
      bv_omega
      have em := emod_b (x := z) hm
      have w' := w.upd (M := N + 1) (i' := i) (z' := z.fdiv m) (s' := s) (k' := k) w.i0 (Int.fdiv_nonneg w.z0 (by omega)) w.s0 w.s1 w.k0 (by have := w.k1; omega)
      rw [aupd_aupd] at w'
      exact shr_i (hq _ _ em.1 em.2 w'.ok)
    · refine x_lst w.e rfl ?_
      bv_omega
      refine set54 w.e (x_lst aupd_same rfl (x_lst aupd_same rfl ?_))
      bv_omega
      have s0 := w.s0
      have s1 := w.s1
      have k0 := w.k0
      have k1 := w.k1
      refine ⟨mulS (by decide) (by omega), ?_⟩
      refine ⟨wide_mul (a := 128) (b := 64) (by omega) (by decide) (by omega) (by omega) (by omega), ?_⟩
      generalize hx : ((s + 7919 * (k + 1)) * 48271) % 2147483647 = x
      have ex := emod_b (x := (s + 7919 * (k + 1)) * 48271) (m := 2147483647) (by decide)
      rw [hx] at ex
      have fb : ∀ (y d : Int), 0 ≤ y → 0 < d → 0 ≤ y.fdiv d ∧ y.fdiv d ≤ y := fun y d h0 hd => by
        rw [fdiv_pos' hd]
        exact ⟨Int.ediv_nonneg h0 (by omega), Int.ediv_le_self _ h0⟩
      have f1 := fb x 1009 ex.1 (by decide)
      refine ⟨log60 (by decide) (by decide), mulS (by omega) (by omega), ?_⟩
      generalize hy : (x * (x.fdiv 1009 + 69621)) % 2147483647 = y
      have ey := emod_b (x := x * (x.fdiv 1009 + 69621)) (m := 2147483647) (by decide)
      rw [hy] at ey
      have f2 := fb y 2003 ey.1 (by decide)
      refine ⟨log60 (by decide) (by decide), mulS (by omega) (by omega), log60 (by decide) (by decide), hm, ?_⟩
      have em := emod_b (x := ((y * (y.fdiv 2003 + 40692)) % 2147483399).fdiv 16) hm
      have w' := w.upd (M := N + 1) (i' := i) (z' := z) (s' := s) (k' := k + 1) w.i0 w.z0 w.s0 w.s1 (by omega) (by omega)
      rw [aupd_aupd] at w'
      exact shr_i (hq _ _ em.1 em.2 w'.ok)
theorem draw_spec (c10 : G.code 10 = some f10) {a c : Addr} {N : Nat} {m : Int} (w : HandOk h a N c) (hN : N + 1 < 2 ^ 60) (hm : 0 < m) (hm2 : m < 2 ^ 60)
    (hq : ∀ (r : Int) (o : AO), 0 ≤ r → r < m → HandOk (aupd h a o) a (N + 1) c → Q (.int r) (aupd h a o)) : wpC G (n + 1) 10 [.ref a, .int m] h Q E :=
  draw_gen c10 w hN hm (log60 hm hm2) hq

theorem HandOk.mono {a c : Addr} {N M : Nat} (w : HandOk h a N c) (l : N ≤ M) : HandOk h a M c := by
  obtain ⟨cs, i, z, s, k, w⟩ := w
  exact ⟨cs, i, z, s, k, w.e, w.ne, w.ec, w.pos, w.i0, w.z0, w.s0, w.s1, w.k0, by have := w.k1; omega⟩
theorem HandOk.to {h h' : AH} {a c : Addr} {N : Nat} (w : HandOk h a N c) (ha : h' a = h a) (hc : h' c = h c) : HandOk h' a N c := by
  obtain ⟨cs, i, z, s, k, w⟩ := w
  exact ⟨cs, i, z, s, k, by rw [ha]; exact w.e, w.ne, by rw [hc]; exact w.ec, w.pos, w.i0, w.z0, w.s0, w.s1, w.k0, w.k1⟩
theorem HandOk.some {a c : Addr} {N : Nat} (w : HandOk h a N c) : h a ≠ none ∧ h c ≠ none := by
  obtain ⟨cs, i, z, s, k, w⟩ := w
  exact ⟨by rw [w.e]; simp, by rw [w.ec]; simp⟩
theorem HandOk.ne {a c : Addr} {N : Nat} (w : HandOk h a N c) : c ≠ a := by
  obtain ⟨cs, i, z, s, k, w⟩ := w
  exact w.ne
theorem law_low_big (c11 : G.code 11 = some f11) {t b : Int} (hb : b ≠ 0) (hs : b.natAbs < 2 ^ 9000) (hq : Q (fr (Rat.divInt t b)) h) : wpC G (n + 1) 11 [.int t, .int b] h Q E := by
  refine call_i c11 rfl ?_
  unfold c11_law_low
  bv_omega
  rw [nat_abs, nat_abs]
  refine wp_whl (wpC_mono G n) (fun m σ h' => ∃ (a k : Nat) (r : Option AV), m = k ∧ σ = [some (.int t), some (.int b), some (.int a), some (.int k), r] ∧ h' = h ∧ Nat.gcd a k = Nat.gcd t.natAbs b.natAbs) (m := b.natAbs) ⟨t.natAbs, b.natAbs, none, rfl, rfl, rfl, rfl⟩ ?_
  rintro m σ h' ⟨a, k, r, rfl, rfl, rfl, hg⟩
  bv_omega
  by_cases e : m = 0
  · subst e
    rw [Nat.gcd_zero_right] at hg
    subst hg
    have e0 : ¬ (0 : Int) < ((0 : Nat) : Int) := by decide
    rw [if_neg e0]
    have hg := Nat.gcd_pos_of_pos_right t.natAbs (show 0 < b.natAbs by omega)
    have hl : (Nat.gcd t.natAbs b.natAbs).log2 < 9000 := by
      have h1 : Nat.gcd t.natAbs b.natAbs ≤ b.natAbs := Nat.le_of_dvd (by omega) (Nat.gcd_dvd_right _ _)
      exact Nat.lt_of_lt_of_le (log_lt (Nat.lt_of_le_of_lt h1 hs) (by omega)) (by omega)
    have mv := made_val (t := t) hb
    by_cases e : b < 0
    · simp only [e, if_true] at mv ⊢
      rw [Int.zero_sub, mv]
      refine ⟨⟨by omega, by simpa using hl⟩, ⟨by omega, by simpa using hl⟩, shr_i hq⟩
    · simp only [e, if_false] at mv ⊢
      rw [mv]
      refine ⟨⟨by omega, by simpa using hl⟩, ⟨by omega, by simpa using hl⟩, shr_i hq⟩
  · have e0 : (0 : Int) < (m : Int) := by omega
    rw [if_pos e0]
    refine ⟨e0, a % m, Nat.mod_lt _ (by omega), m, a % m, some (AV.int ((a : Int) % m)), rfl, by simp, ?_⟩
    rw [← hg, Nat.gcd_comm a m, Nat.gcd_rec m a, Nat.gcd_comm]
theorem law_low_spec (c11 : G.code 11 = some f11) {t b : Int} (hb : b ≠ 0) (hs : b.natAbs < 2 ^ 8000) (hq : Q (fr (Rat.divInt t b)) h) : wpC G (n + 1) 11 [.int t, .int b] h Q E :=
  law_low_big c11 hb (Nat.lt_trans hs (Nat.pow_lt_pow_right (by decide) (by decide))) hq
theorem ale_aupd {h h' : AH} {a : Addr} {o : AO} (l : ALe h h') : ALe (aupd h a o) (aupd h' a o) := fun b u e => by
  unfold aupd at e ⊢
  split
  · rename_i hb; rw [if_pos hb] at e; exact e
  · rename_i hb; rw [if_neg hb] at e; exact l b u e
theorem range_len {n : Nat} {lo : Int} : (rangeL lo n).length = n := rangeL_len

theorem law_great_spec (c10 : G.code 10 = some f10) (c12 : G.code 12 = some f12) {a c : Addr} {N d : Nat} (w : HandOk h a N c) (hN : N + d + 2 < 2 ^ 60) (hd : 0 < d) (hd2 : d ≤ 200)
    (hq : ∀ (r : Int) (o : AO), r.natAbs < 10 ^ d → HandOk (aupd h a o) a (N + d + 2) c → Q (.int r) (aupd h a o)) : wpC G (n + 2) 12 [.ref a, .int d] h Q E := by
  refine call_i c12 rfl ?_
  unfold c12_law_great
  bv_omega
  refine for_r1 (wpC_mono G _) ?_
  bv_omega
  refine draw_spec c10 w (by omega) (by omega) (by omega) fun r o hr hr2 w1 => ?_
  have er : ((1 + r).toNat : Int) = 1 + r := by omega
  refine ⟨(1 + r).toNat, by rw [er], by omega, fun j σ h' => ∃ (x : Int) (o : AO) (u : Option AV), σ = [some (.ref a), some (.int d), some (.int x), u] ∧ h' = aupd h a o ∧ 0 ≤ x ∧ x < 10 ^ ((1 + r).toNat - j) ∧ HandOk h' a (N + 1 + ((1 + r).toNat - j)) c,
    ⟨0, o, none, rfl, rfl, by omega, by simp, by simpa using w1⟩, ?_, ?_⟩
  · rintro σ h' ⟨x, o, u, rfl, rfl, x0, x1, w⟩
    bv_omega
    intro p hp
    have ap : p ≠ a := fun e => w.some.1 (e ▸ hp)
    have cp : p ≠ c := fun e => w.some.2 (e ▸ hp)
    have w2 : HandOk (aupd (aupd h a o) p (.lst [.int 1, .int (0 - 1)])) a (N + 1 + ((1 + r).toNat - 0)) c := w.to (aupd_ne (Ne.symm ap)) (aupd_ne (Ne.symm cp))
    refine draw_spec c10 w2 (by omega) (by decide) (by decide) fun s o2 hs hs2 w3 => ?_
    have e3 : aupd (aupd (aupd h a o) p (.lst [.int 1, .int (0 - 1)])) a o2 = aupd (aupd h a o2) p (.lst [.int 1, .int (0 - 1)]) := by
      funext b
      unfold aupd
      by_cases h1 : b = a
      · have h2 : b ≠ p := fun e => ap (e.symm.trans h1)
        simp [h1, Ne.symm ap]
      · simp [h1]
    have hp2 : aupd h a o2 p = none := by rw [aupd_ne ap]; rw [aupd_ne ap] at hp; exact hp
    have hx : x < 10 ^ d := Int.lt_of_lt_of_le x1 (by
      have : (1 + r).toNat - 0 ≤ d := by omega
      exact_mod_cast Nat.pow_le_pow_right (show 0 < 10 by decide) this)
    have w4 : HandOk (aupd h a o2) a (N + d + 2) c := (w3.to (h' := aupd h a o2) (by rw [e3, aupd_ne (Ne.symm ap)]) (by rw [e3, aupd_ne (Ne.symm cp)])).mono (by omega)
    have hxn : x.natAbs < 10 ^ d := by
      have : ((10 ^ d : Nat) : Int) = (10 : Int) ^ d := by push_cast; rfl
      omega
    have l10 : (10 : Nat) ^ d ≤ 10 ^ 200 := Nat.pow_le_pow_right (by decide) hd2
    have cm : ∀ y : Int, y.natAbs < 2 ^ 64 → CMulW x y := fun y hy => wide_mul (a := 700) (b := 64) (Nat.lt_of_lt_of_le hxn (Nat.le_trans l10 (by decide))) hy (by omega) (by omega) (by omega)
    have e3' := e3
    have s01 : s = 0 ∨ s = 1 := by omega
    rcases s01 with rfl | rfl
    · refine x_lst (v := .int 1) (xs := [.int 1, .int (0 - 1)]) (by rw [e3, aupd_same]) rfl ?_
      bv_omega
      refine ⟨cm 1 (by decide), shr_le (h := aupd h a o2) (by rw [e3]; exact ALe.fresh hp2) (hq _ _ (by rw [Int.mul_one]; exact hxn) w4)⟩
    · refine x_lst (v := .int (0 - 1)) (xs := [.int 1, .int (0 - 1)]) (by rw [e3, aupd_same]) rfl ?_
      bv_omega
      refine ⟨cm (0 - 1) (by decide), shr_le (h := aupd h a o2) (by rw [e3]; exact ALe.fresh hp2) (hq _ _ (by rw [show x * (0 - 1) = -x by omega, Int.natAbs_neg]; exact hxn) w4)⟩
  · rintro j σ h' hj ⟨x, o, u, rfl, rfl, x0, x1, w⟩
    bv_omega
    have l10 : (10 : Nat) ^ ((1 + r).toNat - (j + 1)) ≤ 10 ^ 200 := Nat.pow_le_pow_right (by decide) (by omega)
    have hxn : x.natAbs < 10 ^ 200 := by
      have : ((10 ^ ((1 + r).toNat - (j + 1)) : Nat) : Int) = (10 : Int) ^ ((1 + r).toNat - (j + 1)) := by push_cast; rfl
      omega
    refine ⟨wide_mul (a := 700) (b := 64) (Nat.lt_trans hxn (by decide)) (by decide) (by omega) (by omega) (by omega), ?_⟩
    refine draw_spec c10 w (by omega) (by decide) (by decide) fun s o2 hs hs2 w3 => ?_
    rw [aupd_aupd] at w3 ⊢
    refine ⟨x * 10 + s, o2, _, rfl, rfl, by omega, ?_, w3.mono (by omega)⟩
    have ee : (1 + r).toNat - j = ((1 + r).toNat - (j + 1)) + 1 := by omega
    rw [ee, Int.pow_succ]
    omega

theorem aupd2 {h : AH} {a : Addr} {o o2 : AO} : aupd (aupd h a o) a o2 = aupd h a o2 := aupd_aupd
theorem pow10 {d : Nat} (h : d ≤ 59) {x : Nat} (hx : x < 10 ^ d) : x < 10 ^ 59 := Nat.lt_of_lt_of_le hx (Nat.pow_le_pow_right (by decide) h)
theorem law_share_gen (c10 : G.code 10 = some f10) (c11 : G.code 11 = some f11) (c12 : G.code 12 = some f12) (c21 : G.code 21 = some f21) {a c : Addr} {N d k : Nat} (w : HandOk h a N c) (hN : N + 200 < 2 ^ 60) (hd : 0 < d) (hd2 : d ≤ 59) (hk : (10 : Nat) ^ d < 2 ^ k) (hk2 : k ≤ 8000)
    (hq : ∀ (q : Rat) (o : AO), Sz k q → HandOk (aupd h a o) a (N + 200) c → Q (fr q) (aupd h a o)) : wpC G (n + 3) 21 [.ref a, .int d] h Q E := by
  refine call_i c21 rfl ?_
  unfold c21_law_share
  bv_omega
  refine law_great_spec c10 c12 w (by omega) hd (by omega) fun t o ht w1 => ?_
  refine law_great_spec c10 c12 w1 (by omega) hd (by omega) fun b o2 hb w2 => ?_
  rw [aupd2] at w2 ⊢
  bv_omega
  rw [nat_abs]
  have hbn : (1 + (b.natAbs : Int)).natAbs < 2 ^ k := by omega
  refine law_low_spec c11 (by omega) (Nat.lt_of_lt_of_le hbn (Nat.pow_le_pow_right (by decide) hk2)) ?_
  exact shr_i (hq _ _ (sz_divInt (by omega) (by omega) hbn) (w2.mono (by omega)))
theorem law_share_spec (c10 : G.code 10 = some f10) (c11 : G.code 11 = some f11) (c12 : G.code 12 = some f12) (c21 : G.code 21 = some f21) {a c : Addr} {N d : Nat} (w : HandOk h a N c) (hN : N + 200 < 2 ^ 60) (hd : 0 < d) (hd2 : d ≤ 59)
    (hq : ∀ (q : Rat) (o : AO), Sz 200 q → HandOk (aupd h a o) a (N + 200) c → Q (fr q) (aupd h a o)) : wpC G (n + 3) 21 [.ref a, .int d] h Q E :=
  law_share_gen (k := 200) c10 c11 c12 c21 w hN hd hd2 (Nat.lt_of_le_of_lt (Nat.pow_le_pow_right (by decide) hd2) (by decide)) (by decide) hq
theorem acut63 {ns : List Int} (h : ns.length ≤ 63) : acut (ns.map AV.int) none (some 63) = ns.map AV.int := by
  unfold acut
  have e1 : HT.sIx (ns.map AV.int).length 0 none = 0 := rfl
  have e2 : HT.sIx (ns.map AV.int).length (ns.map AV.int).length (some 63) = ns.length := by
    show (if (63 : Int) < 0 then ((63 : Int) + ((ns.map AV.int).length : Int)).toNat else min (63 : Int).toNat (ns.map AV.int).length) = _
    rw [if_neg (by decide), List.length_map]
    exact Nat.min_eq_right h
  rw [e1, e2, List.drop_zero, Nat.sub_zero]
  rw [List.take_of_length_le (by rw [List.length_map]; exact Nat.le_refl _)]
theorem filterMap_abs {ns : List Int} : (ns.map AV.int).filterMap (fun x => match x with | .int i => some (AV.int (i.natAbs : Int)) | _ => none) = (ns.map fun i => (i.natAbs : Int)).map AV.int := by
  induction ns with
  | nil => rfl
  | cons n ns ih =>
    rw [List.map_cons, List.filterMap_cons]
    simp only [List.map_cons, ih]
theorem law_hand_spec (c20 : G.code 20 = some f20) {ns : List Int} (hl : ns.length ≤ 63) (hq : ∀ q c h', ALe h h' → HandOk h' q 0 c → Q (.ref q) h') : wpC G (n + 1) 20 [.rl (ns.map .int)] h Q E := by
  refine call_i c20 rfl ?_
  unfold c20_law_hand
  bv_omega
  refine comp_pure (wpC_mono G n) ?_
  bv_omega
  intro p hp
  rw [acut63 hl]
  refine v_ref (C := wpC G n) (T := G.T) aupd_same ?_
  refine ⟨by rw [List.length_map]; exact len_small (by omega), fun D acc hD => ?_, fun x => match x with | .int i => some (AV.int (i.natAbs : Int)) | _ => none, fun D hD x hx acc => ?_, fun D hD => ?_⟩
  · show aupd (aupd h p (.lst (ns.map AV.int))) D (.lst acc) p = _
    rw [aupd_ne (fun e => ?_)]
    · exact aupd_same
    · subst e
      rw [aupd_same] at hD
      cases hD
  · obtain ⟨i, hi, rfl⟩ := List.mem_map.mp hx
    bv_omega
    rw [nat_abs]
    exact ⟨rfl, ALe.refl⟩
  · rw [filterMap_abs]
    refine n_lst aupd_same ?_
    have hl2 : (((ns.map fun i => (i.natAbs : Int)).map AV.int).length : Int) ≤ 63 := by simp; omega
    generalize hL : (((ns.map fun i => (i.natAbs : Int)).map AV.int).length : Int) = l at hl2
    have hl0 : 0 ≤ l := by omega
    bv_omega
    refine ⟨mulS (by decide) (by omega), fun q hqn => ?_⟩
    have hDq : D ≠ q := fun e => by subst e; rw [aupd_same] at hqn; cases hqn
    have hpD : p ≠ D := fun e => by subst e; rw [aupd_same] at hD; cases hD
    have hDh : h D = none := by rw [aupd_ne (Ne.symm hpD)] at hD; exact hD
    have l1 : ALe h (aupd h p (.lst (ns.map AV.int))) := ALe.fresh hp
    have l2 := ALe.trans l1 (ALe.fresh (o := .lst ((ns.map fun i => (i.natAbs : Int)).map AV.int)) hD)
    have l3 := ALe.trans l2 (ALe.fresh (o := .lst [.ref D, .int 0, .int 0, .int (83 + 7 * l), .int 0]) hqn)
    refine shr_i (hq q D _ l3 ⟨_, _, _, _, _, aupd_same, hDq, by rw [aupd_ne hDq, aupd_same], fun x hx => ?_, by omega, by omega, by omega, by omega, by omega, by omega⟩)
    obtain ⟨i, _, rfl⟩ := List.mem_map.mp hx
    omega
end PL

namespace PL
open PySem PySem.Spec PyProof.Rows L2
variable {G : Pg}
theorem flat_mono : ∀ (n : Nat) (v : AV), AV.flat n v = true → AV.flat (n + 1) v = true
  | n, .non, _ => by simp [AV.flat]
  | n, .bl _, _ => by simp [AV.flat]
  | n, .int _, _ => by simp [AV.flat]
  | n, .str x, h => by simp [AV.flat] at h ⊢; exact h
  | 0, .tup _, h => by simp [AV.flat] at h
  | n + 1, .tup xs, h => by
    simp only [AV.flat] at h ⊢
    have key : ∀ l : List AV, AV.flats n l = true → AV.flats (n + 1) l = true := by
      intro l
      induction l with
      | nil => intro _; simp [AV.flats]
      | cons y ys ih =>
        intro hh
        simp only [AV.flats, Bool.and_eq_true] at hh ⊢
        exact ⟨flat_mono n y hh.1, ih hh.2⟩
    exact key xs h
  | n, .wt _, h => by simp [AV.flat] at h
  | n, .rl _, h => by simp [AV.flat] at h
  | n, .ref _, h => by simp [AV.flat] at h
theorem flats_mem {n : Nat} : ∀ {l : List AV}, AV.flats n l = true → ∀ x ∈ l, AV.flat n x = true
  | [], _, x, hx => by cases hx
  | y :: ys, h, x, hx => by
    simp only [AV.flats, Bool.and_eq_true] at h
    rcases List.mem_cons.mp hx with rfl | hx
    · exact h.1
    · exact flats_mem h.2 x hx
open Classical in
noncomputable def sameF : AV → Option AV
  | .wt [x, y] => some (.bl (decide (x = y)))
  | _ => none
theorem zip_same : ∀ (xs ys : List AV), xs.length = ys.length → ∃ bs, bls? ((zipL xs ys).filterMap sameF) = some bs ∧ (bs.all id = true ↔ xs = ys)
  | [], [], _ => ⟨[], rfl, by simp⟩
  | [], _ :: _, h => by cases h
  | _ :: _, [], h => by cases h
  | x :: xs, y :: ys, h => by
    obtain ⟨bs, e, i⟩ := zip_same xs ys (by simpa using h)
    refine ⟨@decide (x = y) (Classical.propDecidable _) :: bs, ?_, ?_⟩
    · unfold zipL
      rw [List.filterMap_cons]
      simp only [sameF, bls?, e]
      rfl
    · simp [i]
theorem zip_mem : ∀ {xs ys : List AV} {z : AV}, z ∈ zipL xs ys → ∃ x y, x ∈ xs ∧ y ∈ ys ∧ z = .wt [x, y]
  | [], _, z, h => by unfold zipL at h; cases h
  | _ :: _, [], z, h => by unfold zipL at h; cases h
  | x :: xs, y :: ys, z, h => by
    unfold zipL at h
    rcases List.mem_cons.mp h with rfl | h
    · exact ⟨x, y, List.mem_cons_self, List.mem_cons_self, rfl⟩
    · obtain ⟨a, b, h1, h2, h3⟩ := zip_mem h
      exact ⟨a, b, List.mem_cons_of_mem _ h1, List.mem_cons_of_mem _ h2, h3⟩
theorem law_is_flat (c9 : G.code 9 = some f9) {m : Nat} (x y : AV) (hx : AV.flat 50 x = true) (hy : AV.flat 50 y = true) (hn : ∀ ys, y ≠ .tup ys) {Q : AQ} {E : AXQ} {h : AH} (hq : ∀ b, (b = true ↔ x = y) → Q (.bl b) h) : wpC G (m + 1) 9 [x, y] h Q E := by
  refine call_i c9 rfl ?_
  unfold c9_law_is
  have no : (false = true ↔ x = y) → Q (.bl false) h := hq false
  have yes : x = y → Q (.bl true) h := fun e => hq true (by simp [e])
  cases y with
  | tup ys => exact absurd rfl (hn ys)
  | wt _ => simp [AV.flat] at hy
  | rl _ => simp [AV.flat] at hy
  | ref _ => simp [AV.flat] at hy
  | non =>
    cases x with
    | non => bv_omega; exact shr_i (yes rfl)
    | wt _ => simp [AV.flat] at hx
    | rl _ => simp [AV.flat] at hx
    | ref _ => simp [AV.flat] at hx
    | _ => bv_omega; exact shr_i (no (by simp))
  | bl j =>
    cases x with
    | bl i =>
      bv_omega
      exact shr_i (hq _ (by simp))
    | wt _ => simp [AV.flat] at hx
    | rl _ => simp [AV.flat] at hx
    | ref _ => simp [AV.flat] at hx
    | non => bv_omega; exact shr_i (no (by simp))
    | int i => bv_omega; exact shr_i (no (by simp))
    | str i => bv_omega; exact shr_i (no (by simp))
    | tup xs => bv_omega; exact shr_i (no (by simp))
  | int j =>
    cases x with
    | int i => bv_omega; exact shr_i (hq _ (by simp))
    | wt _ => simp [AV.flat] at hx
    | rl _ => simp [AV.flat] at hx
    | ref _ => simp [AV.flat] at hx
    | non => bv_omega; exact shr_i (no (by simp))
    | bl i => bv_omega; exact shr_i (no (by simp))
    | str i => bv_omega; exact shr_i (no (by simp))
    | tup xs => bv_omega; exact ⟨hx, hy, shr_i (no (by simp))⟩
  | str j =>
    cases x with
    | str i =>
      bv_omega
      refine ⟨⟨by simpa [AV.flat] using hx, by simpa [AV.flat] using hy⟩, shr_i (hq _ (by simp))⟩
    | wt _ => simp [AV.flat] at hx
    | rl _ => simp [AV.flat] at hx
    | ref _ => simp [AV.flat] at hx
    | non => bv_omega; exact shr_i (no (by simp))
    | bl i => bv_omega; exact shr_i (no (by simp))
    | int i => bv_omega; exact shr_i (no (by simp))
    | tup xs => bv_omega; exact shr_i (no (by simp))
def Small : Nat → AV → Prop
  | 0, .tup _ => False
  | d + 1, .tup xs => xs.length ≤ 1000000 ∧ ∀ x ∈ xs, Small d x
  | _, _ => True
theorem law_is_spec (c9 : G.code 9 = some f9) {n : Nat} : ∀ (d : Nat) (x y : AV), AV.flat 50 x = true → AV.flat 50 y = true → Small d y → ∀ {Q : AQ} {E : AXQ} {h : AH}, (∀ b, (b = true ↔ x = y) → Q (.bl b) h) → wpC G (n + d + 1) 9 [x, y] h Q E := by
  intro d
  induction d with
  | zero =>
    intro x y hx hy hs Q E h hq
    exact law_is_flat c9 x y hx hy (fun ys e => by subst e; exact hs) hq
  | succ d ih =>
    intro x y hx hy hs Q E h hq
    have no : (false = true ↔ x = y) → Q (.bl false) h := hq false
    cases y with
    | tup ys =>
      refine call_i c9 rfl ?_
      unfold c9_law_is
      cases x with
      | tup xs =>
        bv_omega
        by_cases hl : xs.length = ys.length
        · simp only [hl]
          bv_omega
          refine comp_pure (wpC_mono G _) ?_
          bv_omega
          refine ⟨xs, ys, rfl, rfl, ?_⟩
          refine ⟨len_small (by rw [zipL_len]; have := hs.1; omega), fun _ _ _ => trivial, sameF, fun D hD z hz acc => ?_, fun D hD => ?_⟩
          · obtain ⟨a, b, ha, hb, rfl⟩ := zip_mem hz
            refine g_wtR rfl ?_
            bv_omega
            simp only [AV.flat] at hx hy
            have fa := flats_mem hx a ha
            have fb := flats_mem hy b hb
            refine ih a b (flat_mono _ _ fa) (flat_mono _ _ fb) (hs.2 b hb) fun r hr => ?_
            refine ⟨?_, ALe.refl⟩
            show some (AV.bl (@decide (a = b) (Classical.propDecidable _))) = _
            congr 2
            cases r <;> simp at hr ⊢ <;> exact hr
          · obtain ⟨bs, e, i⟩ := zip_same xs ys hl
            refine ⟨_, bs, aupd_same, e, ?_⟩
            exact shr_le (ALe.fresh hD) (hq _ (by rw [i]; simp))
        · have e1 : ¬ ((xs.length : Int) = (ys.length : Int)) := by omega
          simp only [e1]
          bv_omega
          exact shr_i (no (by simp; intro e; exact hl (by rw [e])))
      | wt _ => simp [AV.flat] at hx
      | rl _ => simp [AV.flat] at hx
      | ref _ => simp [AV.flat] at hx
      | non => bv_omega; exact shr_i (no (by simp))
      | bl i => bv_omega; exact shr_i (no (by simp))
      | int i => bv_omega; exact shr_i (no (by simp))
      | str i => bv_omega; exact shr_i (no (by simp))
    | _ => exact law_is_flat c9 x _ hx hy (by simp) hq
end PL

namespace PL
open PySem PySem.Spec PyProof.Rows L2
variable {G : Pg} {n : Nat} {Q : AQ} {E : AXQ} {h : AH}
def inV (v : AV) (lo hi : Int) : Bool := match v with | .int i => decide (lo ≤ i) && decide (i ≤ hi) | _ => false
theorem is_within_spec (c0 : G.code 0 = some f0) (c26 : G.code 26 = some f26) {v : AV} {lo hi : Int} (ht : Tyd h v) (hq : Q (.bl (inV v lo hi)) h) : wpC G (n + 2) 26 [v, .int lo, .int hi] h Q E := by
  refine call_i c26 rfl ?_
  unfold c26_is_within
  bv_omega
  refine is_integer_spec c0 ht ?_
  cases v with
  | int i =>
    simp only [PL.isInt]
    bv_omega
    have hq : Q (.bl (decide (lo ≤ i) && decide (i ≤ hi))) h := hq
    by_cases e : lo ≤ i
    · simp only [e, decide_true, Bool.true_and] at hq ⊢
      bv_omega
      exact shr_i hq
    · simp only [e, decide_false, Bool.false_and] at hq ⊢
      bv_omega
      exact shr_i hq
  | wt _ => exact ht.elim
  | _ => simp only [PL.isInt]; bv_omega; exact shr_i hq
theorem raw_at_most_spec (c24 : G.code 24 = some f24) {x y : Rat} {a b : Nat} (hx : Sz a x) (hy : Sz b y) (ha : 0 < a) (hb : 0 < b) (hab : a + b ≤ 100000) (hq : Q (.bl (decide (x ≤ y))) h) : wpC G (n + 1) 24 [fr x, fr y] h Q E := by
  refine call_i c24 rfl ?_
  unfold c24_raw_at_most fr
  bv_omega
  refine ⟨mulW hx.1 (j := (y.den : Int)) hy.2 ha hb (by omega), mulW hy.1 (j := (x.den : Int)) hx.2 hb ha (by omega), ?_⟩
  have e : decide (x.num * (y.den : Int) ≤ y.num * (x.den : Int)) = decide (x ≤ y) := decide_eq_decide.mpr (Rat.le_iff x y).symm
  rw [e]
  exact shr_i hq
theorem at_most_spec (c0 : G.code 0 = some f0) (c1 : G.code 1 = some f1) (c2 : G.code 2 = some f2) (c4 : G.code 4 = some f4) (c24 : G.code 24 = some f24) (c28 : G.code 28 = some f28) {x y : Rat} {a b : Nat} (hx : Sz a x) (hy : Sz b y) (ha : 0 < a) (hb : 0 < b) (hab : a + b ≤ 100000) (hq : Q (.bl (decide (x ≤ y))) h) : wpC G (n + 4) 28 [fr x, fr y] h Q E := by
  refine call_i c28 rfl ?_
  unfold c28_at_most
  bv_omega
  refine check_fraction_spec c0 c1 c2 c4 fr_Tyd (fun _ => ?_) fun e => by rw [isFr_fr] at e; cases e
  refine check_fraction_spec c0 c1 c2 c4 fr_Tyd (fun _ => ?_) fun e => by rw [isFr_fr] at e; cases e
  exact raw_at_most_spec (n := n + 2) c24 hx hy ha hb hab (shr_i hq)
theorem at_most_bad (c0 : G.code 0 = some f0) (c1 : G.code 1 = some f1) (c2 : G.code 2 = some f2) (c4 : G.code 4 = some f4) (c28 : G.code 28 = some f28) {v w : AV} (hv : TydT h v) (hw : TydT h w) (hb : isFr v = false ∨ isFr w = false) (he : E ⟨0, []⟩ h) : wpC G (n + 4) 28 [v, w] h Q E := by
  refine call_i c28 rfl ?_
  unfold c28_at_most
  bv_omega
  refine check_fraction_spec c0 c1 c2 c4 hv (fun e1 => ?_) fun _ => shr_i he
  refine check_fraction_spec c0 c1 c2 c4 hw (fun e2 => ?_) fun _ => shr_i he
  rw [e1, e2] at hb
  rcases hb with hb | hb <;> cases hb
theorem pow_add' (x : Rat) (a : Nat) : ∀ b : Nat, x ^ (a + b) = x ^ a * x ^ b
  | 0 => by rw [Nat.add_zero, Rat.pow_zero, Rat.mul_one]
  | b + 1 => by rw [← Nat.add_assoc, Rat.pow_succ, pow_add' x a b, Rat.pow_succ, Rat.mul_assoc]
theorem inv_pow' (x : Rat) : ∀ m : Nat, (x⁻¹) ^ m = (x ^ m)⁻¹
  | 0 => by rw [Rat.pow_zero, Rat.pow_zero]; decide +kernel
  | m + 1 => by rw [Rat.pow_succ, inv_pow' x m, Rat.pow_succ, Rat.inv_mul_rev, Rat.mul_comm]
theorem sz_pow {k : Nat} {x : Rat} (s : Sz k x) (m : Nat) : Sz (k * m + 1) (x ^ m) := by
  have key : ∀ a : Nat, a < 2 ^ k → a ^ m < 2 ^ (k * m + 1) := fun a ha => by
    have h1 : a ^ m ≤ (2 ^ k) ^ m := Nat.pow_le_pow_left (Nat.le_of_lt ha) m
    rw [← Nat.pow_mul] at h1
    exact Nat.lt_of_le_of_lt h1 (Nat.pow_lt_pow_right (by decide) (Nat.lt_succ_self _))
  refine ⟨?_, ?_⟩
  · rw [Rat.num_pow, Int.natAbs_pow]
    exact key _ s.1
  · rw [Rat.den_pow]
    exact key _ s.2
theorem sz_inv {k : Nat} {x : Rat} (h0 : x ≠ 0) (s : Sz k x) : Sz k x⁻¹ := by
  rw [Rat.inv_def]
  exact sz_divInt (num_nz h0) (by simpa using s.2) s.1
theorem sz_one {k : Nat} (h : 0 < k) : Sz k 1 := by
  have : (2 : Nat) ^ 1 ≤ 2 ^ k := Nat.pow_le_pow_right (by decide) h
  exact ⟨by show 1 < 2 ^ k; omega, by show 1 < 2 ^ k; omega⟩
theorem gcd_pow (x : Rat) (f p : Nat) : (Nat.gcd ((x ^ f).num * (x ^ p).num).natAbs (((x ^ f).den : Int) * (x ^ p).den).natAbs).log2 < 9000 := by
  have e1 : (x ^ f).num * (x ^ p).num = (x ^ (f + p)).num := by rw [Rat.num_pow, Rat.num_pow, Rat.num_pow, Int.pow_add]
  have e2 : ((x ^ f).den : Int) * (x ^ p).den = ((x ^ (f + p)).den : Int) := by rw [Rat.den_pow, Rat.den_pow, Rat.den_pow, Nat.pow_add]; simp
  rw [e1, e2, Int.natAbs_natCast]
  have e3 : Nat.gcd (x ^ (f + p)).num.natAbs (x ^ (f + p)).den = 1 := (x ^ (f + p)).reduced
  rw [e3]
  decide
theorem raw_power_nat (c1 : G.code 1 = some f1) (c3 : G.code 3 = some f3) (c7 : G.code 7 = some f7) (c25 : G.code 25 = some f25) (g4 : G.T.gv 4 = some (fr 1)) {x : Rat} {k m : Nat} (s : Sz k x) (hk : 0 < k) (hb : k * m + 2 ≤ 400000) (hq : Q (fr (x ^ m)) h) : wpC G (n + 4) 25 [fr x, .int m] h Q E := by
  refine call_i c25 rfl ?_
  unfold c25_raw_power
  bv_omega
  have e0 : ¬ ((m : Int) < 0) := by omega
  rw [if_neg e0]
  refine ⟨_, g4, ?_⟩
  refine wp_whl (wpC_mono G _) (fun r σ h' => ∃ f p : Nat, σ = [some (fr x), some (.int m), some (fr (x ^ f)), some (.int r), some (fr (x ^ p))] ∧ h' = h ∧ f + p * r = m) (m := m) ⟨0, 1, by rw [Rat.pow_zero, Rat.pow_one], rfl, by omega⟩ ?_
  rintro r σ h' ⟨f, p, rfl, rfl, hm⟩
  bv_omega
  by_cases hr : r = 0
  · subst hr
    have e1 : ¬ ((0 : Int) < ((0 : Nat) : Int)) := by decide
    rw [if_neg e1]
    have ef : f = m := by omega
    subst ef
    exact shr_i hq
  · have e1 : (0 : Int) < (r : Int) := by omega
    rw [if_pos e1]
    have hp : f + p ≤ m := by
      have : p * 1 ≤ p * r := Nat.mul_le_mul_left p (by omega)
      omega
    have hfp : k * (f + p) ≤ k * m := Nat.mul_le_mul_left k hp
    rw [Nat.mul_add] at hfp
    have e2 : (r : Int).fdiv 2 = ((r / 2 : Nat) : Int) := by rw [fdiv_pos' (by decide)]; rfl
    have hlt : r / 2 < r := Nat.div_lt_self (by omega) (by decide)
    have lg : ((2 : Int).natAbs).log2 < 9000 := by decide
    have tp : ∀ f' : Nat, f' + 2 * p * (r / 2) = m → 0 < r / 2 → wpC G (n + 3) 7 [fr (x ^ p), fr (x ^ p)] h' (fun v h1 => ∃ m', m' < r ∧ ∃ f p, [some (fr x), some (AV.int m), some (fr (x ^ f')), some (AV.int ((r / 2 : Nat) : Int)), some v] = [some (fr x), some (AV.int m), some (fr (x ^ f)), some (AV.int m'), some (fr (x ^ p))] ∧ h1 = h' ∧ f + p * m' = m) (fun x h' => Shr (E x) h') := by
      intro f' hf' h2
      have hpp : p + p ≤ m := by
        have : 2 * p * 1 ≤ 2 * p * (r / 2) := Nat.mul_le_mul_left _ (by omega)
        omega
      have hkp : k * (p + p) ≤ k * m := Nat.mul_le_mul_left k hpp
      rw [Nat.mul_add] at hkp
      refine raw_times_gen (n := n) c1 c3 c7 (sz_pow s p) (sz_pow s p) (by omega) (by omega) (by omega) (gcd_pow x p p) ?_
      rw [← pow_add']
      exact ⟨r / 2, hlt, f', p + p, rfl, rfl, by rw [← hf']; congr 2; omega⟩
    have hd := Nat.div_add_mod r 2
    by_cases ho : r % 2 = 1
    · have e4 : (r : Int) % 2 = 1 := by omega
      have hm2 : f + p + 2 * p * (r / 2) = m := by
        rw [← hm]
        rw [ho] at hd
        have : p * r = 2 * p * (r / 2) + p := by
          rw [← hd]
          rw [hd, Nat.mul_comm 2 p, Nat.mul_assoc, show 2 * (r / 2) = r - 1 by omega, Nat.mul_sub_one]
          have : p ≤ p * r := Nat.le_mul_of_pos_right p (by omega)
          omega
        omega
      simp only [e4]
      bv_omega
      refine raw_times_gen (n := n) c1 c3 c7 (sz_pow s f) (sz_pow s p) (by omega) (by omega) (by omega) (gcd_pow x f p) ?_
      rw [← pow_add']
      refine ⟨lg, ?_⟩
      rw [e2]
      by_cases h2 : r / 2 = 0
      · have e3 : ¬ ((0 : Int) < ((r / 2 : Nat) : Int)) := by omega
        rw [if_neg e3]
        rw [h2] at hm2
        first
          | exact ⟨r / 2, hlt, f + p, p, rfl, rfl, by rw [h2]; simpa using hm2⟩
          | exact ⟨r / 2, hlt, f + p, p, rfl, by rw [h2]; simpa using hm2⟩
      · have e3 : (0 : Int) < ((r / 2 : Nat) : Int) := by omega
        rw [if_pos e3]
        exact tp (f + p) hm2 (by omega)
    · have e4 : ¬ ((r : Int) % 2 = 1) := by omega
      have hm2 : f + 2 * p * (r / 2) = m := by
        rw [← hm]
        have h0 : r % 2 = 0 := by omega
        rw [h0, Nat.add_zero] at hd
        rw [Nat.mul_comm 2 p, Nat.mul_assoc, hd]
      simp only [e4]
      bv_omega
      refine ⟨lg, ?_⟩
      rw [e2]
      by_cases h2 : r / 2 = 0
      · have e3 : ¬ ((0 : Int) < ((r / 2 : Nat) : Int)) := by omega
        rw [if_neg e3]
        rw [h2] at hm2
        first
          | exact ⟨r / 2, hlt, f, p, rfl, rfl, by rw [h2]; simpa using hm2⟩
          | exact ⟨r / 2, hlt, f, p, rfl, by rw [h2]; simpa using hm2⟩
      · have e3 : (0 : Int) < ((r / 2 : Nat) : Int) := by omega
        rw [if_pos e3]
        exact tp f hm2 (by omega)
theorem raw_power_neg (c1 : G.code 1 = some f1) (c3 : G.code 3 = some f3) (c7 : G.code 7 = some f7) (c8 : G.code 8 = some f8) (c25 : G.code 25 = some f25) (g4 : G.T.gv 4 = some (fr 1)) {x : Rat} {k m : Nat} (s : Sz k x) (h0 : x ≠ 0) (hm : 0 < m) (hk : 0 < k) (hk8 : k ≤ 7900) (hb : k * m + 2 ≤ 400000) (hq : Q (fr ((x ^ m)⁻¹)) h) : wpC G (n + 5) 25 [fr x, .int (-(m : Int))] h Q E := by
  refine call_i c25 rfl ?_
  unfold c25_raw_power
  bv_omega
  have e0 : -(m : Int) < 0 := by omega
  rw [if_pos e0]
  have hk2 : k ≤ k * m := Nat.le_mul_of_pos_right k hm
  refine ⟨_, g4, raw_by_spec (n := n + 1) c1 c3 c8 (sz_one (k := 1) (by decide)) s h0 (by decide) hk (by omega) ?_⟩
  have e1 : (1 : Rat) / x = x⁻¹ := by rw [Rat.div_def, Rat.one_mul]
  rw [e1, Int.neg_neg]
  refine raw_power_nat (n := n) c1 c3 c7 c25 g4 (sz_inv h0 s) hk hb ?_
  rw [inv_pow']
  exact shr_i hq
theorem raw_power_spec (c1 : G.code 1 = some f1) (c3 : G.code 3 = some f3) (c7 : G.code 7 = some f7) (c8 : G.code 8 = some f8) (c25 : G.code 25 = some f25) (g4 : G.T.gv 4 = some (fr 1)) {x : Rat} {k m : Nat} {i : Int} (s : Sz k x) (h0 : x ≠ 0 ∨ 0 ≤ i) (hi : i.natAbs ≤ m) (hk : 0 < k) (hk8 : k ≤ 7900) (hb : k * m + 2 ≤ 400000) (hq : Q (fr (x ^ i)) h) : wpC G (n + 5) 25 [fr x, .int i] h Q E := by
  have hkm : k * i.natAbs ≤ k * m := Nat.mul_le_mul_left k hi
  by_cases hn : i < 0
  · have e : i = -(i.natAbs : Int) := by omega
    rw [e] at hq ⊢
    refine raw_power_neg c1 c3 c7 c8 c25 g4 s (h0.resolve_right (by omega)) (by omega) hk hk8 (by omega) ?_
    rw [Rat.zpow_neg, Rat.zpow_natCast] at hq
    exact hq
  · have e : i = (i.natAbs : Int) := by omega
    rw [e] at hq ⊢
    exact raw_power_nat (n := n + 1) c1 c3 c7 c25 g4 s hk (by omega) hq
theorem sz_zpow {k : Nat} {x : Rat} {i : Int} (s : Sz k x) (h0 : x ≠ 0 ∨ 0 ≤ i) : Sz (k * i.natAbs + 1) (x ^ i) := by
  by_cases hn : i < 0
  · have e : i = -(i.natAbs : Int) := by omega
    have h1 : x ≠ 0 := h0.resolve_right (by omega)
    rw [e, Rat.zpow_neg, Rat.zpow_natCast, Int.natAbs_neg, Int.natAbs_natCast]
    refine sz_inv (fun z => ?_) (sz_pow s _)
    have : (x ^ i.natAbs).num = 0 := by rw [z]; rfl
    rw [Rat.num_pow] at this
    exact absurd this (Int.pow_ne_zero (num_nz h1))
  · have e : i = (i.natAbs : Int) := by omega
    rw [e, Rat.zpow_natCast, Int.natAbs_natCast]
    exact sz_pow s _

theorem power_of_spec_m (c0 : G.code 0 = some f0) (c1 : G.code 1 = some f1) (c2 : G.code 2 = some f2) (c3 : G.code 3 = some f3) (c4 : G.code 4 = some f4) (c7 : G.code 7 = some f7) (c8 : G.code 8 = some f8) (c25 : G.code 25 = some f25) (c26 : G.code 26 = some f26) (c27 : G.code 27 = some f27) (g4 : G.T.gv 4 = some (fr 1))
    {x : Rat} {k m : Nat} {i : Int} (s : Sz k x) (h0 : x ≠ 0 ∨ 0 ≤ i) (h1 : -100 ≤ i) (h2 : i ≤ 100) (hk : 0 < k) (hi : i.natAbs ≤ m) (hk8 : k ≤ 7900) (hb : k * m + 2 ≤ 400000) (hq : Q (fr (x ^ i)) h) : wpC G (n + 6) 27 [fr x, .int i] h Q E := by
  refine call_i c27 rfl ?_
  unfold c27_power_of
  bv_omega
  refine check_fraction_spec (n := n + 2) c0 c1 c2 c4 fr_Tyd (fun _ => ?_) fun e => by rw [isFr_fr] at e; cases e
  refine is_within_spec (n := n + 3) c0 c26 trivial ?_
  have hin : inV (.int i) (-100) 100 = true := by
    show (decide (-100 ≤ i) && decide (i ≤ 100)) = true
    simp [h1, h2]
  rw [hin]
  have r := fun Q E h hq => raw_power_spec (n := n) (Q := Q) (E := E) (h := h) c1 c3 c7 c8 c25 g4 (m := m) s h0 hi hk hk8 hb hq
  have ex : fr x = .tup [.int x.num, .int x.den] := rfl
  rw [ex] at r ⊢
  bv_omega
  by_cases hz : x.num = 0
  · simp only [hz]
    bv_omega
    have hi : ¬ i < 0 := by
      rcases h0 with h0 | h0
      · exact absurd hz (num_nz h0)
      · omega
    rw [if_neg hi]
    have r2 := r (fun v h => Shr (Q v) h) (fun x h' => Shr (E x) h') h (shr_i hq)
    rw [hz] at r2
    exact r2
  · simp only [hz]
    bv_omega
    exact r _ _ _ (shr_i hq)
theorem power_of_spec (c0 : G.code 0 = some f0) (c1 : G.code 1 = some f1) (c2 : G.code 2 = some f2) (c3 : G.code 3 = some f3) (c4 : G.code 4 = some f4) (c7 : G.code 7 = some f7) (c8 : G.code 8 = some f8) (c25 : G.code 25 = some f25) (c26 : G.code 26 = some f26) (c27 : G.code 27 = some f27) (g4 : G.T.gv 4 = some (fr 1))
    {x : Rat} {k : Nat} {i : Int} (s : Sz k x) (h0 : x ≠ 0 ∨ 0 ≤ i) (h1 : -100 ≤ i) (h2 : i ≤ 100) (hk : 0 < k) (hb : k * 100 + 2 ≤ 8000) (hq : Q (fr (x ^ i)) h) : wpC G (n + 6) 27 [fr x, .int i] h Q E :=
  power_of_spec_m (m := 100) c0 c1 c2 c3 c4 c7 c8 c25 c26 c27 g4 s h0 h1 h2 hk (by omega) (by omega) (by omega) hq
theorem power_of_bad (c0 : G.code 0 = some f0) (c1 : G.code 1 = some f1) (c2 : G.code 2 = some f2) (c4 : G.code 4 = some f4) (c27 : G.code 27 = some f27) {v w : AV} (hv : TydT h v) (hb : isFr v = false) (he : E ⟨0, []⟩ h) : wpC G (n + 6) 27 [v, w] h Q E := by
  refine call_i c27 rfl ?_
  unfold c27_power_of
  bv_omega
  refine check_fraction_spec (n := n + 2) c0 c1 c2 c4 hv (fun e => ?_) fun _ => shr_i he
  rw [hb] at e
  cases e
theorem power_of_num (c0 : G.code 0 = some f0) (c1 : G.code 1 = some f1) (c2 : G.code 2 = some f2) (c4 : G.code 4 = some f4) (c26 : G.code 26 = some f26) (c27 : G.code 27 = some f27) {x : Rat} {w : AV} (hw : Tyd h w) (hb : inV w (-100) 100 = false) (he : E ⟨2, []⟩ h) : wpC G (n + 6) 27 [fr x, w] h Q E := by
  refine call_i c27 rfl ?_
  unfold c27_power_of
  bv_omega
  refine check_fraction_spec (n := n + 2) c0 c1 c2 c4 fr_Tyd (fun _ => ?_) fun e => by rw [isFr_fr] at e; cases e
  refine is_within_spec (n := n + 3) c0 c26 hw ?_
  rw [hb]
  bv_omega
  exact shr_i he
theorem power_of_zero (c0 : G.code 0 = some f0) (c1 : G.code 1 = some f1) (c2 : G.code 2 = some f2) (c4 : G.code 4 = some f4) (c26 : G.code 26 = some f26) (c27 : G.code 27 = some f27) {i : Int} (h1 : -100 ≤ i) (h2 : i < 0) (he : E ⟨1, []⟩ h) : wpC G (n + 6) 27 [fr 0, .int i] h Q E := by
  refine call_i c27 rfl ?_
  unfold c27_power_of
  bv_omega
  refine check_fraction_spec (n := n + 2) c0 c1 c2 c4 fr_Tyd (fun _ => ?_) fun e => by rw [isFr_fr] at e; cases e
  refine is_within_spec (n := n + 3) c0 c26 trivial ?_
  have hin : inV (.int i) (-100) 100 = true := by
    show (decide (-100 ≤ i) && decide (i ≤ 100)) = true
    have : i ≤ 100 := by omega
    simp [h1, this]
  rw [hin]
  have ex : fr 0 = .tup [.int 0, .int 1] := rfl
  rw [ex]
  bv_omega
  rw [if_pos h2]
  exact shr_i he
end PL

namespace PL
open PySem PySem.Spec PyProof.Rows L2
def sl (a b : Str) : Prop := a.cps.toList < b.cps.toList
instance (a b : Str) : Decidable (sl a b) := inferInstanceAs (Decidable (a.cps.toList < b.cps.toList))
theorem sl_trans {a b c : Str} (h : sl a b) (k : sl b c) : sl a c := List.lt_trans h k
theorem sl_irrefl (a : Str) : ¬ sl a a := List.lt_irrefl _
theorem sl_asymm {a b : Str} (h : sl a b) : ¬ sl b a := fun k => sl_irrefl _ (sl_trans h k)
theorem sl_ne {a b : Str} (h : sl a b) : a ≠ b := fun e => sl_irrefl b (e ▸ h)
theorem sl_total {a b : Str} (h : ¬ sl a b) (k : ¬ sl b a) : a = b := by
  have e : a.cps.toList = b.cps.toList := List.le_antisymm (List.not_lt.mp k) (List.not_lt.mp h)
  have : a.cps = b.cps := Array.toList_inj.mp e
  cases a; cases b; simp_all
abbrev NM (α : Type) := List (Str × α)
section
variable {α : Type} {f : α → AV}
def prf (f : α → AV) (p : Str × α) : AV := .tup [.str p.1, f p.2]
def kvf (f : α → AV) (p : Str × α) : Key × AV := (.inr p.1, f p.2)
def np (f : α → AV) (d : NM α) : AV := .tup (d.map (prf f))
def Asc (d : NM α) : Prop := d.Pairwise fun p q => sl p.1 q.1
def NKs (d : NM α) : Prop := (d.map (·.1)).Nodup
theorem Asc.nks {d : NM α} (h : Asc d) : NKs d := by
  unfold NKs List.Nodup
  rw [List.pairwise_map]
  exact List.Pairwise.imp (fun h => sl_ne h) h
theorem pairs_np : ∀ (d : NM α), pairs? (d.map (prf f)) = some (d.map (kvf f))
  | [] => rfl
  | p :: d => by
    rw [List.map_cons, List.map_cons]
    show (match AV.toKey (.str p.1), pairs? (d.map (prf f)) with | some k, some r => some ((k, f p.2) :: r) | _, _ => none) = _
    rw [pairs_np d]
    rfl
def dset (d : NM α) (b : Str) (v : α) : NM α := if b ∈ d.map (·.1) then d.map (fun p => if p.1 = b then (p.1, v) else p) else d ++ [(b, v)]
theorem dput_kv {d : NM α} {b : Str} {v : α} : dput (d.map (kvf f)) (.inr b) (f v) = (dset d b v).map (kvf f) := by
  unfold dput dset
  have e : ((d.map (kvf f)).any fun kv => decide (kv.1 = (.inr b : Key))) = decide (b ∈ d.map (·.1)) := by
    induction d with
    | nil => rfl
    | cons p d ih =>
      rw [List.map_cons, List.any_cons, ih, List.map_cons]
      have : decide ((kvf f p).1 = (.inr b : Key)) = decide (b = p.1) := by
        apply decide_eq_decide.mpr
        show Sum.inr p.1 = Sum.inr b ↔ _
        constructor
        · intro h; exact (Sum.inr.inj h).symm
        · intro h; rw [h]
      rw [this]
      by_cases h : b = p.1 <;> simp [h]
  rw [e]
  by_cases h : b ∈ d.map (·.1)
  · simp only [h, decide_true, if_true, List.map_map]
    apply List.map_congr_left
    intro p hp
    show (if (kvf f p).1 = (.inr b : Key) then ((kvf f p).1, f v) else kvf f p) = kvf f (if p.1 = b then (p.1, v) else p)
    by_cases hb : p.1 = b
    · have : (kvf f p).1 = (.inr b : Key) := by show Sum.inr p.1 = _; rw [hb]
      rw [if_pos this, if_pos hb]; rfl
    · have : ¬ (kvf f p).1 = (.inr b : Key) := fun e => hb (Sum.inr.inj e)
      rw [if_neg this, if_neg hb]
  · simp only [h, decide_false, Bool.false_eq_true, if_false, List.map_append]
    rfl
theorem keys_dset {d : NM α} {b : Str} {v : α} : (dset d b v).map (·.1) = if b ∈ d.map (·.1) then d.map (·.1) else d.map (·.1) ++ [b] := by
  unfold dset
  split
  · rw [List.map_map]
    apply List.map_congr_left
    intro p _
    show (if p.1 = b then (p.1, v) else p).1 = p.1
    split <;> rfl
  · rw [List.map_append]; rfl
theorem nks_dset {d : NM α} {b : Str} {v : α} (h : NKs d) : NKs (dset d b v) := by
  unfold NKs
  rw [keys_dset]
  split
  · exact h
  · rename_i hb
    exact List.nodup_append.mpr ⟨h, by simp, by
      intro x hx y hy e
      rw [List.mem_singleton.mp hy] at e
      exact hb (e ▸ hx)⟩
theorem mem_keys_dset {d : NM α} {b x : Str} {v : α} (h : x ∈ (dset d b v).map (·.1)) : x ∈ d.map (·.1) ∨ x = b := by
  rw [keys_dset] at h
  split at h
  · exact .inl h
  · rcases List.mem_append.mp h with h | h
    · exact .inl h
    · exact .inr (List.mem_singleton.mp h)
theorem mem_dset {d : NM α} {b : Str} {v : α} {q : Str × α} (h : q ∈ dset d b v) : q ∈ d ∨ q = (b, v) := by
  unfold dset at h
  split at h
  · obtain ⟨p, hp, rfl⟩ := List.mem_map.mp h
    split
    · rename_i e; exact .inr (by rw [e])
    · exact .inl hp
  · rcases List.mem_append.mp h with h | h
    · exact .inl h
    · exact .inr (List.mem_singleton.mp h)
theorem lookup_map_kv {d : NM α} {b : Str} : dget (d.map (kvf f)) (.inr b) = (d.lookup b).map f := by
  unfold dget
  induction d with
  | nil => rfl
  | cons p d ih =>
    rw [List.map_cons, List.find?_cons, List.lookup_cons]
    by_cases h : b = p.1
    · have e1 : decide ((kvf f p).1 = (.inr b : Key)) = true := decide_eq_true (by show Sum.inr p.1 = _; rw [h])
      have e2 : (b == p.1) = true := by simp [h]
      rw [e1, e2]
      rfl
    · have e1 : decide ((kvf f p).1 = (.inr b : Key)) = false := decide_eq_false (fun e => h (Sum.inr.inj e).symm)
      have e2 : (b == p.1) = false := by simp [h]
      rw [e1, e2]
      exact ih
theorem lookup_none {d : NM α} {b : Str} (h : b ∉ d.map (·.1)) : d.lookup b = none := by
  induction d with
  | nil => rfl
  | cons p d ih =>
    rw [List.map_cons] at h
    rw [List.lookup_cons]
    have e : (b == p.1) = false := by
      have : b ≠ p.1 := fun e => h (e ▸ List.mem_cons_self)
      simp [this]
    rw [e]
    exact ih (fun hh => h (List.mem_cons_of_mem _ hh))
theorem lookup_mem {d : NM α} {b : Str} {v : α} (h : d.lookup b = some v) : (b, v) ∈ d := by
  induction d with
  | nil => cases h
  | cons p d ih =>
    rw [List.lookup_cons] at h
    by_cases e : b = p.1
    · have e2 : (b == p.1) = true := by simp [e]
      rw [e2] at h
      cases h
      rw [e]
      exact List.mem_cons_self
    · have e2 : (b == p.1) = false := by simp [e]
      rw [e2] at h
      exact List.mem_cons_of_mem _ (ih h)
theorem lookup_some {d : NM α} {b : Str} {v : α} (hn : NKs d) (h : (b, v) ∈ d) : d.lookup b = some v := by
  induction d with
  | nil => cases h
  | cons p d ih =>
    rw [List.lookup_cons]
    unfold NKs at hn
    rw [List.map_cons, List.nodup_cons] at hn
    rcases List.mem_cons.mp h with h | h
    · subst h
      simp
    · have hb : b ≠ p.1 := fun e => hn.1 (e ▸ List.mem_map_of_mem (f := (·.1)) h)
      have e2 : (b == p.1) = false := by simp [hb]
      rw [e2]
      exact ih hn.2 h
theorem lookup_dset {d : NM α} {b x : Str} {v : α} : (dset d b v).lookup x = if x = b then some v else d.lookup x := by
  unfold dset
  by_cases hb : b ∈ d.map (·.1)
  · rw [if_pos hb]
    induction d with
    | nil => cases hb
    | cons p d ih =>
      rw [List.map_cons, List.lookup_cons, List.lookup_cons]
      by_cases hp : p.1 = b
      · rw [if_pos hp]
        by_cases hx : x = b
        · subst hx
          simp [hp]
        · have e : (x == p.1) = false := by simp [hp, hx]
          simp only [e, if_neg hx]
          by_cases hb2 : b ∈ d.map (·.1)
          · rw [ih hb2, if_neg hx]
          · congr 1
            have : d.map (fun p => if p.1 = b then (p.1, v) else p) = d.map id := by
              apply List.map_congr_left
              intro q hq
              have : q.1 ≠ b := fun e => hb2 (e ▸ List.mem_map_of_mem (f := (·.1)) hq)
              simp [this]
            rw [this, List.map_id]
      · rw [if_neg hp]
        by_cases hx : x = p.1
        · have hxb : ¬ x = b := fun e => hp (hx ▸ e)
          have e : (x == p.1) = true := by simp [hx]
          simp only [e, if_neg hxb]
        · have e : (x == p.1) = false := by simp [hx]
          simp only [e]
          rw [List.map_cons] at hb
          refine ih ?_
          rcases List.mem_cons.mp hb with hb | hb
          · exact absurd hb.symm hp
          · exact hb
  · rw [if_neg hb, List.lookup_append]
    by_cases hx : x = b
    · subst hx
      rw [lookup_none hb]
      simp
    · have : List.lookup x [(b, v)] = none := by
        rw [List.lookup_cons]
        have e : (x == b) = false := by simp [hx]
        rw [e]; rfl
      rw [this, if_neg hx, Option.or_none]
theorem merge_kv : ∀ (e d : NM α), (∀ p ∈ e, p.1 ∉ d.map (·.1)) → NKs e → merge (d.map (kvf f)) (e.map (kvf f)) = (d ++ e).map (kvf f)
  | [], d, _, _ => by simp [merge]
  | p :: e, d, h, n => by
    unfold NKs at n
    rw [List.map_cons, List.nodup_cons] at n
    have hp := h p List.mem_cons_self
    have e1 : dset d p.1 p.2 = d ++ [p] := by unfold dset; rw [if_neg hp]
    show merge (dput (d.map (kvf f)) (.inr p.1) (f p.2)) (e.map (kvf f)) = _
    rw [dput_kv, e1, merge_kv e (d ++ [p]) ?_ n.2]
    · rw [List.append_assoc]; rfl
    · intro q hq
      rw [List.map_append]
      intro hh
      rcases List.mem_append.mp hh with hh | hh
      · exact h q (List.mem_cons_of_mem _ hq) hh
      · have e : q.1 = p.1 := List.mem_singleton.mp hh
        have := List.mem_map_of_mem (f := fun x : Str × α => x.1) hq
        exact n.1 (by rw [← e]; exact this)
theorem dict_np {d : NM α} (hn : NKs d) {h : AH} {Q : AQ} (q : newD h (d.map (kvf f)) Q) : dictR (np f d) h Q := by
  refine ⟨_, pairs_np d, ?_⟩
  have e := merge_kv (f := f) d [] (by simp) hn
  have e : merge [] (d.map (kvf f)) = d.map (kvf f) := e
  rw [e]
  exact q
theorem keys_kv {d : NM α} : (d.map (kvf f)).map (·.1) = (d.map (·.1)).map Sum.inr := by
  rw [List.map_map, List.map_map]; rfl
theorem ext_np {d e : NM α} (hd : Asc d) (he : Asc e) (h : ∀ b, d.lookup b = e.lookup b) : d = e := by
  have hm : ∀ {d e : NM α}, Asc d → (∀ b, d.lookup b = e.lookup b) → ∀ p, p ∈ d → p ∈ e := by
    intro d e hd h p hp
    have := lookup_some hd.nks hp
    rw [h] at this
    exact lookup_mem this
  have nd : ∀ {d : NM α}, Asc d → d.Nodup := by
    intro d hd
    unfold List.Nodup
    exact List.Pairwise.imp (fun hpq e => sl_ne hpq (congrArg Prod.fst e)) hd
  have pm : d.Perm e := by
    refine (List.perm_ext_iff_of_nodup (nd hd) (nd he)).mpr fun p => ⟨hm hd h p, hm he (fun b => (h b).symm) p⟩
  exact List.Perm.eq_of_pairwise (fun a b _ _ h1 h2 => absurd h2 (sl_asymm h1)) hd he pm
end
theorem sorted_asc {ys : List Str} (hs : sortedS ys = true) (hn : ys.Nodup) : ys.Pairwise sl := by
  have key : ∀ (ys : List Str) (p : Str), risingS p ys = true → (∀ y ∈ ys, p = y ∨ sl p y) ∧ ys.Pairwise (fun a b => a = b ∨ sl a b) := by
    intro ys
    induction ys with
    | nil => intro p _; exact ⟨by simp, List.Pairwise.nil⟩
    | cons x r ih =>
      intro p h
      unfold risingS at h
      rw [Bool.and_eq_true] at h
      obtain ⟨i1, i2⟩ := ih x h.2
      have px : p = x ∨ sl p x := by
        have h1 := h.1
        rw [ltCps_eq] at h1
        have h1 : ¬ sl x p := by
          intro hh
          have : decide (x.cps.toList < p.cps.toList) = true := decide_eq_true hh
          rw [this] at h1; cases h1
        by_cases hp : sl p x
        · exact .inr hp
        · exact .inl (sl_total hp h1)
      refine ⟨?_, List.pairwise_cons.mpr ⟨i1, i2⟩⟩
      intro y hy
      rcases List.mem_cons.mp hy with rfl | hy
      · exact px
      · rcases px with e | px
        · rw [e]; exact i1 y hy
        · rcases i1 y hy with rfl | hxy
          · exact .inr px
          · exact .inr (sl_trans px hxy)
  have weak : ys.Pairwise (fun a b => a = b ∨ sl a b) := by
    cases ys with
    | nil => exact List.Pairwise.nil
    | cons x r =>
      obtain ⟨i1, i2⟩ := key r x hs
      exact List.pairwise_cons.mpr ⟨i1, i2⟩
  exact List.Pairwise.imp₂ (fun a b h1 h2 => h1.resolve_left h2) weak hn
theorem len_nodup_sub {α : Type} [DecidableEq α] : ∀ {xs ys : List α}, xs.Nodup → (∀ x ∈ xs, x ∈ ys) → xs.length ≤ ys.length
  | [], ys, _, _ => Nat.zero_le _
  | x :: xs, ys, hn, hs => by
    rw [List.nodup_cons] at hn
    have hx := hs x List.mem_cons_self
    have := len_nodup_sub (xs := xs) (ys := ys.erase x) hn.2 (fun y hy => (List.mem_erase_of_ne (fun e : y = x => hn.1 (by rw [← e]; exact hy))).mpr (hs y (List.mem_cons_of_mem _ hy)))
    rw [List.length_erase_of_mem hx] at this
    have := List.length_pos_of_mem hx
    rw [List.length_cons]
    omega
end PL

namespace PL
open PySem PySem.Spec PyProof.Rows L2
mutual
def DTy (h : AH) : AV → Prop
  | .ref a => (∃ xs, h a = some (.lst xs)) ∨ ∃ kvs, h a = some (.dK kvs)
  | .wt _ => False
  | .str z => z.length ≤ 1000000
  | .tup xs => xs.length ≤ 1000000 ∧ DTys h xs
  | .non => True
  | .bl _ => True
  | .int _ => True
  | .rl _ => True
def DTys (h : AH) : List AV → Prop
  | [] => True
  | x :: xs => DTy h x ∧ DTys h xs
end
theorem DTys.mem {h : AH} : ∀ {xs : List AV}, DTys h xs → ∀ x ∈ xs, DTy h x
  | [], _, x, hx => by cases hx
  | y :: ys, d, x, hx => by
    unfold DTys at d
    rcases List.mem_cons.mp hx with rfl | hx
    · exact d.1
    · exact DTys.mem d.2 x hx
theorem DTys.of {h : AH} : ∀ {xs : List AV}, (∀ x ∈ xs, DTy h x) → DTys h xs
  | [], _ => by unfold DTys; trivial
  | y :: ys, d => by
    unfold DTys
    exact ⟨d y List.mem_cons_self, DTys.of fun x hx => d x (List.mem_cons_of_mem _ hx)⟩
theorem dty_tup {h : AH} {xs : List AV} : DTy h (.tup xs) ↔ xs.length ≤ 1000000 ∧ ∀ x ∈ xs, DTy h x := by
  constructor
  · intro d
    unfold DTy at d
    exact ⟨d.1, d.2.mem⟩
  · intro d
    unfold DTy
    exact ⟨d.1, DTys.of d.2⟩
theorem dty_ref {h : AH} {a : Addr} : DTy h (.ref a) ↔ ((∃ xs, h a = some (.lst xs)) ∨ ∃ kvs, h a = some (.dK kvs)) := by
  constructor
  · intro d; unfold DTy at d; exact d
  · intro d; unfold DTy; exact d
theorem dty_str {h : AH} {z : Str} : DTy h (.str z) ↔ z.length ≤ 1000000 := by
  constructor
  · intro d; unfold DTy at d; exact d
  · intro d; unfold DTy; exact d
theorem dty_wt {h : AH} {xs : List AV} (d : DTy h (.wt xs)) : False := by unfold DTy at d; exact d
theorem DTy.tyd {h : AH} {v : AV} (d : DTy h v) : Tyd h v := by
  cases v with
  | ref a => exact dty_ref.mp d
  | wt _ => exact (dty_wt d).elim
  | _ => exact trivial
mutual
theorem DTy.mono {h h' : AH} (l : ALe h h') : ∀ {v : AV}, DTy h v → DTy h' v
  | .ref a, d => by
    rcases dty_ref.mp d with ⟨xs, e⟩ | ⟨xs, e⟩
    · exact dty_ref.mpr (.inl ⟨xs, l _ _ e⟩)
    · exact dty_ref.mpr (.inr ⟨xs, l _ _ e⟩)
  | .wt _, d => (dty_wt d).elim
  | .str z, d => dty_str.mpr (dty_str.mp d)
  | .tup xs, d => by
    unfold DTy at d ⊢
    exact ⟨d.1, DTys.mono l d.2⟩
  | .non, _ => by unfold DTy; trivial
  | .bl _, _ => by unfold DTy; trivial
  | .int _, _ => by unfold DTy; trivial
  | .rl _, _ => by unfold DTy; trivial
theorem DTys.mono {h h' : AH} (l : ALe h h') : ∀ {xs : List AV}, DTys h xs → DTys h' xs
  | [], _ => by unfold DTys; trivial
  | x :: xs, d => by
    unfold DTys at d ⊢
    exact ⟨DTy.mono l d.1, DTys.mono l d.2⟩
end
mutual
def clB : AV → Bool
  | .ref _ => false
  | .wt _ => false
  | .str z => decide (z.length ≤ 1000000)
  | .tup xs => decide (xs.length ≤ 1000000) && clBs xs
  | _ => true
def clBs : List AV → Bool
  | [] => true
  | x :: xs => clB x && clBs xs
end
mutual
theorem clB_dty {h : AH} : ∀ {v : AV}, clB v = true → DTy h v
  | .ref _, c => by simp [clB] at c
  | .wt _, c => by simp [clB] at c
  | .str z, c => dty_str.mpr (by simpa [clB] using c)
  | .tup xs, c => by
    simp only [clB, Bool.and_eq_true, decide_eq_true_eq] at c
    unfold DTy
    exact ⟨c.1, clBs_dty c.2⟩
  | .non, _ => by unfold DTy; trivial
  | .bl _, _ => by unfold DTy; trivial
  | .int _, _ => by unfold DTy; trivial
  | .rl _, _ => by unfold DTy; trivial
theorem clBs_dty {h : AH} : ∀ {xs : List AV}, clBs xs = true → DTys h xs
  | [], _ => by unfold DTys; trivial
  | x :: xs, c => by
    simp only [clBs, Bool.and_eq_true] at c
    unfold DTys
    exact ⟨clB_dty c.1, clBs_dty c.2⟩
end
def letC (c : Nat) : Bool := decide (c ∈ ("abcdefghijklmnopqrstuvwxyz" : Str).cps.toList)
def nameOk (s : Str) : Bool := decide (1 ≤ s.length ∧ s.length ≤ 8) && s.cps.toList.all letC
def isName : AV → Bool | .str s => nameOk s | _ => false
def isNP : AV → Bool | .tup [a, _] => isName a | _ => false
def keyOf : AV → Str | .tup (.str s :: _) => s | _ => ⟨#[]⟩
def ascA : List AV → Bool
  | x :: y :: r => decide (sl (keyOf x) (keyOf y)) && ascA (y :: r)
  | _ => true
def areNP : AV → Bool | .tup xs => xs.all isNP && ascA xs | _ => false
def expOk : AV → Bool | .tup [_, .int n] => decide (n ≠ 0) | _ => false
def isDim (v : AV) : Bool := areNP v && match v with | .tup xs => xs.all expOk | _ => false
theorem isNP_key {x : AV} (h : isNP x = true) : ∃ s y, x = .tup [.str s, y] ∧ nameOk s = true := by
  match x, h with
  | .tup [.str s, y], h => exact ⟨s, y, rfl, h⟩
  | .tup [.non, _], h => cases h
  | .tup [.bl _, _], h => cases h
  | .tup [.int _, _], h => cases h
  | .tup [.tup _, _], h => cases h
  | .tup [.wt _, _], h => cases h
  | .tup [.rl _, _], h => cases h
  | .tup [.ref _, _], h => cases h
def fstC : AV → Nat | .str s => s.cps.toList.headD 0 | _ => 0
def blF (P : AV → Bool) : AV → Option AV := fun x => some (.bl (P x))
theorem bls_map (P : AV → Bool) : ∀ (xs : List AV), bls? (xs.filterMap (blF P)) = some (xs.map P)
  | [] => rfl
  | x :: xs => by
    rw [List.filterMap_cons]
    show (bls? (List.filterMap (blF P) xs)).map (P x :: ·) = _
    rw [bls_map P xs]; rfl
theorem all_map (P : AV → Bool) (xs : List AV) : (xs.map P).all id = xs.all P := by
  rw [List.all_map]; rfl
section
variable {G : Pg} {n : Nat} {T : Tb} {C : ACall} (hC : CMono C)
include hC
theorem all_comp {own : List Nat} {g it elt : CE} {σ : AEnv} {h : AH} {Q : AQ} {E : AXQ} (q : wpI C T it σ h (fun xs chk h1 => xs.length ≤ 1000000 ∧ (∀ h2, ALe h1 h2 → chk h2) ∧ ∃ P : AV → Bool,
      (∀ x ∈ xs, ∀ h2, ALe h1 h2 → wpG C T g x (awipe σ own) h2 fun σ2 h3 => wpE C T elt σ2 h3 (fun y h4 => y = .bl (P x) ∧ ALe h2 h4) fun _ _ => False) ∧
      ∀ h2, ALe h1 h2 → Q (.bl (xs.all P)) h2) E) : wpE C T (.comp own g it .nil elt) σ h (fun x h1 => allR x h1 Q) E := by
  refine comp_pure hC (wpI_mono hC it (fun xs chk h1 q => ?_) (fun _ _ z => z) q)
  obtain ⟨hl, hc, P, hs, hf⟩ := q
  refine ⟨len_small hl, fun D acc hD => hc _ (ALe.fresh hD), blF P, fun D hD x hx acc => ?_, fun D hD => ?_⟩
  · refine wpG_mono hC g (fun σ2 h3 q => ?_) (hs x hx _ (ALe.fresh hD))
    show wpE C T elt σ2 h3 _ _
    refine wpE_mono hC elt (fun y h4 q => ?_) (fun _ _ z => z) q
    exact ⟨by rw [q.1]; rfl, q.2⟩
  · refine al_lst aupd_same (bls_map P xs) ?_
    rw [all_map]
    exact hf _ (ALe.fresh hD)
end
variable {G : Pg} {n : Nat} {Q : AQ} {E : AXQ} {h : AH}
theorem is_name_spec (c34 : G.code 34 = some f34) (g0 : G.T.gv 0 = some (.int 8)) (g1 : G.T.gv 1 = some (.str "abcdefghijklmnopqrstuvwxyz")) {v : AV} (ht : DTy h v) (hq : Q (.bl (isName v)) h) : wpC G (n + 1) 34 [v] h Q E := by
  refine call_i c34 rfl ?_
  unfold c34_is_name
  cases v with
  | str z =>
    have hz := dty_str.mp ht
    bv_omega
    refine ⟨len_small hz, ?_⟩
    have hq : Q (.bl (decide (1 ≤ z.length ∧ z.length ≤ 8) && z.cps.toList.all letC)) h := hq
    by_cases e1 : (1 : Int) ≤ z.length
    · rw [if_pos e1]
      refine ⟨_, g0, ?_⟩
      bv_omega
      by_cases e2 : (z.length : Int) ≤ 8
      · rw [if_pos e2]
        refine all_comp (wpC_mono G n) ?_
        bv_omega
        refine ⟨by rw [List.length_map]; exact hz, fun _ _ => trivial, fun x => letC (fstC x), ?_, ?_⟩
        · intro x hx h2 _
          obtain ⟨c, _, rfl⟩ := List.mem_map.mp hx
          bv_omega
          refine ⟨_, g1, ?_⟩
          bv_omega
          exact ⟨rfl, ALe.refl⟩
        · intro h2 l
          have e : ((z.cps.toList.map fun c => AV.str ⟨#[c]⟩).all fun x => letC (fstC x)) = z.cps.toList.all letC := by
            rw [List.all_map]; rfl
          rw [e]
          have e3 : decide (1 ≤ z.length ∧ z.length ≤ 8) = true := decide_eq_true ⟨by omega, by omega⟩
          rw [e3, Bool.true_and] at hq
          exact shr_le l hq
      · rw [if_neg e2]
        have e3 : decide (1 ≤ z.length ∧ z.length ≤ 8) = false := decide_eq_false (by omega)
        rw [e3, Bool.false_and] at hq
        exact shr_i hq
    · rw [if_neg e1]
      have e3 : decide (1 ≤ z.length ∧ z.length ≤ 8) = false := decide_eq_false (by omega)
      rw [e3, Bool.false_and] at hq
      exact shr_i hq
  | ref a =>
    bv_omega
    rcases dty_ref.mp ht with ⟨xs, e⟩ | ⟨xs, e⟩
    · refine t_lst e ?_
      bv_omega
      exact shr_i hq
    · refine t_dK e ?_
      bv_omega
      exact shr_i hq
  | wt _ => exact (dty_wt ht).elim
  | _ =>
    bv_omega
    exact shr_i hq
theorem mem_rangeL : ∀ {n : Nat} {lo : Int} {x : AV}, x ∈ rangeL lo n ↔ ∃ i : Nat, i < n ∧ x = .int (lo + i)
  | 0, lo, x => by
    unfold rangeL
    constructor
    · intro h; cases h
    · rintro ⟨i, hi, _⟩; omega
  | n + 1, lo, x => by
    unfold rangeL
    rw [List.mem_cons, mem_rangeL (lo := lo + 1)]
    constructor
    · rintro (rfl | ⟨i, hi, rfl⟩)
      · exact ⟨0, by omega, by simp⟩
      · exact ⟨i + 1, by omega, by congr 1; push_cast; omega⟩
    · rintro ⟨i, hi, rfl⟩
      cases i with
      | zero => exact .inl (by simp)
      | succ i => exact .inr ⟨i, by omega, by congr 1; push_cast; omega⟩
def ascAt (xs : List AV) (i : Nat) : Bool := decide (sl (keyOf (xs.getD i .non)) (keyOf (xs.getD (i + 1) .non)))
theorem ascA_iff : ∀ (xs : List AV), ascA xs = true ↔ ∀ i : Nat, i + 1 < xs.length → ascAt xs i = true
  | [] => by simp [ascA]
  | [x] => by simp [ascA]
  | x :: y :: r => by
    unfold ascA
    rw [Bool.and_eq_true, ascA_iff (y :: r)]
    constructor
    · rintro ⟨h1, h2⟩ i hi
      cases i with
      | zero => exact h1
      | succ i => exact h2 i (by simpa using hi)
    · intro h
      exact ⟨h 0 (by simp), fun i hi => h (i + 1) (by simpa using hi)⟩
theorem atI_nat {xs : List AV} {i : Nat} (h : i < xs.length) : atI xs (i : Int) = some (xs.getD i .non) := by
  unfold atI
  rw [if_pos (by omega)]
  simp [h]
theorem getD_mem {xs : List AV} {i : Nat} (h : i < xs.length) : xs.getD i .non ∈ xs := by
  have e : xs.getD i .non = xs[i] := by simp [h]
  rw [e]
  exact List.getElem_mem h
theorem len_two {x : AV} (h : isNP x = true) : ∃ s y, x = .tup [.str s, y] ∧ nameOk s = true := isNP_key h
theorem are_named_pairs_spec (c34 : G.code 34 = some f34) (c35 : G.code 35 = some f35) (g0 : G.T.gv 0 = some (.int 8)) (g1 : G.T.gv 1 = some (.str "abcdefghijklmnopqrstuvwxyz")) {v : AV} (ht : DTy h v) (hq : Q (.bl (areNP v)) h) : wpC G (n + 2) 35 [v] h Q E := by
  refine call_i c35 rfl ?_
  unfold c35_are_named_pairs
  cases v with
  | tup xs =>
    obtain ⟨hl, hx⟩ := dty_tup.mp ht
    have hq : Q (.bl (xs.all isNP && ascA xs)) h := hq
    bv_omega
    refine all_comp (wpC_mono G (n + 1)) ?_
    bv_omega
    refine ⟨hl, fun _ _ => trivial, isNP, fun x hx' h2 l => ?_, fun h2 l => ?_⟩
    · have dx := (hx x hx').mono l
      cases x with
      | tup ys =>
        obtain ⟨hl2, hy⟩ := dty_tup.mp dx
        match ys, hy with
        | [], _ => bv_omega; simp; exact ⟨rfl, ALe.refl⟩
        | [_], _ => bv_omega; simp; exact ⟨rfl, ALe.refl⟩
        | a :: b :: c :: r, _ =>
          bv_omega
          have e : ¬ (((r.length + 1 + 1 + 1 : Nat) : Int) = 2) := by omega
          simp only [e, if_false]
          exact ⟨rfl, ALe.refl⟩
        | [a, b], hy =>
          bv_omega
          have e : ((0 + 1 + 1 : Nat) : Int) = 2 := rfl
          simp only [e, if_true]
          exact is_name_spec c34 g0 g1 (hy a (by simp)) ⟨rfl, ALe.refl⟩
      | ref a =>
        rcases dty_ref.mp dx with ⟨xs, e⟩ | ⟨xs, e⟩
        · refine t_lst e ?_
          bv_omega
          exact ⟨rfl, ALe.refl⟩
        · refine t_dK e ?_
          bv_omega
          exact ⟨rfl, ALe.refl⟩
      | wt _ => exact (dty_wt dx).elim
      | _ =>
        bv_omega
        exact ⟨rfl, ALe.refl⟩
    · by_cases ha : xs.all isNP = true
      · rw [ha, Bool.true_and] at hq
        rw [ha]
        bv_omega
        refine all_comp (wpC_mono G (n + 1)) ?_
        bv_omega
        refine ⟨by omega, by omega, ?_⟩
        have em : ((xs.length : Int) - 1).toNat = xs.length - 1 := by omega
        rw [em]
        refine ⟨by rw [rangeL_len]; omega, fun _ _ => trivial, fun x => match x with | .int i => ascAt xs i.toNat | _ => false, fun x hx' h3 l3 => ?_, fun h3 l3 => ?_⟩
        · obtain ⟨i, hi, rfl⟩ := mem_rangeL.mp hx'
          have a1 : i < xs.length := by omega
          have a2 : i + 1 < xs.length := by omega
          have n1 := List.all_eq_true.mp ha (xs.getD i .non) (getD_mem a1)
          have n2 := List.all_eq_true.mp ha (xs.getD (i + 1) .non) (getD_mem a2)
          obtain ⟨s1, y1, e1, _⟩ := isNP_key n1
          obtain ⟨s2, y2, e2, _⟩ := isNP_key n2
          bv_omega
          rw [Int.zero_add]
          refine ⟨_, atI_nat a1, ?_⟩
          rw [e1]
          bv_omega
          have ei : ((i : Int) + 1) = ((i + 1 : Nat) : Int) := by omega
          rw [ei]
          refine ⟨_, atI_nat a2, ?_⟩
          rw [e2]
          bv_omega
          refine ⟨?_, ALe.refl⟩
          have : ascAt xs i = decide (s1.cps.toList < s2.cps.toList) := by
            unfold ascAt
            rw [e1, e2]
            rfl
          simp only [Int.toNat_natCast, this]
        · have e : (rangeL 0 (xs.length - 1)).all (fun x => match x with | .int i => ascAt xs i.toNat | _ => false) = ascA xs := by
            rw [Bool.eq_iff_iff, ascA_iff, List.all_eq_true]
            constructor
            · intro hh i hi
              have := hh (.int ((0 : Int) + i)) (mem_rangeL.mpr ⟨i, by omega, rfl⟩)
              simpa using this
            · intro hh x hx'
              obtain ⟨i, hi, rfl⟩ := mem_rangeL.mp hx'
              have := hh i (by omega)
              simpa using this
          rw [e]
          exact shr_le (ALe.trans l l3) hq
      · have ha : xs.all isNP = false := by simpa using ha
        rw [ha, Bool.false_and] at hq
        rw [ha]
        bv_omega
        exact shr_le l hq
  | ref a =>
    bv_omega
    rcases dty_ref.mp ht with ⟨xs, e⟩ | ⟨xs, e⟩
    · refine t_lst e ?_
      bv_omega
      exact shr_i hq
    · refine t_dK e ?_
      bv_omega
      exact shr_i hq
  | wt _ => exact (dty_wt ht).elim
  | _ =>
    bv_omega
    exact shr_i hq
theorem is_dimension_spec (c0 : G.code 0 = some f0) (c34 : G.code 34 = some f34) (c35 : G.code 35 = some f35) (c36 : G.code 36 = some f36) (g0 : G.T.gv 0 = some (.int 8)) (g1 : G.T.gv 1 = some (.str "abcdefghijklmnopqrstuvwxyz")) {v : AV} (ht : DTy h v) (hq : Q (.bl (isDim v)) h) : wpC G (n + 3) 36 [v] h Q E := by
  refine call_i c36 rfl ?_
  unfold c36_is_dimension
  bv_omega
  refine are_named_pairs_spec c34 c35 g0 g1 ht ?_
  by_cases ha : areNP v = true
  · rw [ha]
    bv_omega
    obtain ⟨xs, rfl⟩ : ∃ xs, v = .tup xs := by
      cases v with
      | tup xs => exact ⟨xs, rfl⟩
      | _ => cases ha
    obtain ⟨hl, hx⟩ := dty_tup.mp ht
    have hq : Q (.bl (areNP (.tup xs) && xs.all expOk)) h := hq
    rw [ha, Bool.true_and] at hq
    have hn : xs.all isNP = true := by
      have : (xs.all isNP && ascA xs) = true := ha
      rw [Bool.and_eq_true] at this
      exact this.1
    refine all_comp (wpC_mono G (n + 2)) ?_
    bv_omega
    refine ⟨hl, fun _ _ => trivial, expOk, fun x hx' h2 l => ?_, fun h2 l => shr_le l hq⟩
    obtain ⟨s, y, rfl, _⟩ := isNP_key (List.all_eq_true.mp hn x hx')
    have dy := ((dty_tup.mp (hx _ hx')).2 y (by simp)).mono l
    refine g_tupR rfl ?_
    bv_omega
    refine is_integer_spec c0 dy.tyd ?_
    cases y with
    | int i =>
      simp only [isInt]
      bv_omega
      exact ⟨by show _ = decide (i ≠ 0); rw [decide_not], ALe.refl⟩
    | wt _ => exact (dty_wt dy).elim
    | _ => simp only [isInt]; bv_omega; exact ⟨rfl, ALe.refl⟩
  · have ha : areNP v = false := by simpa using ha
    rw [ha]
    bv_omega
    have : isDim v = false := by unfold isDim; rw [ha, Bool.false_and]
    rw [this] at hq
    exact shr_i hq
theorem check_dimension_spec (c0 : G.code 0 = some f0) (c34 : G.code 34 = some f34) (c35 : G.code 35 = some f35) (c36 : G.code 36 = some f36) (c37 : G.code 37 = some f37) (g0 : G.T.gv 0 = some (.int 8)) (g1 : G.T.gv 1 = some (.str "abcdefghijklmnopqrstuvwxyz")) {v : AV} (ht : DTy h v) (hq : isDim v = true → Q .non h) (he : isDim v = false → E ⟨3, []⟩ h) : wpC G (n + 4) 37 [v] h Q E := by
  refine call_i c37 rfl ?_
  unfold c37_check_dimension
  bv_omega
  refine is_dimension_spec c0 c34 c35 c36 g0 g1 ht ?_
  bv_omega
  cases e : isDim v with
  | true => bv_omega; exact shr_i (hq e)
  | false => bv_omega; exact shr_i (he e)
end PL

namespace PL
open PySem PySem.Spec PyProof.Rows L2
abbrev Dm := NM Int
def dm (d : Dm) : AV := np AV.int d
def dv (d : Dm) (b : Str) : Int := (d.lookup b).getD 0
structure DOk (N : List Str) (k : Nat) (d : Dm) : Prop where
  asc : Asc d
  nz : ∀ p ∈ d, p.2 ≠ 0 ∧ p.2.natAbs < 2 ^ k
  sub : ∀ p ∈ d, p.1 ∈ N
structure NmsOk (N : List Str) : Prop where
  ok : ∀ s ∈ N, nameOk s = true
  len : N.length < 60
theorem DOk.mono {N : List Str} {k m : Nat} {d : Dm} (o : DOk N k d) (h : k ≤ m) : DOk N m d :=
  ⟨o.asc, fun p hp => ⟨(o.nz p hp).1, Nat.lt_of_lt_of_le (o.nz p hp).2 (Nat.pow_le_pow_right (by decide) h)⟩, o.sub⟩
theorem nks_len {α : Type} {N : List Str} {d : NM α} (hn : NKs d) (hs : ∀ q ∈ d, q.1 ∈ N) : d.length ≤ N.length := by
  have hn : (d.map (fun x : Str × α => x.1)).Nodup := hn
  have := len_nodup_sub (ys := N) hn (fun x hx => by
    obtain ⟨p, hp, rfl⟩ := List.mem_map.mp hx
    exact hs p hp)
  simpa using this
theorem DOk.len {N : List Str} {k : Nat} {d : Dm} (o : DOk N k d) : d.length ≤ N.length := nks_len o.asc.nks o.sub
theorem dv_mem {d : Dm} {b : Str} (h : dv d b ≠ 0) : (b, dv d b) ∈ d := by
  unfold dv at h ⊢
  cases e : d.lookup b with
  | none => rw [e] at h; exact absurd rfl h
  | some v => exact lookup_mem e
theorem dv_of {d : Dm} {p : Str × Int} (hn : NKs d) (h : p ∈ d) : dv d p.1 = p.2 := by
  unfold dv
  rw [lookup_some hn (show (p.1, p.2) ∈ d from h)]; rfl
theorem dv_none {d : Dm} {b : Str} (h : b ∉ d.map (·.1)) : dv d b = 0 := by
  unfold dv; rw [lookup_none h]; rfl
theorem DOk.bd {N : List Str} {k : Nat} {d : Dm} (o : DOk N k d) (b : Str) : (dv d b).natAbs < 2 ^ k := by
  by_cases h : dv d b = 0
  · rw [h]; exact Nat.two_pow_pos k
  · exact (o.nz _ (dv_mem h)).2
theorem DOk.look {N : List Str} {k : Nat} {d : Dm} (o : DOk N k d) (b : Str) : d.lookup b = if dv d b = 0 then none else some (dv d b) := by
  unfold dv
  cases e : d.lookup b with
  | none => simp
  | some v =>
    have := (o.nz _ (lookup_mem e)).1
    simp [this]
theorem ext_dm {N M : List Str} {k m : Nat} {d e : Dm} (hd : DOk N k d) (he : DOk M m e) (h : ∀ b, dv d b = dv e b) : d = e :=
  ext_np hd.asc he.asc fun b => by rw [hd.look, he.look, h]
theorem DOk.nil {N : List Str} {k : Nat} : DOk N k [] := ⟨List.Pairwise.nil, by simp, by simp⟩
theorem dv_nil {b : Str} : dv [] b = 0 := rfl
theorem dv_cons {d : Dm} {a b : Str} {m : Int} : dv ((a, m) :: d) b = if b = a then m else dv d b := by
  unfold dv
  rw [List.lookup_cons]
  by_cases h : b = a
  · simp [h]
  · have e : (b == a) = false := by simp [h]
    rw [e]; simp [h]
theorem dv_dset {d : Dm} {a b : Str} {m : Int} : dv (dset d a m) b = if b = a then m else dv d b := by
  unfold dv
  rw [lookup_dset]
  split <;> rfl
theorem asc_keys : ∀ {d : Dm}, Asc d → ascA (d.map (prf AV.int)) = true
  | [], _ => rfl
  | [p], _ => rfl
  | p :: q :: r, h => by
    show (decide (sl p.1 q.1) && ascA ((q :: r).map (prf AV.int))) = true
    have h2 := List.pairwise_cons.mp h
    rw [asc_keys (d := q :: r) h2.2, Bool.and_true]
    exact decide_eq_true (h2.1 q List.mem_cons_self)
theorem isDim_dm {N : List Str} {k : Nat} {d : Dm} (hN : NmsOk N) (o : DOk N k d) : isDim (dm d) = true := by
  show ((d.map (prf AV.int)).all isNP && ascA (d.map (prf AV.int)) && (d.map (prf AV.int)).all expOk) = true
  rw [asc_keys o.asc]
  have h1 : (d.map (prf AV.int)).all isNP = true := by
    rw [List.all_map, List.all_eq_true]
    intro p hp
    exact hN.ok _ (o.sub p hp)
  have h2 : (d.map (prf AV.int)).all expOk = true := by
    rw [List.all_map, List.all_eq_true]
    intro p hp
    exact decide_eq_true (o.nz p hp).1
  rw [h1, h2]; rfl
theorem name_len {s : Str} (h : nameOk s = true) : 1 ≤ s.length ∧ s.length ≤ 8 := by
  unfold nameOk at h
  rw [Bool.and_eq_true] at h
  exact of_decide_eq_true h.1
theorem dty_dm {N : List Str} {k : Nat} {d : Dm} {h : AH} (hN : NmsOk N) (o : DOk N k d) : DTy h (dm d) := by
  refine dty_tup.mpr ⟨?_, ?_⟩
  · rw [List.length_map]
    have := o.len
    have := hN.len
    omega
  · intro x hx
    obtain ⟨p, hp, rfl⟩ := List.mem_map.mp hx
    refine dty_tup.mpr ⟨by simp, fun y hy => ?_⟩
    simp at hy
    rcases hy with rfl | rfl
    · exact dty_str.mpr (by have := name_len (hN.ok _ (o.sub p hp)); omega)
    · unfold DTy; trivial
theorem filt_dm (f : Str → Int) : ∀ ys : List Str, (ys.map AV.str).filterMap (fun x => match x with | .str b => if f b ≠ 0 then some (prf AV.int (b, f b)) else none | _ => none) = ((ys.filter fun b => decide (f b ≠ 0)).map fun b => (b, f b)).map (prf AV.int)
  | [] => rfl
  | y :: ys => by
    rw [List.map_cons, List.filterMap_cons, List.filter_cons]
    by_cases h : f y = 0
    · simp only [h, ne_eq, not_true_eq_false, if_false, decide_false, Bool.false_eq_true]
      exact filt_dm f ys
    · simp only [h, ne_eq, not_false_eq_true, if_true, decide_true, List.map_cons]
      rw [filt_dm f ys]
theorem mk_dm {N : List Str} {k : Nat} {ys : List Str} (f : Str → Int) (hp : ys.Pairwise sl) (hs : ∀ b ∈ ys, b ∈ N) (hb : ∀ b ∈ ys, (f b).natAbs < 2 ^ k) (h0 : ∀ b, b ∉ ys → f b = 0) :
    DOk N k ((ys.filter fun b => decide (f b ≠ 0)).map fun b => (b, f b)) ∧ ∀ b, dv ((ys.filter fun b => decide (f b ≠ 0)).map fun b => (b, f b)) b = f b := by
  have asc : Asc ((ys.filter fun b => decide (f b ≠ 0)).map fun b => (b, f b)) := by
    unfold Asc
    rw [List.pairwise_map]
    exact hp.filter _
  refine ⟨⟨asc, ?_, ?_⟩, fun b => ?_⟩
  · intro p hp
    obtain ⟨b, hb1, rfl⟩ := List.mem_map.mp hp
    rw [List.mem_filter] at hb1
    exact ⟨of_decide_eq_true hb1.2, hb b hb1.1⟩
  · intro p hp
    obtain ⟨b, hb1, rfl⟩ := List.mem_map.mp hp
    rw [List.mem_filter] at hb1
    exact hs b hb1.1
  · by_cases hy : b ∈ ys.filter fun b => decide (f b ≠ 0)
    · exact dv_of asc.nks (p := (b, f b)) (List.mem_map.mpr ⟨b, hy, rfl⟩)
    · rw [dv_none (by rw [List.map_map]; intro hh; obtain ⟨c, hc, e⟩ := List.mem_map.mp hh; have e : c = b := e; exact hy (e ▸ hc))]
      rw [List.mem_filter] at hy
      by_cases h2 : b ∈ ys
      · have : ¬ f b ≠ 0 := fun hh => hy ⟨h2, decide_eq_true hh⟩
        exact (Decidable.not_not.mp this).symm
      · exact (h0 b h2).symm
theorem pm1_mulW {s m : Int} {k : Nat} (hs : s = 1 ∨ s = -1) (hm : m.natAbs < 2 ^ k) (hk : k ≤ 900000) : CMulW s m := by
  rcases hs with rfl | rfl
  · exact wide_mul (a := 1) (b := k + 1) (by decide) (Nat.lt_trans hm (Nat.pow_lt_pow_right (by decide) (Nat.lt_succ_self _))) (by decide) (by omega) (by omega)
  · exact wide_mul (a := 1) (b := k + 1) (by decide) (Nat.lt_trans hm (Nat.pow_lt_pow_right (by decide) (Nat.lt_succ_self _))) (by decide) (by omega) (by omega)
theorem pm1_bd {s x y : Int} {k : Nat} (hs : s = 1 ∨ s = -1) (hx : x.natAbs < 2 ^ k) (hy : y.natAbs < 2 ^ k) : (x + s * y).natAbs < 2 ^ (k + 1) := by
  rw [Nat.pow_succ]
  rcases hs with rfl | rfl <;> omega
variable {G : Pg} {n : Nat} {Q : AQ} {E : AXQ} {h : AH}
theorem sum_gen {N : List Str} {k k2 K : Nat} {one other : Dm} (hN : NmsOk N) (h1 : DOk N k one) (h2 : DOk N k2 other) {s : Int} (hw : ∀ p ∈ other, CMulW s p.2) (hbd : ∀ b, (dv one b + s * dv other b).natAbs < 2 ^ K)
    (hq : ∀ d, DOk N K d → (∀ b, dv d b = dv one b + s * dv other b) → Q (dm d) h) : wpB (wpC G n) G.T G.sub c38_raw_together (endF Q E) (astart 6 [dm one, dm other, .int s]) h := by
  unfold c38_raw_together
  have hl60 := hN.len
  refine wp_cut (wpC_mono G n) (fun σ h' => ∃ p, h p = none ∧ σ = [some (dm one), some (dm other), some (.int s), some (.ref p), none, none] ∧ h' = aupd h p (.dK (one.map (kvf AV.int)))) ?_ ?_
  · bv_omega
    exact dict_np h1.asc.nks fun p hp => ⟨p, hp, rfl, rfl⟩
  rintro σ h' ⟨p, hp, rfl, rfl⟩
  refine wp_cut (wpC_mono G n) (fun σ h' => ∃ (f : Dm) (x y : Option AV), σ = [some (dm one), some (dm other), some (.int s), some (.ref p), x, y] ∧ h' = aupd h p (.dK (f.map (kvf AV.int))) ∧ NKs f ∧ (∀ q ∈ f, q.1 ∈ N) ∧ ∀ b, dv f b = dv one b + s * dv other b) ?_ ?_
  · refine for_v (wpC_mono G n) ?_
    bv_omega
    show itR (.tup (other.map (prf AV.int))) _ _
    rw [v_tup]
    refine ⟨fun xs σ h' => ∃ (f rest : Dm) (x y : Option AV), xs = rest.map (prf AV.int) ∧ σ = [some (dm one), some (dm other), some (.int s), some (.ref p), x, y] ∧ h' = aupd h p (.dK (f.map (kvf AV.int))) ∧ NKs f ∧ (∀ q ∈ f, q.1 ∈ N) ∧ NKs rest ∧ (∀ q ∈ rest, q ∈ other) ∧ ∀ b, dv f b + s * dv rest b = dv one b + s * dv other b,
      ⟨one, other, none, none, rfl, rfl, rfl, h1.asc.nks, h1.sub, h2.asc.nks, fun _ h => h, fun _ => rfl⟩, ?_, ?_⟩
    · rintro σ h' ⟨f, rest, x, y, e, rfl, rfl, hf, hs', hr, ho, hb⟩
      have : rest = [] := by
        cases rest with
        | nil => rfl
        | cons _ _ => cases e
      subst this
      exact ⟨trivial, f, x, y, rfl, rfl, hf, hs', fun b => by have := hb b; rw [dv_nil, Int.mul_zero, Int.add_zero] at this; exact this⟩
    · rintro x xs σ h' ⟨f, rest, u, v, e, rfl, rfl, hf, hs', hr, ho, hb⟩
      cases rest with
      | nil => cases e
      | cons q rest =>
        obtain ⟨a, m⟩ := q
        rw [List.map_cons] at e
        obtain ⟨rfl, rfl⟩ := List.cons.inj e
        refine ⟨trivial, g_tupR rfl ?_⟩
        bv_omega
        refine ⟨ms_get aupd_same, get_dK aupd_same (k' := .inr a) rfl ?_⟩
        have hm := ho (a, m) List.mem_cons_self
        have eg : (dget (f.map (kvf AV.int)) (.inr a)).getD (.int 0) = .int (dv f a) := by
          rw [lookup_map_kv]
          unfold dv
          cases f.lookup a <;> rfl
        rw [eg]
        bv_omega
        refine ⟨hw _ hm, ?_⟩
        have hfl : f.length ≤ N.length := nks_len hf hs'
        refine set_dK aupd_same (k := .inr a) rfl (by rw [List.length_map]; have := len_small (n := f.length + 1) (by omega); omega) ?_
        rw [aupd_aupd, dput_kv]
        unfold NKs at hr
        rw [List.map_cons, List.nodup_cons] at hr
        refine ⟨dset f a (dv f a + s * m), rest, _, _, rfl, rfl, rfl, nks_dset hf, ?_, hr.2, fun q hq => ho q (List.mem_cons_of_mem _ hq), fun b => ?_⟩
        · intro q hq
          rcases mem_dset hq with hq | rfl
          · exact hs' q hq
          · exact h2.sub (a, m) hm
        · rw [dv_dset]
          have hb' := hb b
          rw [dv_cons] at hb'
          by_cases e : b = a
          · subst e
            have h0 : dv rest b = 0 := dv_none hr.1
            rw [if_pos rfl] at hb'
            rw [if_pos rfl, h0, Int.mul_zero, Int.add_zero]
            exact hb'
          · rw [if_neg e] at hb'
            rw [if_neg e]
            exact hb'
  rintro σ h' ⟨f, x, y, rfl, rfl, hf, hs', hb⟩
  bv_omega
  have hfl : f.length ≤ N.length := nks_len hf hs'
  refine comp_pure (wpC_mono G n) ?_
  bv_omega
  refine .inr (.inr (.inl ⟨_, f.map (·.1), aupd_same, keys_kv, by rw [List.length_map]; omega, fun ys pm so r hr => v_ref (C := wpC G n) (T := G.T) aupd_same ?_⟩))
  have rp : p ≠ r := fun e => by subst e; rw [aupd_same] at hr; cases hr
  have hlen : ys.length = f.length := by rw [pm.length_eq, List.length_map]
  have hys : ∀ b, b ∈ ys ↔ b ∈ f.map (·.1) := fun b => pm.mem_iff
  refine ⟨by rw [List.length_map]; exact len_small (by omega), fun D acc hD => by
    show aupd _ D _ r = _
    rw [aupd_ne (fun e => by subst e; rw [aupd_same] at hD; cases hD), aupd_same], fun x => match x with | .str b => if dv f b ≠ 0 then some (prf AV.int (b, dv f b)) else none | _ => none, fun D hD x hx acc => ?_, fun D hD => ?_⟩
  · obtain ⟨b, hb', rfl⟩ := List.mem_map.mp hx
    have pD : p ≠ D := fun e => by subst e; rw [aupd_ne rp, aupd_same] at hD; cases hD
    have ep : aupd (aupd (aupd h p (.dK (f.map (kvf AV.int)))) r (.lst (ys.map AV.str))) D (.lst acc) p = some (.dK (f.map (kvf AV.int))) := by
      rw [aupd_ne pD, aupd_ne rp, aupd_same]
    have ed : dget (f.map (kvf AV.int)) (.inr b) = some (.int (dv f b)) := by
      rw [lookup_map_kv]
      obtain ⟨q, hq, rfl⟩ := List.mem_map.mp ((hys b).mp hb')
      rw [lookup_some hf (show (q.1, q.2) ∈ f from hq), dv_of hf hq]; rfl
    bv_omega
    refine x_dK ep (k' := .inr b) rfl ed ?_
    bv_omega
    by_cases e : dv f b = 0
    · simp only [e]
      bv_omega
      exact ALe.refl
    · simp only [e]
      bv_omega
      refine x_dK ep (k' := .inr b) rfl ed ?_
      exact ⟨by simp [e, prf], ALe.refl⟩
  · rw [filt_dm (dv f) ys]
    refine tu_lst aupd_same ?_
    have hpw : ys.Pairwise sl := sorted_asc so (pm.nodup_iff.mpr hf)
    obtain ⟨o, hv⟩ := mk_dm (N := N) (k := K) (dv f) hpw (fun b hb' => by
        obtain ⟨q, hq, rfl⟩ := List.mem_map.mp ((hys b).mp hb')
        exact hs' q hq) (fun b _ => by rw [hb b]; exact hbd b) (fun b hb' => dv_none fun hh => hb' ((hys b).mpr hh))
    refine shr_le (ALe.trans (ALe.fresh hp) (ALe.trans (ALe.fresh hr) (ALe.fresh hD))) ?_
    exact hq _ o fun b => by rw [hv b, hb b]
theorem sum_body {N : List Str} {k : Nat} {one other : Dm} (hN : NmsOk N) (h1 : DOk N k one) (h2 : DOk N k other) {s : Int} (hs : s = 1 ∨ s = -1) (hk : k ≤ 10000)
    (hq : ∀ d, DOk N (k + 1) d → (∀ b, dv d b = dv one b + s * dv other b) → Q (dm d) h) : wpB (wpC G n) G.T G.sub c38_raw_together (endF Q E) (astart 6 [dm one, dm other, .int s]) h :=
  sum_gen hN h1 h2 (fun p hp => pm1_mulW hs (h2.nz p hp).2 (by omega)) (fun b => pm1_bd hs (h1.bd b) (h2.bd b)) hq
theorem raw_together_spec (c38 : G.code 38 = some f38) {N : List Str} {k : Nat} {one other : Dm} (hN : NmsOk N) (h1 : DOk N k one) (h2 : DOk N k other) {s : Int} (hs : s = 1 ∨ s = -1) (hk : k ≤ 10000)
    (hq : ∀ d, DOk N (k + 1) d → (∀ b, dv d b = dv one b + s * dv other b) → Q (dm d) h) : wpC G (n + 1) 38 [dm one, dm other, .int s] h Q E :=
  call_i c38 rfl (sum_body hN h1 h2 hs hk hq)
end PL

namespace PL
open PySem PySem.Spec PyProof.Rows L2
structure CDim (G : Pg) : Prop where
  c0 : G.code 0 = some f0
  c34 : G.code 34 = some f34
  c35 : G.code 35 = some f35
  c36 : G.code 36 = some f36
  c37 : G.code 37 = some f37
  c38 : G.code 38 = some f38
  g0 : G.T.gv 0 = some (.int 8)
  g1 : G.T.gv 1 = some (.str "abcdefghijklmnopqrstuvwxyz")
variable {G : Pg} {n : Nat} {Q : AQ} {E : AXQ} {h : AH}
theorem check_dm (c : CDim G) {N : List Str} {k : Nat} {d : Dm} (hN : NmsOk N) (o : DOk N k d) (hq : Q .non h) : wpC G (n + 4) 37 [dm d] h Q E :=
  check_dimension_spec c.c0 c.c34 c.c35 c.c36 c.c37 c.g0 c.g1 (dty_dm hN o) (fun _ => hq) fun e => by rw [isDim_dm hN o] at e; cases e
theorem check_bad (c : CDim G) {v : AV} (ht : DTy h v) (hb : isDim v = false) (he : E ⟨3, []⟩ h) : wpC G (n + 4) 37 [v] h Q E :=
  check_dimension_spec c.c0 c.c34 c.c35 c.c36 c.c37 c.g0 c.g1 ht (fun e => by rw [hb] at e; cases e) fun _ => he
theorem together_spec (c : CDim G) (c42 : G.code 42 = some f42) {N : List Str} {k : Nat} {one other : Dm} (hN : NmsOk N) (h1 : DOk N k one) (h2 : DOk N k other) (hk : k ≤ 10000)
    (hq : ∀ d, DOk N (k + 1) d → (∀ b, dv d b = dv one b + dv other b) → Q (dm d) h) : wpC G (n + 5) 42 [dm one, dm other] h Q E := by
  refine call_i c42 rfl ?_
  unfold c42_together
  bv_omega
  refine check_dm c hN h1 (check_dm c hN h2 ?_)
  refine raw_together_spec (n := n + 3) c.c38 hN h1 h2 (.inl rfl) hk fun d o hd => shr_i (hq d o fun b => by rw [hd b, Int.one_mul])
theorem apart_spec (c : CDim G) (c43 : G.code 43 = some f43) {N : List Str} {k : Nat} {one other : Dm} (hN : NmsOk N) (h1 : DOk N k one) (h2 : DOk N k other) (hk : k ≤ 10000)
    (hq : ∀ d, DOk N (k + 1) d → (∀ b, dv d b = dv one b - dv other b) → Q (dm d) h) : wpC G (n + 5) 43 [dm one, dm other] h Q E := by
  refine call_i c43 rfl ?_
  unfold c43_apart
  bv_omega
  refine check_dm c hN h1 (check_dm c hN h2 ?_)
  refine raw_together_spec (n := n + 3) c.c38 hN h1 h2 (.inr rfl) hk fun d o hd => shr_i (hq d o fun b => by rw [hd b]; omega)
theorem together_bad (c : CDim G) (c42 : G.code 42 = some f42) {v w : AV} (hv : DTy h v) (hw : DTy h w) (hb : isDim v = false ∨ isDim w = false) (he : E ⟨3, []⟩ h) : wpC G (n + 5) 42 [v, w] h Q E := by
  refine call_i c42 rfl ?_
  unfold c42_together
  bv_omega
  refine check_dimension_spec c.c0 c.c34 c.c35 c.c36 c.c37 c.g0 c.g1 hv (fun e1 => ?_) fun _ => shr_i he
  refine check_dimension_spec c.c0 c.c34 c.c35 c.c36 c.c37 c.g0 c.g1 hw (fun e2 => ?_) fun _ => shr_i he
  rw [e1, e2] at hb
  rcases hb with hb | hb <;> cases hb
theorem apart_bad (c : CDim G) (c43 : G.code 43 = some f43) {v w : AV} (hv : DTy h v) (hw : DTy h w) (hb : isDim v = false ∨ isDim w = false) (he : E ⟨3, []⟩ h) : wpC G (n + 5) 43 [v, w] h Q E := by
  refine call_i c43 rfl ?_
  unfold c43_apart
  bv_omega
  refine check_dimension_spec c.c0 c.c34 c.c35 c.c36 c.c37 c.g0 c.g1 hv (fun e1 => ?_) fun _ => shr_i he
  refine check_dimension_spec c.c0 c.c34 c.c35 c.c36 c.c37 c.g0 c.g1 hw (fun e2 => ?_) fun _ => shr_i he
  rw [e1, e2] at hb
  rcases hb with hb | hb <;> cases hb
def rmul (d : Dm) (m : Int) : Dm := if m = 0 then [] else d.map fun p => (p.1, p.2 * m)
theorem mul_bd {x m : Int} {k j : Nat} (hx : x.natAbs < 2 ^ k) (hm : m.natAbs < 2 ^ j) : (x * m).natAbs < 2 ^ (k + j) := by
  rw [Int.natAbs_mul, Nat.pow_add]
  exact Nat.mul_lt_mul_of_lt_of_lt hx hm
theorem rmul_ok {N : List Str} {k j : Nat} {d : Dm} {m : Int} (o : DOk N k d) (hm : m.natAbs < 2 ^ j) : DOk N (k + j) (rmul d m) := by
  unfold rmul
  split
  · exact DOk.nil
  · rename_i h0
    refine ⟨?_, ?_, ?_⟩
    · unfold Asc
      rw [List.pairwise_map]
      exact o.asc
    · intro p hp
      obtain ⟨q, hq, rfl⟩ := List.mem_map.mp hp
      exact ⟨Int.mul_ne_zero (o.nz q hq).1 h0, mul_bd (o.nz q hq).2 hm⟩
    · intro p hp
      obtain ⟨q, hq, rfl⟩ := List.mem_map.mp hp
      exact o.sub q hq
theorem dv_rmul {d : Dm} {m : Int} {b : Str} : dv (rmul d m) b = dv d b * m := by
  unfold rmul
  split
  · rename_i h; rw [h, dv_nil, Int.mul_zero]
  · induction d with
    | nil => rw [List.map_nil, dv_nil, Int.zero_mul]
    | cons p d ih =>
      obtain ⟨a, x⟩ := p
      rw [List.map_cons, dv_cons, dv_cons]
      split
      · rfl
      · exact ih
def rmF (m : Int) : AV → Option AV := fun x => match x with | .tup [a, .int y] => some (.tup [a, .int (y * m)]) | _ => none
theorem filt_rmul {m : Int} (h0 : m ≠ 0) : ∀ d : Dm, (d.map (prf AV.int)).filterMap (rmF m) = (d.map fun p => (p.1, p.2 * m)).map (prf AV.int)
  | [] => rfl
  | p :: d => by
    rw [List.map_cons, List.filterMap_cons]
    show AV.tup [.str p.1, .int (p.2 * m)] :: _ = _
    rw [filt_rmul h0 d]
    rfl
theorem raw_raised_spec (c39 : G.code 39 = some f39) {N : List Str} {k j : Nat} {d : Dm} {m : Int} (hN : NmsOk N) (o : DOk N k d) (hm : m.natAbs < 2 ^ j) (hk : 0 < k) (hj : 0 < j) (hkj : k + j ≤ 100000) (hq : Q (dm (rmul d m)) h) : wpC G (n + 1) 39 [dm d, .int m] h Q E := by
  refine call_i c39 rfl ?_
  unfold c39_raw_raised
  have hl := o.len
  have hl2 := hN.len
  bv_omega
  refine comp_pure (wpC_mono G n) ?_
  bv_omega
  show itR (.tup (d.map (prf AV.int))) _ _
  rw [v_tup]
  by_cases h0 : m = 0
  · subst h0
    refine ⟨by rw [List.length_map]; exact len_small (by omega), fun _ _ _ => trivial, fun _ => none, fun D hD x hx acc => ?_, fun D hD => ?_⟩
    · obtain ⟨p, hp, rfl⟩ := List.mem_map.mp hx
      refine g_tupR rfl ?_
      bv_omega
      exact ALe.refl
    · refine tu_lst aupd_same ?_
      have e : (d.map (prf AV.int)).filterMap (fun _ => (none : Option AV)) = [] := by simp
      rw [e]
      exact shr_le (ALe.fresh hD) (by simpa [rmul, dm, np] using hq)
  · refine ⟨by rw [List.length_map]; exact len_small (by omega), fun _ _ _ => trivial, rmF m, fun D hD x hx acc => ?_, fun D hD => ?_⟩
    · obtain ⟨p, hp, rfl⟩ := List.mem_map.mp hx
      refine g_tupR rfl ?_
      bv_omega
      simp only [h0]
      bv_omega
      refine ⟨wide_mul (o.nz p hp).2 hm hk hj (by omega), rfl, ALe.refl⟩
    · rw [filt_rmul h0 d]
      refine tu_lst aupd_same ?_
      refine shr_le (ALe.fresh hD) ?_
      unfold rmul at hq
      rw [if_neg h0] at hq
      exact hq
theorem raised_spec (c : CDim G) (c26 : G.code 26 = some f26) (c39 : G.code 39 = some f39) (c44 : G.code 44 = some f44) (g2 : G.T.gv 2 = some (.int 100)) {N : List Str} {k : Nat} {d : Dm} {m : Int} (hN : NmsOk N) (o : DOk N k d) (hk : 0 < k) (hk2 : k ≤ 10000) (hm : -100 ≤ m ∧ m ≤ 100) (hq : Q (dm (rmul d m)) h) : wpC G (n + 5) 44 [dm d, .int m] h Q E := by
  refine call_i c44 rfl ?_
  unfold c44_raised
  bv_omega
  refine check_dm c hN o ?_
  refine ⟨_, g2, ?_⟩
  bv_omega
  refine ⟨_, g2, ?_⟩
  refine is_within_spec (n := n + 2) c.c0 c26 trivial ?_
  have e : inV (.int m) (-100) 100 = true := by
    show (decide (-100 ≤ m) && decide (m ≤ 100)) = true
    simp [hm.1, hm.2]
  rw [e]
  bv_omega
  exact raw_raised_spec (n := n + 3) (j := 7) c39 hN o (by omega) hk (by decide) (by omega) (shr_i hq)
theorem raised_bad (c : CDim G) (c44 : G.code 44 = some f44) {v w : AV} (hv : DTy h v) (hb : isDim v = false) (he : E ⟨3, []⟩ h) : wpC G (n + 5) 44 [v, w] h Q E := by
  refine call_i c44 rfl ?_
  unfold c44_raised
  bv_omega
  exact check_bad c hv hb (shr_i he)
theorem raised_num (c : CDim G) (c26 : G.code 26 = some f26) (c44 : G.code 44 = some f44) (g2 : G.T.gv 2 = some (.int 100)) {N : List Str} {k : Nat} {d : Dm} {w : AV} (hN : NmsOk N) (o : DOk N k d) (hw : Tyd h w) (hb : inV w (-100) 100 = false) (he : E ⟨2, []⟩ h) : wpC G (n + 5) 44 [dm d, w] h Q E := by
  refine call_i c44 rfl ?_
  unfold c44_raised
  bv_omega
  refine check_dm c hN o ?_
  refine ⟨_, g2, ?_⟩
  bv_omega
  refine ⟨_, g2, ?_⟩
  refine is_within_spec (n := n + 2) c.c0 c26 hw ?_
  rw [hb]
  bv_omega
  exact shr_i he
theorem law_added_spec (c46 : G.code 46 = some f46) {N : List Str} {k : Nat} {one other : Dm} (hN : NmsOk N) (h1 : DOk N k one) (h2 : DOk N k other) {s : Int} (hs : s = 1 ∨ s = -1) (hk : k ≤ 10000)
    (hq : ∀ d, DOk N (k + 1) d → (∀ b, dv d b = dv one b + s * dv other b) → Q (dm d) h) : wpC G (n + 1) 46 [dm one, dm other, .int s] h Q E :=
  call_i c46 rfl (show wpB (wpC G n) G.T G.sub c38_raw_together (endF Q E) (astart 6 [dm one, dm other, .int s]) h from sum_body hN h1 h2 hs hk hq)
theorem law_added_gen (c46 : G.code 46 = some f46) {N : List Str} {k k2 K : Nat} {one other : Dm} (hN : NmsOk N) (h1 : DOk N k one) (h2 : DOk N k2 other) {s : Int} (hw : ∀ p ∈ other, CMulW s p.2) (hbd : ∀ b, (dv one b + s * dv other b).natAbs < 2 ^ K)
    (hq : ∀ d, DOk N K d → (∀ b, dv d b = dv one b + s * dv other b) → Q (dm d) h) : wpC G (n + 1) 46 [dm one, dm other, .int s] h Q E :=
  call_i c46 rfl (show wpB (wpC G n) G.T G.sub c38_raw_together (endF Q E) (astart 6 [dm one, dm other, .int s]) h from sum_gen hN h1 h2 hw hbd hq)
end PL

namespace PL
open PySem PySem.Spec PyProof.Rows L2
variable {G : Pg} {n : Nat} {Q : AQ} {E : AXQ} {h : AH}
def HLe (a : Addr) (h h' : AH) : Prop := ∀ b o, b ≠ a → h b = some o → h' b = some o
theorem HLe.refl {a : Addr} {h : AH} : HLe a h h := fun _ _ _ e => e
theorem HLe.trans {a : Addr} {h h1 h2 : AH} (x : HLe a h h1) (y : HLe a h1 h2) : HLe a h h2 := fun b o n e => y b o n (x b o n e)
theorem HLe.of {a : Addr} {h h' : AH} (l : ALe h h') : HLe a h h' := fun b o _ e => l b o e
theorem HLe.upd {a : Addr} {h : AH} {o : AO} : HLe a h (aupd h a o) := fun b u n e => by rw [aupd_ne n]; exact e
def ks (f : NM Bool) : List (Key × AV) := f.map (kvf AV.bl)
theorem asc_ext {xs ys : List Str} (hx : xs.Pairwise sl) (hy : ys.Pairwise sl) (h : ∀ b, b ∈ xs ↔ b ∈ ys) : xs = ys := by
  have nd : ∀ {xs : List Str}, xs.Pairwise sl → xs.Nodup := fun hx => by
    unfold List.Nodup
    exact List.Pairwise.imp (fun hpq => sl_ne hpq) hx
  exact List.Perm.eq_of_pairwise (fun a b _ _ h1 h2 => absurd h2 (sl_asymm h1)) hx hy ((List.perm_ext_iff_of_nodup (nd hx) (nd hy)).mpr h)
structure KInv (N : List Str) (P : Str → Prop) (f : NM Bool) (rest : Dm) : Prop where
  nk : NKs f
  sub : ∀ q ∈ f, q.1 ∈ N
  rk : NKs rest
  rs : ∀ q ∈ rest, q.1 ∈ N ∧ q.2 ≠ 0
  iff : ∀ b, (b ∈ f.map (·.1) ∨ dv rest b ≠ 0) ↔ P b
theorem KInv.start {N : List Str} {k : Nat} {P : Str → Prop} {f : NM Bool} {d : Dm} (i : KInv N P f []) (o : DOk N k d) : KInv N (fun b => P b ∨ dv d b ≠ 0) f d :=
  ⟨i.nk, i.sub, o.asc.nks, fun q hq => ⟨o.sub q hq, (o.nz q hq).1⟩, fun b => by
    have := i.iff b
    simp only [dv_nil, ne_eq, not_true_eq_false, or_false] at this
    rw [this]⟩
theorem KInv.step {N : List Str} {P : Str → Prop} {f : NM Bool} {a : Str} {m : Int} {rest : Dm} (i : KInv N P f ((a, m) :: rest)) : KInv N P (dset f a true) rest := by
  have hr := i.rk
  unfold NKs at hr
  rw [List.map_cons, List.nodup_cons] at hr
  refine ⟨nks_dset i.nk, fun q hq => ?_, hr.2, fun q hq => i.rs q (List.mem_cons_of_mem _ hq), fun b => ?_⟩
  · rcases mem_dset hq with hq | rfl
    · exact i.sub q hq
    · exact (i.rs (a, m) List.mem_cons_self).1
  · rw [← i.iff b, keys_dset, dv_cons]
    have hm := (i.rs (a, m) List.mem_cons_self).2
    by_cases e : b = a
    · subst e
      rw [if_pos rfl]
      constructor
      · intro _; exact .inr hm
      · intro _
        refine .inl ?_
        split
        · assumption
        · simp
    · rw [if_neg e]
      have : b ∈ (if a ∈ f.map (·.1) then f.map (·.1) else f.map (·.1) ++ [a]) ↔ b ∈ f.map (·.1) := by
        split
        · exact Iff.rfl
        · rw [List.mem_append, List.mem_singleton]
          exact ⟨fun h => h.resolve_right e, .inl⟩
      rw [this]
theorem KInv.fin {N : List Str} {P : Str → Prop} {f : NM Bool} (i : KInv N P f []) (b : Str) : b ∈ f.map (·.1) ↔ P b := by
  have := i.iff b
  simpa only [dv_nil, ne_eq, not_true_eq_false, or_false] using this
theorem KInv.zero {N : List Str} : KInv N (fun _ => False) [] [] := ⟨List.nodup_nil, by simp, List.nodup_nil, by simp, by simp [dv_nil]⟩
theorem KInv.len {N : List Str} {P : Str → Prop} {f : NM Bool} {rest : Dm} (i : KInv N P f rest) : f.length ≤ N.length := nks_len i.nk i.sub
theorem KInv.congr {N : List Str} {P P' : Str → Prop} {f : NM Bool} {rest : Dm} (i : KInv N P f rest) (h : ∀ b, P b ↔ P' b) : KInv N P' f rest := ⟨i.nk, i.sub, i.rk, i.rs, fun b => (i.iff b).trans (h b)⟩
theorem dput_bl {f : NM Bool} {a : Str} {v : Bool} : dput (ks f) (.inr a) (.bl v) = ks (dset f a v) := dput_kv (f := AV.bl)
theorem map_nil_eq {α β : Type} {f : α → β} {l : List α} (h : [] = l.map f) : l = [] := by
  cases l with
  | nil => rfl
  | cons _ _ => cases h
def inSome (ds : List Dm) (b : Str) : Prop := ∃ d ∈ ds, dv d b ≠ 0
theorem raw_bases_spec (c41 : G.code 41 = some f41) {N : List Str} {k : Nat} {ds : List Dm} (hN : NmsOk N) (o : ∀ d ∈ ds, DOk N k d)
    (hq : ∀ (ys : List Str) (r : Addr) (h' : AH), ALe h h' → h r = none → ys.Pairwise sl → (∀ b, b ∈ ys ↔ inSome ds b) → (∀ b ∈ ys, b ∈ N) → h' r = some (.lst (ys.map .str)) → Q (.ref r) h') : wpC G (n + 1) 41 [.tup (ds.map dm)] h Q E := by
  refine call_i c41 rfl ?_
  unfold c41_raw_bases
  have hl60 := hN.len
  have CM := wpC_mono G n
  refine wp_cut CM (fun σ h' => ∃ p, h p = none ∧ σ = [some (.tup (ds.map dm)), some (.ref p), none, none, none] ∧ h' = aupd h p (.dK (ks []))) ?_ ?_
  · bv_omega
    exact fun p hp => ⟨p, hp, rfl, rfl⟩
  rintro σ h' ⟨p, hp, rfl, rfl⟩
  refine wp_cut CM (fun σ h' => ∃ (f : NM Bool) (x y z : Option AV), σ = [some (.tup (ds.map dm)), some (.ref p), x, y, z] ∧ h' = aupd h p (.dK (ks f)) ∧ KInv N (inSome ds) f []) ?_ ?_
  · refine for_v CM ?_
    bv_omega
    refine ⟨fun xs σ h' => ∃ (f : NM Bool) (done rest : List Dm) (x y z : Option AV), xs = rest.map dm ∧ σ = [some (.tup (ds.map dm)), some (.ref p), x, y, z] ∧ h' = aupd h p (.dK (ks f)) ∧ KInv N (inSome done) f [] ∧ ds = done ++ rest,
      ⟨[], [], ds, none, none, none, rfl, rfl, rfl, KInv.zero.congr (fun b => by simp [inSome]), rfl⟩, ?_, ?_⟩
    · rintro σ h' ⟨f, done, rest, x, y, z, e, rfl, rfl, i, rfl⟩
      have := map_nil_eq e
      subst this
      exact ⟨f, x, y, z, rfl, rfl, by simpa using i⟩
    · rintro x xs σ h' ⟨f, done, rest, x', y, z, e, rfl, rfl, i, rfl⟩
      cases rest with
      | nil => cases e
      | cons d rest =>
        rw [List.map_cons] at e
        obtain ⟨rfl, rfl⟩ := List.cons.inj e
        have od := o d (by simp)
        bv_omega
        refine for_v CM ?_
        bv_omega
        show itR (.tup (d.map (prf AV.int))) _ _
        rw [v_tup]
        refine ⟨fun xs σ h' => ∃ (f : NM Bool) (r : Dm) (y z : Option AV), xs = r.map (prf AV.int) ∧ σ = [some (.tup ((done ++ d :: rest).map dm)), some (.ref p), some (dm d), y, z] ∧ h' = aupd h p (.dK (ks f)) ∧ KInv N (inSome (done ++ [d])) f r,
          ⟨f, d, y, z, rfl, rfl, rfl, (i.start od).congr (fun b => by simp [inSome, or_and_right, exists_or])⟩, ?_, ?_⟩
        · rintro σ h' ⟨f, r, y, z, e, rfl, rfl, i⟩
          have := map_nil_eq e
          subst this
          exact ⟨trivial, f, done ++ [d], rest, _, _, _, rfl, rfl, rfl, i, by simp⟩
        · rintro x xs σ h' ⟨f, r, y, z, e, rfl, rfl, i⟩
          cases r with
          | nil => cases e
          | cons q r =>
            obtain ⟨a, m⟩ := q
            rw [List.map_cons] at e
            obtain ⟨rfl, rfl⟩ := List.cons.inj e
            refine ⟨trivial, g_tupR rfl ?_⟩
            bv_omega
            refine set_dK aupd_same (k := .inr a) rfl (by unfold ks; rw [List.length_map]; have := i.len; have := len_small (n := f.length + 1) (by omega); omega) ?_
            rw [aupd_aupd, dput_bl]
            exact ⟨_, r, _, _, rfl, rfl, rfl, i.step⟩
  rintro σ h' ⟨f, x, y, z, rfl, rfl, i⟩
  bv_omega
  have hfl := i.len
  refine .inr (.inr (.inl ⟨_, f.map (·.1), aupd_same, by unfold ks; exact keys_kv, by rw [List.length_map]; omega, fun ys pm so r hr => ?_⟩))
  have hys : ∀ b, b ∈ ys ↔ b ∈ f.map (·.1) := fun b => pm.mem_iff
  have hrh : h r = none := by
    by_cases e : r = p
    · subst e; rw [aupd_same] at hr; cases hr
    · rw [aupd_ne e] at hr; exact hr
  refine shr_i (hq ys r _ (ALe.trans (ALe.fresh hp) (ALe.fresh hr)) hrh (sorted_asc so (pm.nodup_iff.mpr i.nk)) (fun b => (hys b).trans (i.fin b)) (fun b hb => ?_) aupd_same)
  obtain ⟨q, hq, rfl⟩ := List.mem_map.mp ((hys b).mp hb)
  exact i.sub q hq
def allDim : AV → Bool | .tup xs => xs.all isDim | _ => false
theorem are_dimensions_spec (c : CDim G) (c40 : G.code 40 = some f40) {v : AV} (ht : DTy h v) (hq : Q (.bl (allDim v)) h) : wpC G (n + 4) 40 [v] h Q E := by
  refine call_i c40 rfl ?_
  unfold c40_are_dimensions
  cases v with
  | tup xs =>
    obtain ⟨hl, hx⟩ := dty_tup.mp ht
    bv_omega
    refine all_comp (wpC_mono G (n + 3)) ?_
    bv_omega
    refine ⟨hl, fun _ _ => trivial, isDim, fun x hx' h2 l => ?_, fun h2 l => shr_le l hq⟩
    exact is_dimension_spec c.c0 c.c34 c.c35 c.c36 c.g0 c.g1 ((hx x hx').mono l) ⟨rfl, ALe.refl⟩
  | ref a =>
    bv_omega
    rcases dty_ref.mp ht with ⟨xs, e⟩ | ⟨xs, e⟩
    · refine t_lst e ?_
      bv_omega
      exact shr_i hq
    · refine t_dK e ?_
      bv_omega
      exact shr_i hq
  | wt _ => exact (dty_wt ht).elim
  | _ =>
    bv_omega
    exact shr_i hq
theorem bases_of_spec (c : CDim G) (c40 : G.code 40 = some f40) (c41 : G.code 41 = some f41) (c45 : G.code 45 = some f45) {N : List Str} {k : Nat} {ds : List Dm} (hN : NmsOk N) (hl : ds.length ≤ 1000) (o : ∀ d ∈ ds, DOk N k d)
    (hq : ∀ (ys : List Str), ys.Pairwise sl → (∀ b, b ∈ ys ↔ inSome ds b) → (∀ b ∈ ys, b ∈ N) → Q (.tup (ys.map .str)) h) : wpC G (n + 5) 45 [.tup (ds.map dm)] h Q E := by
  refine call_i c45 rfl ?_
  unfold c45_bases_of
  bv_omega
  refine are_dimensions_spec c c40 (dty_tup.mpr ⟨by rw [List.length_map]; omega, fun x hx => ?_⟩) ?_
  · obtain ⟨d, hd, rfl⟩ := List.mem_map.mp hx
    exact dty_dm hN (o d hd)
  · have e : (ds.map dm).all isDim = true := by
      rw [List.all_map, List.all_eq_true]
      exact fun d hd => isDim_dm hN (o d hd)
    have e : allDim (.tup (ds.map dm)) = true := e
    rw [e]
    bv_omega
    exact raw_bases_spec (n := n + 3) c41 hN o fun ys r h' l hr hp hb hs e => tu_lst e (shr_le l (hq ys hp hb hs))
theorem bases_of_bad (c : CDim G) (c40 : G.code 40 = some f40) (c45 : G.code 45 = some f45) {v : AV} (ht : DTy h v) (hb : allDim v = false) (he : E ⟨4, []⟩ h) : wpC G (n + 5) 45 [v] h Q E := by
  refine call_i c45 rfl ?_
  unfold c45_bases_of
  bv_omega
  refine are_dimensions_spec c c40 ht ?_
  rw [hb]
  bv_omega
  exact shr_i he
end PL

namespace PL
open PySem PySem.Spec PyProof.Rows L2
variable {G : Pg} {n : Nat} {Q : AQ} {E : AXQ} {h : AH}
abbrev LETS : Str := "abcdefghijklmnopqrstuvwxyz"
theorem lets_at {r : Int} (h0 : 0 ≤ r) (h1 : r < 26) : ∃ c, L2.atI LETS.cps.toList r = some c ∧ letC c = true := by
  obtain ⟨k, rfl⟩ := Int.eq_ofNat_of_zero_le h0
  have t : ((List.range 26).all fun k => match L2.atI LETS.cps.toList (k : Int) with | some c => letC c | none => false) = true := by decide +kernel
  have := List.all_eq_true.mp t k (List.mem_range.mpr (by omega))
  cases e : L2.atI LETS.cps.toList (k : Int) with
  | none => rw [e] at this; cases this
  | some c => rw [e] at this; exact ⟨c, rfl, this⟩
theorem lets_len : LETS.length ≤ sizeLine := by decide +kernel
def LetS (s : Str) (k : Nat) : Prop := s.cps.toList.all letC = true ∧ 1 ≤ s.length ∧ s.length ≤ k
theorem LetS.one {c : Nat} (h : letC c = true) : LetS ⟨#[c]⟩ 1 := ⟨by simp [h], Nat.le_refl _, Nat.le_refl _⟩
theorem LetS.add {s : Str} {c k : Nat} (x : LetS s k) (h : letC c = true) : LetS (s ++ (⟨#[c]⟩ : Str)) (k + 1) := by
  obtain ⟨x1, x2, x3⟩ := x
  have e : (s ++ (⟨#[c]⟩ : Str)) = ⟨s.cps ++ #[c]⟩ := rfl
  have el : (⟨s.cps ++ #[c]⟩ : Str).length = s.length + 1 := by
    show (s.cps ++ #[c]).size = s.cps.size + 1
    simp
  rw [e]
  refine ⟨?_, by rw [el]; omega, by rw [el]; omega⟩
  show (s.cps ++ #[c]).toList.all letC = true
  rw [Array.toList_append, List.all_append, x1]
  simp [h]
theorem LetS.ok {s : Str} {k : Nat} (x : LetS s k) (h : k ≤ 8) : nameOk s = true := by
  unfold nameOk
  rw [x.1, Bool.and_true]
  exact decide_eq_true ⟨x.2.1, by have := x.2.2; omega⟩
theorem HandOk.off {a c p : Addr} {N : Nat} {o : AO} (w : HandOk h a N c) (pa : p ≠ a) (pc : p ≠ c) : HandOk (aupd h p o) a N c := w.to (aupd_ne (Ne.symm pa)) (aupd_ne (Ne.symm pc))
theorem HandOk.new {a c p : Addr} {N : Nat} (w : HandOk h a N c) (hp : h p = none) : p ≠ a ∧ p ≠ c := ⟨fun e => w.some.1 (e ▸ hp), fun e => w.some.2 (e ▸ hp)⟩
structure Go (h0 h : AH) (a c : Addr) (N : Nat) : Prop where
  le : HLe a h0 h
  w : HandOk h a N c
theorem Go.draw {h0 h : AH} {a c : Addr} {N M : Nat} {o : AO} (g : Go h0 h a c N) (w : HandOk (aupd h a o) a (N + 1) c) (hm : N + 1 ≤ M) : Go h0 (aupd h a o) a c M := ⟨g.le.trans HLe.upd, w.mono hm⟩
theorem Go.mono {h0 h : AH} {a c : Addr} {N M : Nat} (g : Go h0 h a c N) (hm : N ≤ M) : Go h0 h a c M := ⟨g.le, g.w.mono hm⟩
theorem Go.set {h0 h : AH} {a c p : Addr} {N : Nat} {o : AO} (g : Go h0 h a c N) (hp : h0 p = none) (pa : p ≠ a) (pc : p ≠ c) : Go h0 (aupd h p o) a c N :=
  ⟨fun b u nb e => by rw [aupd_ne (fun z => by subst z; rw [hp] at e; cases e)]; exact g.le b u nb e, g.w.off pa pc⟩
theorem Go.fresh {h0 h : AH} {a c p : Addr} {N : Nat} {o : AO} (g : Go h0 h a c N) (hp : h p = none) : Go h0 (aupd h p o) a c N :=
  ⟨g.le.trans (HLe.of (ALe.fresh hp)), g.w.off (g.w.new hp).1 (g.w.new hp).2⟩
theorem Go.refl {h : AH} {a c : Addr} {N : Nat} (w : HandOk h a N c) : Go h h a c N := ⟨HLe.refl, w⟩
theorem Go.none {h0 h : AH} {a c p : Addr} {N : Nat} (g : Go h0 h a c N) (hp : h p = none) : h0 p = none := by
  cases e : h0 p with
  | none => rfl
  | some o =>
    by_cases pa : p = a
    · subst pa; exact absurd hp g.w.some.1
    · rw [g.le p o pa e] at hp; cases hp
theorem Go.trans {h0 h1 h2 : AH} {a c : Addr} {N M : Nat} (x : Go h0 h1 a c N) (y : Go h1 h2 a c M) : Go h0 h2 a c M := ⟨x.le.trans y.le, y.w⟩
theorem law_names_spec (c10 : G.code 10 = some f10) (c48 : G.code 48 = some f48) {a c : Addr} {N m : Nat} (w : HandOk h a N c) (hN : N + 9 * m + 9 < 2 ^ 60) (hm : 1 ≤ m) (hm2 : m < 60)
    (hq : ∀ (ys : List Str) (r : Addr) (h' : AH), Go h h' a c (N + 9 * m) → h r = none → NmsOk ys → ys.Pairwise sl → 1 ≤ ys.length → ys.length ≤ m → h' r = some (.lst (ys.map .str)) → Q (.ref r) h') : wpC G (n + 2) 48 [.ref a, .int m] h Q E := by
  refine call_i c48 rfl ?_
  unfold c48_law_names
  have CM := wpC_mono G (n + 1)
  refine wp_cut CM (fun σ h' => σ = [some (.ref a), some (.int m), some (.str LETS), none, none, none] ∧ h' = h) ?_ ?_
  · bv_omega
  rintro σ h' ⟨rfl, rfl⟩
  refine wp_cut CM (fun σ h1 => ∃ p, h' p = none ∧ σ = [some (.ref a), some (.int m), some (.str LETS), some (.ref p), none, none] ∧ h1 = aupd h' p (.dK (ks []))) ?_ ?_
  · bv_omega
    exact fun p hp => ⟨p, hp, rfl, rfl⟩
  rintro σ h1 ⟨p, hp, rfl, rfl⟩
  obtain ⟨pa, pc⟩ := w.new hp
  refine wp_cut CM (fun σ h2 => ∃ (f : NM Bool) (x y : Option AV), σ = [some (.ref a), some (.int m), some (.str LETS), some (.ref p), x, y] ∧ Go h' h2 a c (N + 9 * m) ∧ h2 p = some (.dK (ks f)) ∧ NKs f ∧ (∀ q ∈ f, nameOk q.1 = true) ∧ f.length ≤ m ∧ 1 ≤ f.length) ?_ ?_
  · refine for_r1 CM ?_
    bv_omega
    refine ⟨m, rfl, by omega, fun j σ h2 => ∃ (f : NM Bool) (x y : Option AV), σ = [some (.ref a), some (.int m), some (.str LETS), some (.ref p), x, y] ∧ Go h' h2 a c (N + 9 * (m - j)) ∧ h2 p = some (.dK (ks f)) ∧ NKs f ∧ (∀ q ∈ f, nameOk q.1 = true) ∧ f.length ≤ m - j ∧ (j < m → 1 ≤ f.length),
      ⟨[], none, none, rfl, by rw [Nat.sub_self]; exact (Go.refl w).set hp pa pc, aupd_same, List.nodup_nil, by simp, by simp, by omega⟩, ?_, ?_⟩
    · rintro σ h2 ⟨f, x, y, rfl, g, e, hn, hk, hl, h1⟩
      exact ⟨f, x, y, rfl, g, e, hn, hk, hl, h1 (by omega)⟩
    · rintro j σ h2 hj ⟨f, x, y, rfl, g, e, hn, hk, hl, _⟩
      bv_omega
      refine draw_spec (n := n) c10 g.w (by omega) (by decide) (by decide) fun r o r0 r1 w2 => ?_
      obtain ⟨ch, ec, lc⟩ := lets_at r0 r1
      bv_omega
      refine ⟨lets_len, ch, ec, ?_⟩
      have g2 := g.draw w2 (M := N + 9 * (m - (j + 1)) + 1) (Nat.le_refl _)
      have e2 : aupd h2 a o p = some (.dK (ks f)) := by rw [aupd_ne pa]; exact e
      generalize aupd h2 a o = h3 at g2 e2
      refine wp_mid CM (fun σ h4 => ∃ (s : Str) (x : Option AV), σ = [some (.ref a), some (.int m), some (.str LETS), some (.ref p), x, some (.str s)] ∧ Go h' h4 a c (N + 9 * (m - (j + 1)) + 9) ∧ h4 p = some (.dK (ks f)) ∧ LetS s 8) ?_ ?_
      · refine for_r1 CM ?_
        bv_omega
        refine draw_spec (n := n) c10 g2.w (by omega) (by decide) (by decide) fun r o r0 r1 w3 => ?_
        have g3 := g2.draw w3 (M := N + 9 * (m - (j + 1)) + 2) (Nat.le_refl _)
        have e3 : aupd h3 a o p = some (.dK (ks f)) := by rw [aupd_ne pa]; exact e2
        obtain ⟨q, rfl⟩ := Int.eq_ofNat_of_zero_le r0
        refine ⟨q, rfl, by omega, fun i σ h4 => ∃ (s : Str) (x : Option AV), σ = [some (.ref a), some (.int m), some (.str LETS), some (.ref p), x, some (.str s)] ∧ Go h' h4 a c (N + 9 * (m - (j + 1)) + 2 + (q - i)) ∧ h4 p = some (.dK (ks f)) ∧ LetS s (1 + (q - i)),
          ⟨_, _, rfl, by rw [Nat.sub_self]; exact g3, e3, by rw [Nat.sub_self]; exact LetS.one lc⟩, ?_, ?_⟩
        · rintro σ h4 ⟨s, x, rfl, g, e, l⟩
          exact ⟨s, x, rfl, g.mono (by omega), e, l.1, l.2.1, by have := l.2.2; omega⟩
        · rintro i σ h4 hi ⟨s, x, rfl, g, e, l⟩
          bv_omega
          refine draw_spec (n := n) c10 g.w (by omega) (by decide) (by decide) fun r o r0 r1 w4 => ?_
          obtain ⟨ch, ec, lc⟩ := lets_at r0 r1
          bv_omega
          have ls := l.2.2
          refine ⟨lets_len, ch, ec, ?_, ⟨_, _, rfl, g.draw w4 (by omega), by rw [aupd_ne pa]; exact e, ?_⟩⟩
          · exact len_small (by show s.length + 1 ≤ _; omega)
          · have := l.add lc
            have en : 1 + (q - (i + 1)) + 1 = 1 + (q - i) := by omega
            rw [en] at this
            exact this
      · rintro σ h4 ⟨s, x, rfl, g4, e4, l4⟩
        bv_omega
        refine set_dK e4 (k := .inr s) rfl (by unfold ks; rw [List.length_map]; have := len_small (n := f.length + 1) (by omega); omega) ?_
        rw [dput_bl]
        refine ⟨dset f s true, _, _, rfl, (g4.set hp pa pc).mono (by omega), aupd_same, nks_dset hn, ?_, ?_, ?_⟩
        · intro q hq
          rcases mem_dset hq with hq | rfl
          · exact hk q hq
          · exact l4.ok (Nat.le_refl _)
        · have : (dset f s true).length ≤ f.length + 1 := by
            unfold dset
            split
            · simp
            · simp
          omega
        · intro _
          have : (dset f s true).map (·.1) ≠ [] := by
            rw [keys_dset]
            split
            · rename_i hh
              intro z; rw [z] at hh; cases hh
            · simp
          have : (dset f s true) ≠ [] := fun z => this (by rw [z]; rfl)
          exact List.length_pos_iff.mpr this
  rintro σ h2 ⟨f, x, y, rfl, g, e, hn, hk, hl, h1⟩
  bv_omega
  refine .inr (.inr (.inl ⟨_, f.map (·.1), e, by unfold ks; exact keys_kv, by rw [List.length_map]; omega, fun ys pm so r hr => ?_⟩))
  have hlen : ys.length = f.length := by rw [pm.length_eq, List.length_map]
  refine shr_i (hq ys r _ (g.fresh hr) (g.none hr) ⟨fun s hs => ?_, by omega⟩ (sorted_asc so (pm.nodup_iff.mpr hn)) (by omega) (by omega) aupd_same)
  obtain ⟨q, hq, rfl⟩ := List.mem_map.mp (pm.mem_iff.mp hs)
  exact hk q hq
end PL

namespace PL
open PySem PySem.Spec PyProof.Rows L2
variable {G : Pg} {n : Nat} {Q : AQ} {E : AXQ} {h : AH}
theorem law_size_spec (c10 : G.code 10 = some f10) (c49 : G.code 49 = some f49) {a c r : Addr} {N k : Nat} {ys : List Str} {most : Int} (w : HandOk h a N c) (hN : N + 2 * ys.length + 9 < 2 ^ 60) (hY : NmsOk ys) (hp : ys.Pairwise sl) (er : h r = some (.lst (ys.map .str))) (ra : r ≠ a)
    (hm : 1 ≤ most) (hm2 : most.natAbs < 2 ^ k) (hk : k ≤ 8000) (hq : ∀ (d : Dm) (h' : AH), Go h h' a c (N + 2 * ys.length) → DOk ys k d → Q (dm d) h') : wpC G (n + 2) 49 [.ref a, .ref r, .int most] h Q E := by
  refine call_i c49 rfl ?_
  unfold c49_law_size
  have CM := wpC_mono G (n + 1)
  have hl60 := hY.len
  refine wp_cut CM (fun σ h1 => ∃ p, h p = none ∧ σ = [some (.ref a), some (.ref r), some (.int most), some (.ref p), none, none] ∧ h1 = aupd h p (.lst [])) ?_ ?_
  · bv_omega
    exact fun p hp => ⟨p, hp, rfl, rfl⟩
  rintro σ h1 ⟨p, hpn, rfl, rfl⟩
  obtain ⟨pa, pc⟩ := w.new hpn
  have pr : p ≠ r := fun e => by subst e; rw [er] at hpn; cases hpn
  refine wp_cut CM (fun σ h2 => ∃ (d : Dm) (x y : Option AV), σ = [some (.ref a), some (.ref r), some (.int most), some (.ref p), x, y] ∧ Go h h2 a c (N + 2 * ys.length) ∧ h2 p = some (.lst (d.map (prf AV.int))) ∧ DOk ys k d) ?_ ?_
  · refine for_v CM ?_
    bv_omega
    refine v_ref (C := wpC G (n + 1)) (T := G.T) (by rw [aupd_ne (Ne.symm pr)]; exact er) ?_
    refine ⟨fun xs σ h2 => ∃ (d : Dm) (done rest : List Str) (x y : Option AV), xs = rest.map .str ∧ ys = done ++ rest ∧ σ = [some (.ref a), some (.ref r), some (.int most), some (.ref p), x, y] ∧ Go h h2 a c (N + 2 * done.length) ∧ h2 p = some (.lst (d.map (prf AV.int))) ∧ Asc d ∧ (∀ q ∈ d, q.1 ∈ done ∧ q.2 ≠ 0 ∧ q.2.natAbs < 2 ^ k),
      ⟨[], [], ys, none, none, rfl, rfl, rfl, (Go.refl w).fresh hpn, aupd_same, List.Pairwise.nil, by simp⟩, ?_, ?_⟩
    · rintro σ h2 ⟨d, done, rest, x, y, e, ey, rfl, g, e2, as, hd⟩
      have := map_nil_eq e
      subst this
      rw [List.append_nil] at ey
      subst ey
      exact ⟨g.le r _ ra er, d, x, y, rfl, g, e2, as, fun q hq => (hd q hq).2, fun q hq => (hd q hq).1⟩
    · rintro x xs σ h2 ⟨d, done, rest, x', y', e, ey, rfl, g, e2, as, hd⟩
      cases rest with
      | nil => cases e
      | cons s rest =>
        rw [List.map_cons] at e
        obtain ⟨rfl, rfl⟩ := List.cons.inj e
        refine ⟨g.le r _ ra er, ?_⟩
        have hlen : done.length + 1 + rest.length = ys.length := by rw [ey]; simp; omega
        bv_omega
        refine draw_spec (n := n) c10 g.w (by omega) (by decide) (by decide) fun t o t0 t1 w2 => ?_
        have g2 := g.draw w2 (M := N + 2 * done.length + 1) (Nat.le_refl _)
        have e3 : aupd h2 a o p = some (.lst (d.map (prf AV.int))) := by rw [aupd_ne pa]; exact e2
        generalize aupd h2 a o = h3 at g2 e3
        have up : ∀ z, z ∈ done ++ [s] ↔ z ∈ done ∨ z = s := by simp
        bv_omega
        split
        · refine ⟨wide_mul (a := 2) (b := k + 1) (by decide) (Nat.lt_trans hm2 (Nat.pow_lt_pow_right (by decide) (Nat.lt_succ_self _))) (by decide) (by omega) (by omega), ?_⟩
          refine draw_gen (n := n) c10 g2.w (by omega) (by omega) ?_ fun u o u0 u1 w3 => ?_
          · refine Nat.lt_of_lt_of_le (log_lt (k := k + 1) ?_ (by omega)) (by omega)
            rw [Nat.pow_succ]; omega
          have g3 := g2.draw w3 (M := N + 2 * (done ++ [s]).length) (by rw [List.length_append]; simp; omega)
          have e4 : aupd h3 a o p = some (.lst (d.map (prf AV.int))) := by rw [aupd_ne pa]; exact e3
          generalize aupd h3 a o = h4 at g3 e4
          bv_omega
          have hdl : d.length ≤ 1000 := by
            have := nks_len as.nks (N := ys) (fun q hq => by rw [ey]; exact List.mem_append_left _ (hd q hq).1)
            omega
          refine ⟨ms_app e4, m_app e4 (by rw [List.length_map]; have := len_small (n := d.length + 1) (by omega); omega) ?_⟩
          refine ⟨d ++ [(s, u - most + (if 0 ≤ u - most then 1 else 0))], done ++ [s], rest, _, _, rfl, by rw [ey]; simp, rfl, g3.set hpn pa pc, ?_, ?_, ?_⟩
          · rw [aupd_same, List.map_append]; rfl
          · unfold Asc
            rw [List.pairwise_append]
            refine ⟨as, List.pairwise_singleton _ _, fun q hq z hz => ?_⟩
            rw [List.mem_singleton.mp hz]
            rw [ey, List.pairwise_append] at hp
            exact hp.2.2 q.1 (hd q hq).1 s List.mem_cons_self
          · intro q hq
            rcases List.mem_append.mp hq with hq | hq
            · exact ⟨List.mem_append_left _ (hd q hq).1, (hd q hq).2⟩
            · rw [List.mem_singleton.mp hq]
              refine ⟨by simp, ?_⟩
              show (u - most + (if 0 ≤ u - most then 1 else 0)) ≠ 0 ∧ (u - most + (if 0 ≤ u - most then 1 else 0)).natAbs < 2 ^ k
              by_cases hh : 0 ≤ u - most
              · rw [if_pos hh]; omega
              · rw [if_neg hh]; omega
        · exact ⟨d, done ++ [s], rest, _, _, rfl, by rw [ey]; simp, rfl, g2.mono (by rw [List.length_append]; simp; omega), e3, as, fun q hq => ⟨List.mem_append_left _ (hd q hq).1, (hd q hq).2⟩⟩
  rintro σ h2 ⟨d, x, y, rfl, g, e2, o⟩
  bv_omega
  exact tu_lst e2 (shr_i (hq d h2 g o))
theorem strOk_name {s : Str} (h : nameOk s = true) : PyData.strOk s = true := by
  unfold nameOk at h
  rw [Bool.and_eq_true] at h
  have h2 := h.2
  unfold PyData.strOk
  rw [← Array.all_toList, List.all_eq_true]
  intro c hc
  have := List.all_eq_true.mp h2 c hc
  have t : ∀ c, letC c = true → c < 0x110000 := by
    intro c hc
    have hm : c ∈ LETS.cps.toList := of_decide_eq_true hc
    have : (LETS.cps.toList.all fun c => decide (c < 0x110000)) = true := by decide +kernel
    exact of_decide_eq_true (List.all_eq_true.mp this c hm)
  exact decide_eq_true (t c this)
theorem flat_dm {N : List Str} {k : Nat} {d : Dm} (hN : NmsOk N) (o : DOk N k d) : AV.flat 50 (dm d) = true := by
  show AV.flats 49 (d.map (prf AV.int)) = true
  have : ∀ l : Dm, (∀ p ∈ l, p.1 ∈ N) → AV.flats 49 (l.map (prf AV.int)) = true := by
    intro l
    induction l with
    | nil => intro _; simp [AV.flats]
    | cons p l ih =>
      intro hp
      rw [List.map_cons]
      simp only [AV.flats, Bool.and_eq_true]
      refine ⟨?_, ih fun q hq => hp q (List.mem_cons_of_mem _ hq)⟩
      simp [prf, AV.flat, AV.flats, strOk_name (hN.ok _ (hp p List.mem_cons_self))]
  exact this d o.sub
theorem small_dm {N : List Str} {k : Nat} {d : Dm} (hN : NmsOk N) (o : DOk N k d) : Small 2 (dm d) := by
  refine ⟨?_, fun x hx => ?_⟩
  · rw [List.length_map]
    have := o.len
    have := hN.len
    omega
  · obtain ⟨p, _, rfl⟩ := List.mem_map.mp hx
    refine ⟨by simp, fun y hy => ?_⟩
    simp at hy
    rcases hy with rfl | rfl <;> exact trivial
theorem dm_inj {d e : Dm} (h : dm d = dm e) : d = e := by
  have h : d.map (prf AV.int) = e.map (prf AV.int) := by
    have : AV.tup (d.map (prf AV.int)) = AV.tup (e.map (prf AV.int)) := h
    exact AV.tup.inj this
  induction d generalizing e with
  | nil => exact (map_nil_eq h).symm
  | cons p d ih =>
    cases e with
    | nil => cases h
    | cons q e =>
      rw [List.map_cons, List.map_cons] at h
      obtain ⟨h1, h2⟩ := List.cons.inj h
      have hp : p = q := by
        unfold prf at h1
        have := AV.tup.inj h1
        simp at this
        exact Prod.ext this.1 this.2
      rw [hp, ih (e := e) (show dm d = dm e from congrArg AV.tup h2) h2]
theorem eqv_dm : ∀ (d e : Dm), AV.eqvs (d.map (prf AV.int)) (e.map (prf AV.int)) = decide (d = e)
  | [], [] => by simp [AV.eqvs]
  | [], q :: e => by simp [AV.eqvs]
  | p :: d, [] => by simp [AV.eqvs]
  | p :: d, q :: e => by
    rw [List.map_cons, List.map_cons]
    simp only [AV.eqvs]
    rw [eqv_dm d e]
    have : AV.eqv (prf AV.int p) (prf AV.int q) = decide (p = q) := by
      unfold prf
      obtain ⟨a, x⟩ := p
      obtain ⟨b, y⟩ := q
      simp only [AV.eqv, AV.eqvs, Bool.and_true]
      by_cases h1 : a = b <;> by_cases h2 : x = y <;> simp [h1, h2]
    rw [this]
    by_cases h1 : p = q <;> by_cases h2 : d = e <;> simp [h1, h2]
theorem eq_dm {N M : List Str} {k m : Nat} {d e : Dm} {R : Bool → Prop} (hN : NmsOk N) (hM : NmsOk M) (o : DOk N k d) (o2 : DOk M m e) (q : R (decide (d = e))) : eqR (dm d) (dm e) h R := by
  refine eq_same (flat_dm hN o) (flat_dm hM o2) (fun a e => by cases e) ?_
  have : AV.eqv (dm d) (dm e) = decide (d = e) := by
    show AV.eqv (.tup _) (.tup _) = _
    simp only [AV.eqv]
    exact eqv_dm d e
  rw [this]
  exact q
theorem law_is_dm (c9 : G.code 9 = some f9) {N M : List Str} {k m : Nat} {d e : Dm} (hN : NmsOk N) (hM : NmsOk M) (o : DOk N k d) (o2 : DOk M m e) (hq : d = e → Q (.bl true) h) (he : d = e) : wpC G (n + 3) 9 [dm d, dm e] h Q E := by
  refine law_is_spec (n := n) c9 2 _ _ (flat_dm hN o) (flat_dm hM o2) (small_dm hM o2) fun b hb => ?_
  have : b = true := hb.mpr (by rw [he])
  rw [this]
  exact hq he
end PL

namespace PL
open PySem PySem.Spec PyProof.Rows L2
theorem DTy.tydt {h : AH} {v : AV} (d : DTy h v) : TydT h v := by
  refine ⟨d.tyd, fun xs e x hx => ?_⟩
  subst e
  exact ((dty_tup.mp d).2 x hx).tyd
theorem fr_int (i : Int) : AV.tup [.int i, .int 1] = fr (i : Rat) := by
  unfold fr
  rw [Rat.num_intCast, Rat.den_intCast]; rfl
theorem sz_int {i : Int} {k : Nat} (h : i.natAbs < 2 ^ k) (hk : 0 < k) : Sz k (i : Rat) := by
  refine ⟨by rw [Rat.num_intCast]; exact h, ?_⟩
  rw [Rat.den_intCast]
  exact Nat.one_lt_two_pow (by omega)
theorem sz_zero {k : Nat} (h : 0 < k) : Sz k 0 := ⟨by show 0 < 2 ^ k; exact Nat.two_pow_pos k, by show 1 < 2 ^ k; exact Nat.one_lt_two_pow (by omega)⟩
theorem fr_inj {x y : Rat} (h : fr x = fr y) : x = y := by
  unfold fr at h
  have := AV.tup.inj h
  simp at this
  exact Rat.ext this.1 (by omega)
theorem flat_fr {n : Nat} (x : Rat) : AV.flat (n + 1) (fr x) = true := by simp [fr, AV.flat, AV.flats]
theorem eqv_fr (x y : Rat) : AV.eqv (fr x) (fr y) = decide (x = y) := by
  have e : AV.eqv (fr x) (fr y) = decide (x.num = y.num ∧ (x.den : Int) = y.den) := by
    simp only [fr, AV.eqv, AV.eqvs, Bool.and_true]
    by_cases h1 : x.num = y.num <;> by_cases h2 : (x.den : Int) = y.den <;> simp [h1, h2]
  rw [e]
  apply decide_eq_decide.mpr
  constructor
  · rintro ⟨h1, h2⟩; exact Rat.ext h1 (by omega)
  · rintro rfl; exact ⟨rfl, rfl⟩
theorem eq_fr {h : AH} {x y : Rat} {R : Bool → Prop} (q : R (decide (x = y))) : eqR (fr x) (fr y) h R := by
  refine eq_same (flat_fr x) (flat_fr y) (fun a e => by cases e) ?_
  rw [eqv_fr]
  exact q
theorem divInt_nz {t b : Int} (hb : 0 < b) (ht : t ≠ 0) : Rat.divInt t b ≠ 0 := by
  intro z
  have q := (divInt_num (t := t) hb).1
  rw [z] at q
  have d : (Nat.gcd t.natAbs b.natAbs : Int) ∣ t := Int.ofNat_dvd_left.mpr (Nat.gcd_dvd_left _ _)
  have := Int.mul_ediv_cancel' d
  rw [← q] at this
  exact ht (by simpa using this.symm)
section
variable {G : Pg} {n : Nat} {Q : AQ} {E : AXQ} {h : AH}
theorem small_fr (x : Rat) : Small 1 (fr x) := ⟨by simp, fun y hy => by
  simp at hy
  rcases hy with rfl | rfl <;> exact trivial⟩
theorem law_is_fr (c9 : G.code 9 = some f9) {x y : Rat} (e : x = y) (hq : Q (.bl true) h) : wpC G (n + 2) 9 [fr x, fr y] h Q E := by
  refine law_is_spec (n := n) c9 1 _ _ (flat_fr x) (flat_fr y) (small_fr y) fun b hb => ?_
  rw [hb.mpr (by rw [e])]
  exact hq
end
abbrev Wm := NM Rat
def wm (w : Wm) : AV := np fr w
def wv (w : Wm) (b : Str) : Rat := (w.lookup b).getD 0
structure WOk (N : List Str) (k : Nat) (w : Wm) : Prop where
  asc : Asc w
  nz : ∀ p ∈ w, p.2 ≠ 0 ∧ Sz k p.2
  sub : ∀ p ∈ w, p.1 ∈ N
theorem WOk.len {N : List Str} {k : Nat} {w : Wm} (o : WOk N k w) : w.length ≤ N.length := nks_len o.asc.nks o.sub
theorem WOk.nil {N : List Str} {k : Nat} : WOk N k [] := ⟨List.Pairwise.nil, by simp, by simp⟩
theorem WOk.bd {N : List Str} {k : Nat} {w : Wm} (o : WOk N k w) (hk : 0 < k) (b : Str) : Sz k (wv w b) := by
  unfold wv
  cases e : w.lookup b with
  | none => exact sz_zero hk
  | some v => exact (o.nz _ (lookup_mem e)).2
theorem wv_of {w : Wm} {p : Str × Rat} (hn : NKs w) (h : p ∈ w) : wv w p.1 = p.2 := by
  unfold wv
  rw [lookup_some hn (show (p.1, p.2) ∈ w from h)]; rfl
theorem wv_none {w : Wm} {b : Str} (h : b ∉ w.map (·.1)) : wv w b = 0 := by
  unfold wv; rw [lookup_none h]; rfl
theorem wget {w : Wm} {b : Str} : (dget (w.map (kvf fr)) (.inr b)).getD (fr 0) = fr (wv w b) := by
  rw [lookup_map_kv]
  unfold wv
  cases w.lookup b <;> rfl
def wsum (w : Wm) : Dm → Rat
  | [] => 0
  | p :: d => wv w p.1 * (p.2 : Rat) + wsum w d
def nsum (f : Str → Rat) : List Str → Rat
  | [] => 0
  | b :: r => f b + nsum f r
theorem nsum_congr {f g : Str → Rat} : ∀ {l : List Str}, (∀ b ∈ l, f b = g b) → nsum f l = nsum g l
  | [], _ => rfl
  | b :: r, h => by
    show f b + nsum f r = g b + nsum g r
    rw [h b List.mem_cons_self, nsum_congr fun c hc => h c (List.mem_cons_of_mem _ hc)]
theorem nsum_zero : ∀ {l : List Str}, nsum (fun _ => 0) l = 0
  | [] => rfl
  | b :: r => by show 0 + nsum _ r = 0; rw [nsum_zero, Rat.add_zero]
theorem nsum_add (f g : Str → Rat) : ∀ l : List Str, nsum (fun b => f b + g b) l = nsum f l + nsum g l
  | [] => by show (0 : Rat) = 0 + 0; rw [Rat.add_zero]
  | b :: r => by
    show f b + g b + nsum _ r = (f b + nsum f r) + (g b + nsum g r)
    rw [nsum_add f g r]
    grind
theorem nsum_mul (f : Str → Rat) (c : Rat) : ∀ l : List Str, nsum (fun b => f b * c) l = nsum f l * c
  | [] => by show (0 : Rat) = 0 * c; rw [Rat.zero_mul]
  | b :: r => by
    show f b * c + nsum _ r = (f b + nsum f r) * c
    rw [nsum_mul f c r]
    grind
theorem nsum_at (f : Str → Rat) (a : Str) (x : Rat) : ∀ {l : List Str}, l.Nodup → a ∈ l → nsum (fun b => if b = a then f b + x else f b) l = nsum f l + x
  | b :: r, hn, ha => by
    rw [List.nodup_cons] at hn
    show (if b = a then f b + x else f b) + nsum _ r = f b + nsum f r + x
    by_cases e : b = a
    · subst e
      rw [if_pos rfl, nsum_congr (g := f)]
      · grind
      · intro c hc
        have : c ≠ b := fun e => hn.1 (e ▸ hc)
        rw [if_neg this]
    · rw [if_neg e, nsum_at f a x hn.2 ((List.mem_cons.mp ha).resolve_left (Ne.symm e))]
      grind
theorem wsum_names (w : Wm) {ys : List Str} (hn : ys.Nodup) : ∀ {d : Dm}, NKs d → (∀ p ∈ d, p.1 ∈ ys) → wsum w d = nsum (fun b => wv w b * (dv d b : Rat)) ys
  | [], _, _ => by
    show (0 : Rat) = _
    rw [nsum_congr (g := fun _ => 0), nsum_zero]
    intro b _
    rw [dv_nil]
    exact Rat.mul_zero _
  | (a, m) :: d, hk, hs => by
    unfold NKs at hk
    rw [List.map_cons, List.nodup_cons] at hk
    show wv w a * (m : Rat) + wsum w d = _
    rw [wsum_names w hn hk.2 fun p hp => hs p (List.mem_cons_of_mem _ hp)]
    have h0 : dv d a = 0 := dv_none hk.1
    have key : nsum (fun b => wv w b * (dv ((a, m) :: d) b : Rat)) ys = nsum (fun b => if b = a then wv w b * (dv d b : Rat) + wv w a * (m : Rat) else wv w b * (dv d b : Rat)) ys := by
      apply nsum_congr
      intro b _
      show wv w b * (dv ((a, m) :: d) b : Rat) = if b = a then wv w b * (dv d b : Rat) + wv w a * (m : Rat) else wv w b * (dv d b : Rat)
      rw [dv_cons]
      by_cases e : b = a
      · subst e
        rw [if_pos rfl, if_pos rfl, h0, show ((0 : Int) : Rat) = 0 from rfl, Rat.mul_zero, Rat.zero_add]
      · rw [if_neg e, if_neg e]
    rw [key, nsum_at _ a _ hn (hs (a, m) List.mem_cons_self), Rat.add_comm]
theorem wsum_add (w : Wm) {N : List Str} {k m j : Nat} {ys : List Str} {d e f : Dm} (hn : ys.Nodup) (o1 : DOk ys k d) (o2 : DOk ys m e) (o3 : DOk ys j f) (h : ∀ b, dv f b = dv d b + dv e b) : wsum w f = wsum w d + wsum w e := by
  rw [wsum_names w hn o1.asc.nks o1.sub, wsum_names w hn o2.asc.nks o2.sub, wsum_names w hn o3.asc.nks o3.sub, ← nsum_add]
  apply nsum_congr
  intro b _
  rw [h b, Rat.intCast_add]
  grind
theorem wsum_sub (w : Wm) {k m j : Nat} {ys : List Str} {d e f : Dm} (hn : ys.Nodup) (o1 : DOk ys k d) (o2 : DOk ys m e) (o3 : DOk ys j f) (h : ∀ b, dv f b = dv d b - dv e b) : wsum w f = wsum w d - wsum w e := by
  have := wsum_add (N := ys) w hn o3 o2 o1 (fun b => by rw [h b]; omega)
  grind
theorem wsum_rmul (w : Wm) (m : Int) (d : Dm) : wsum w (rmul d m) = wsum w d * (m : Rat) := by
  unfold rmul
  split
  · rename_i h
    subst h
    show (0 : Rat) = _ * ((0 : Int) : Rat)
    rw [show ((0 : Int) : Rat) = 0 from rfl, Rat.mul_zero]
  · induction d with
    | nil => show (0 : Rat) = 0 * _; rw [Rat.zero_mul]
    | cons p d ih =>
      rw [List.map_cons]
      show wv w p.1 * ((p.2 * m : Int) : Rat) + wsum w _ = (wv w p.1 * (p.2 : Rat) + wsum w d) * (m : Rat)
      rw [ih, Rat.intCast_mul]
      grind
end PL

namespace PL
open PySem PySem.Spec PyProof.Rows L2
variable {G : Pg} {n : Nat} {Q : AQ} {E : AXQ} {h : AH}
def frNz : AV → Bool | .tup [_, x] => isFr x && (match x with | .tup (.int a :: _) => decide (a ≠ 0) | _ => false) | _ => false
def isWts (v : AV) : Bool := areNP v && match v with | .tup xs => xs.all frNz | _ => false
theorem isFr_shape {x : AV} (h : isFr x = true) : ∃ a b, x = .tup [.int a, .int b] := by
  match x, h with
  | .tup [.int a, .int b], _ => exact ⟨a, b, rfl⟩
theorem areNP_tup {v : AV} (h : areNP v = true) : ∃ xs, v = .tup xs ∧ xs.all isNP = true := by
  cases v with
  | tup xs =>
    have : (xs.all isNP && ascA xs) = true := h
    rw [Bool.and_eq_true] at this
    exact ⟨xs, rfl, this.1⟩
  | _ => cases h
structure CFr (G : Pg) : Prop where
  c0 : G.code 0 = some f0
  c1 : G.code 1 = some f1
  c2 : G.code 2 = some f2
  c3 : G.code 3 = some f3
  c4 : G.code 4 = some f4
  c5 : G.code 5 = some f5
  c7 : G.code 7 = some f7
theorem are_weights_spec (c : CDim G) (k : CFr G) (c63 : G.code 63 = some f63) {v : AV} (ht : DTy h v) (hq : Q (.bl (isWts v)) h) : wpC G (n + 3) 63 [v] h Q E := by
  refine call_i c63 rfl ?_
  unfold c63_are_weights
  bv_omega
  refine are_named_pairs_spec c.c34 c.c35 c.g0 c.g1 ht ?_
  by_cases ha : areNP v = true
  · rw [ha]
    bv_omega
    obtain ⟨xs, rfl, hn⟩ := areNP_tup ha
    obtain ⟨hl, hx⟩ := dty_tup.mp ht
    have hq : Q (.bl (areNP (.tup xs) && xs.all frNz)) h := hq
    rw [ha, Bool.true_and] at hq
    refine all_comp (wpC_mono G (n + 2)) ?_
    bv_omega
    refine ⟨hl, fun _ _ => trivial, frNz, fun x hx' h2 l => ?_, fun h2 l => shr_le l hq⟩
    obtain ⟨s, y, rfl, _⟩ := isNP_key (List.all_eq_true.mp hn x hx')
    have dy := ((dty_tup.mp (hx _ hx')).2 y (by simp)).mono l
    refine g_tupR rfl ?_
    bv_omega
    refine is_fraction_spec k.c0 k.c1 k.c2 dy.tydt ?_
    cases e : isFr y with
    | true =>
      obtain ⟨a, b, rfl⟩ := isFr_shape e
      bv_omega
      refine ⟨?_, ALe.refl⟩
      show _ = (isFr (.tup [.int a, .int b]) && decide (a ≠ 0))
      rw [e, Bool.true_and, decide_not]
    | false =>
      bv_omega
      refine ⟨?_, ALe.refl⟩
      show false = (isFr y && _)
      rw [e]; rfl
  · have ha : areNP v = false := by simpa using ha
    rw [ha]
    bv_omega
    have : isWts v = false := by unfold isWts; rw [ha, Bool.false_and]
    rw [this] at hq
    exact shr_i hq
theorem asc_keysA {α : Type} {f : α → AV} : ∀ {d : NM α}, Asc d → ascA (d.map (prf f)) = true
  | [], _ => rfl
  | [p], _ => rfl
  | p :: q :: r, h => by
    show (decide (sl p.1 q.1) && ascA ((q :: r).map (prf f))) = true
    have h2 := List.pairwise_cons.mp h
    rw [asc_keysA (d := q :: r) h2.2, Bool.and_true]
    exact decide_eq_true (h2.1 q List.mem_cons_self)
theorem areNP_np {α : Type} {f : α → AV} {N : List Str} {d : NM α} (hN : NmsOk N) (ha : Asc d) (hs : ∀ p ∈ d, p.1 ∈ N) : areNP (np f d) = true := by
  show ((d.map (prf f)).all isNP && ascA (d.map (prf f))) = true
  rw [asc_keysA ha, Bool.and_true, List.all_map, List.all_eq_true]
  intro p hp
  exact hN.ok _ (hs p hp)
theorem isWts_wm {N : List Str} {k : Nat} {w : Wm} (hN : NmsOk N) (o : WOk N k w) : isWts (wm w) = true := by
  show (areNP (np fr w) && (w.map (prf fr)).all frNz) = true
  rw [areNP_np hN o.asc o.sub, Bool.true_and, List.all_map, List.all_eq_true]
  intro p hp
  show (isFr (fr p.2) && decide (p.2.num ≠ 0)) = true
  rw [isFr_fr, Bool.true_and]
  exact decide_eq_true (num_nz (o.nz p hp).1)
theorem dty_fr (x : Rat) : DTy h (fr x) := dty_tup.mpr ⟨by simp, fun y hy => by
  simp at hy
  rcases hy with rfl | rfl <;> (unfold DTy; trivial)⟩
theorem dty_np {α : Type} {f : α → AV} {N : List Str} {d : NM α} (hN : NmsOk N) (hl : d.length ≤ N.length) (hs : ∀ p ∈ d, p.1 ∈ N) (hf : ∀ p ∈ d, DTy h (f p.2)) : DTy h (np f d) := by
  refine dty_tup.mpr ⟨?_, ?_⟩
  · rw [List.length_map]
    have := hN.len
    omega
  · intro x hx
    obtain ⟨p, hp, rfl⟩ := List.mem_map.mp hx
    refine dty_tup.mpr ⟨by simp, fun y hy => ?_⟩
    simp at hy
    rcases hy with rfl | rfl
    · exact dty_str.mpr (by have := name_len (hN.ok _ (hs p hp)); omega)
    · exact hf p hp
theorem dty_wm {N : List Str} {k : Nat} {w : Wm} (hN : NmsOk N) (o : WOk N k w) : DTy h (wm w) := dty_np hN o.len o.sub fun p _ => dty_fr _
theorem sz_wsum {N M : List Str} {k m : Nat} {w : Wm} (ow : WOk N k w) (hk : 0 < k) (hm : 0 < m) : ∀ {d : Dm}, (∀ p ∈ d, p.2.natAbs < 2 ^ m) → Sz (d.length * (k + m + 1) + 1) (wsum w d)
  | [], _ => sz_zero (by omega)
  | p :: d, h => by
    have h1 := sz_mul (ow.bd hk p.1) (sz_int (h p List.mem_cons_self) hm)
    have h2 := sz_wsum (N := N) (M := M) ow hk hm (d := d) fun q hq => h q (List.mem_cons_of_mem _ hq)
    refine (sz_add h1 h2).mono ?_
    rw [List.length_cons, Nat.add_mul]
    omega
theorem raw_weighs_spec (k : CFr G) (c64 : G.code 64 = some f64) (g5 : G.T.gv 5 = some (fr 0)) {N M : List Str} {a b : Nat} {w : Wm} {d : Dm} (ow : WOk N a w) (od : DOk M b d) (ha : 0 < a) (hb : 0 < b) (hl : (d.length + 1) * (a + b + 1) + 2 ≤ 7900)
    (hq : Q (fr (wsum w d)) h) : wpC G (n + 4) 64 [wm w, dm d] h Q E := by
  refine call_i c64 rfl ?_
  unfold c64_raw_weighs
  have CM := wpC_mono G (n + 3)
  refine wp_cut CM (fun σ h' => ∃ p, h p = none ∧ σ = [some (wm w), some (dm d), some (.ref p), some (fr 0), none, none] ∧ h' = aupd h p (.dK (w.map (kvf fr)))) ?_ ?_
  · bv_omega
    exact dict_np ow.asc.nks fun p hp => ⟨fr 0, g5, p, hp, rfl, rfl⟩
  rintro σ h' ⟨p, hp, rfl, rfl⟩
  refine wp_cut CM (fun σ h' => ∃ x y, σ = [some (wm w), some (dm d), some (.ref p), some (fr (wsum w d)), x, y] ∧ h' = aupd h p (.dK (w.map (kvf fr)))) ?_ ?_
  · refine for_v CM ?_
    bv_omega
    show itR (.tup (d.map (prf AV.int))) _ _
    rw [v_tup]
    refine ⟨fun xs σ h' => ∃ (rest : Dm) (f : Rat) (x y : Option AV), xs = rest.map (prf AV.int) ∧ σ = [some (wm w), some (dm d), some (.ref p), some (fr f), x, y] ∧ h' = aupd h p (.dK (w.map (kvf fr))) ∧ (∀ q ∈ rest, q ∈ d) ∧ rest.length ≤ d.length ∧ f + wsum w rest = wsum w d ∧ Sz ((d.length - rest.length) * (a + b + 1) + 1) f,
      ⟨d, 0, none, none, rfl, rfl, rfl, fun _ h => h, Nat.le_refl _, Rat.zero_add _, by rw [Nat.sub_self, Nat.zero_mul]; exact sz_zero (by omega)⟩, ?_, ?_⟩
    · rintro σ h' ⟨rest, f, x, y, e, rfl, rfl, _, _, es, _⟩
      have := map_nil_eq e
      subst this
      have es : f + 0 = wsum w d := es
      rw [Rat.add_zero] at es
      subst es
      exact ⟨trivial, x, y, rfl, rfl⟩
    · rintro x xs σ h' ⟨rest, f, u, v, e, rfl, rfl, hr, hlen, es, sf⟩
      cases rest with
      | nil => cases e
      | cons q rest =>
        obtain ⟨s, m⟩ := q
        rw [List.map_cons] at e
        obtain ⟨rfl, rfl⟩ := List.cons.inj e
        refine ⟨trivial, g_tupR rfl ?_⟩
        have hm := od.nz _ (hr (s, m) List.mem_cons_self)
        rw [List.length_cons] at hlen
        bv_omega
        refine ⟨ms_get aupd_same, fr 0, g5, get_dK aupd_same (k' := .inr s) rfl ?_⟩
        rw [wget]
        rw [fr_int]
        have s1 := ow.bd ha s
        have s2 := sz_int hm.2 hb
        have sb : (d.length - (rest.length + 1)) * (a + b + 1) ≤ d.length * (a + b + 1) := Nat.mul_le_mul_right _ (by omega)
        have sd : (d.length + 1) * (a + b + 1) = d.length * (a + b + 1) + (a + b + 1) := by rw [Nat.add_mul, Nat.one_mul]
        refine raw_times_spec (n := n) k.c1 k.c3 k.c7 s1 s2 ha hb (by omega) ?_
        have s3 := sz_mul s1 s2
        rw [List.length_cons] at sf
        refine raw_plus_spec (n := n) k.c1 k.c3 k.c5 sf s3 (by omega) (by omega) (by omega) ?_
        refine ⟨rest, _, _, _, rfl, rfl, rfl, fun q hq => hr q (List.mem_cons_of_mem _ hq), by omega, ?_, (sz_add sf s3).mono ?_⟩
        · rw [← es]
          show f + wv w s * (m : Rat) + wsum w rest = f + (wv w s * (m : Rat) + wsum w rest)
          rw [Rat.add_assoc]
        · have : d.length - rest.length = d.length - (rest.length + 1) + 1 := by omega
          rw [this, Nat.add_mul, Nat.one_mul]
          omega
  rintro σ h' ⟨x, y, rfl, rfl⟩
  bv_omega
  exact shr_le (ALe.fresh hp) hq
theorem weighs_spec (c : CDim G) (k : CFr G) (c63 : G.code 63 = some f63) (c64 : G.code 64 = some f64) (c65 : G.code 65 = some f65) (g5 : G.T.gv 5 = some (fr 0)) {N M : List Str} {a b : Nat} {w : Wm} {d : Dm} (hN : NmsOk N) (hM : NmsOk M) (ow : WOk N a w) (od : DOk M b d) (ha : 0 < a) (hb : 0 < b) (hl : (d.length + 1) * (a + b + 1) + 2 ≤ 7900)
    (hq : Q (fr (wsum w d)) h) : wpC G (n + 5) 65 [wm w, dm d] h Q E := by
  refine call_i c65 rfl ?_
  unfold c65_weighs
  bv_omega
  refine are_weights_spec (n := n + 1) c k c63 (dty_wm hN ow) ?_
  rw [isWts_wm hN ow]
  bv_omega
  refine check_dm c hM od ?_
  exact raw_weighs_spec (n := n) k c64 g5 ow od ha hb hl (shr_i hq)
theorem weighs_badw (c : CDim G) (k : CFr G) (c63 : G.code 63 = some f63) (c65 : G.code 65 = some f65) {v w : AV} (hv : DTy h v) (hb : isWts v = false) (he : E ⟨6, []⟩ h) : wpC G (n + 5) 65 [v, w] h Q E := by
  refine call_i c65 rfl ?_
  unfold c65_weighs
  bv_omega
  refine are_weights_spec (n := n + 1) c k c63 hv ?_
  rw [hb]
  bv_omega
  exact shr_i he
theorem weighs_badd (c : CDim G) (k : CFr G) (c63 : G.code 63 = some f63) (c65 : G.code 65 = some f65) {N : List Str} {a : Nat} {w : Wm} {v : AV} (hN : NmsOk N) (ow : WOk N a w) (hv : DTy h v) (hb : isDim v = false) (he : E ⟨3, []⟩ h) : wpC G (n + 5) 65 [wm w, v] h Q E := by
  refine call_i c65 rfl ?_
  unfold c65_weighs
  bv_omega
  refine are_weights_spec (n := n + 1) c k c63 (dty_wm hN ow) ?_
  rw [isWts_wm hN ow]
  bv_omega
  exact check_bad c hv hb (shr_i he)
theorem low_wsum (x y : Rat) (m : Int) : Rat.divInt (x.num * y.den + m * y.num * x.den) (x.den * y.den) = x + y * (m : Rat) := by
  have h1 : (x.den : Int) ≠ 0 := den_nz x
  have h2 : (y.den : Int) ≠ 0 := den_nz y
  have e : y * (m : Rat) = Rat.divInt (m * y.num) y.den := by
    rw [mul_divInt, Rat.num_intCast, Rat.den_intCast, Int.mul_comm]
    simp
  rw [e]
  conv => rhs; rw [← Rat.num_divInt_den x]
  rw [Rat.divInt_add_divInt _ _ h1 h2]
theorem law_weighed_spec (c11 : G.code 11 = some f11) (c67 : G.code 67 = some f67) {N M : List Str} {a b : Nat} {w : Wm} {d : Dm} (ow : WOk N a w) (od : DOk M b d) (ha : 0 < a) (hb : 0 < b) (hl : (d.length + 1) * (a + b + 1) + 2 ≤ 7900)
    (hq : Q (fr (wsum w d)) h) : wpC G (n + 2) 67 [wm w, dm d] h Q E := by
  refine call_i c67 rfl ?_
  unfold c67_law_weighed
  have CM := wpC_mono G (n + 1)
  have fr0 : AV.tup [.int 0, .int 1] = fr 0 := rfl
  refine wp_cut CM (fun σ h' => ∃ p, h p = none ∧ σ = [some (wm w), some (dm d), some (.ref p), none, none, none, none] ∧ h' = aupd h p (.dK (w.map (kvf fr)))) ?_ ?_
  · bv_omega
    exact dict_np ow.asc.nks fun p hp => ⟨p, hp, rfl, rfl⟩
  rintro σ h' ⟨p, hp, rfl, rfl⟩
  refine wp_cut CM (fun σ h' => σ = [some (wm w), some (dm d), some (.ref p), some (fr 0), none, none, none] ∧ h' = aupd h p (.dK (w.map (kvf fr)))) ?_ ?_
  · bv_omega
    rfl
  rintro σ h' ⟨rfl, rfl⟩
  refine wp_cut CM (fun σ h' => ∃ x y z, σ = [some (wm w), some (dm d), some (.ref p), some (fr (wsum w d)), x, y, z] ∧ h' = aupd h p (.dK (w.map (kvf fr)))) ?_ ?_
  · refine for_v CM ?_
    bv_omega
    show itR (.tup (d.map (prf AV.int))) _ _
    rw [v_tup]
    refine ⟨fun xs σ h' => ∃ (rest : Dm) (f : Rat) (x y z : Option AV), xs = rest.map (prf AV.int) ∧ σ = [some (wm w), some (dm d), some (.ref p), some (fr f), x, y, z] ∧ h' = aupd h p (.dK (w.map (kvf fr))) ∧ (∀ q ∈ rest, q ∈ d) ∧ rest.length ≤ d.length ∧ f + wsum w rest = wsum w d ∧ Sz ((d.length - rest.length) * (a + b + 1) + 1) f,
      ⟨d, 0, none, none, none, rfl, rfl, rfl, fun _ h => h, Nat.le_refl _, Rat.zero_add _, by rw [Nat.sub_self, Nat.zero_mul]; exact sz_zero (by omega)⟩, ?_, ?_⟩
    · rintro σ h' ⟨rest, f, x, y, z, e, rfl, rfl, _, _, es, _⟩
      have := map_nil_eq e
      subst this
      have es : f + 0 = wsum w d := es
      rw [Rat.add_zero] at es
      subst es
      exact ⟨trivial, x, y, z, rfl, rfl⟩
    · rintro x xs σ h' ⟨rest, f, u, v, z, e, rfl, rfl, hr, hlen, es, sf⟩
      cases rest with
      | nil => cases e
      | cons q rest =>
        obtain ⟨s, m⟩ := q
        rw [List.map_cons] at e
        obtain ⟨rfl, rfl⟩ := List.cons.inj e
        refine ⟨trivial, g_tupR rfl ?_⟩
        have hm := od.nz _ (hr (s, m) List.mem_cons_self)
        rw [List.length_cons] at hlen
        bv_omega
        refine ⟨ms_get aupd_same, get_dK aupd_same (k' := .inr s) rfl ?_⟩
        rw [fr0, wget]
        have s1 := ow.bd ha s
        have sb : (d.length - (rest.length + 1)) * (a + b + 1) ≤ d.length * (a + b + 1) := Nat.mul_le_mul_right _ (by omega)
        have sd : (d.length + 1) * (a + b + 1) = d.length * (a + b + 1) + (a + b + 1) := by rw [Nat.add_mul, Nat.one_mul]
        rw [List.length_cons] at sf
        unfold fr
        bv_omega
        generalize hk : (d.length - (rest.length + 1)) * (a + b + 1) + 1 = K at sf
        have x1 := lt_mul (i := m) (j := (wv w s).num) hm.2 s1.1
        have x2 := lt_mul (i := f.num) (j := ((wv w s).den : Int)) sf.1 s1.2
        have x3 := lt_mul (i := (f.den : Int)) (j := ((wv w s).den : Int)) sf.2 s1.2
        have hK : 0 < K := by omega
        refine ⟨mulW sf.1 (j := ((wv w s).den : Int)) s1.2 hK ha (by omega), mulW hm.2 s1.1 hb ha (by omega), mulW x1 (j := (f.den : Int)) sf.2 (by omega) hK (by omega), mulW (i := (f.den : Int)) (j := ((wv w s).den : Int)) sf.2 s1.2 hK ha (by omega), ?_⟩
        refine law_low_spec (n := n) c11 (Int.mul_ne_zero (den_nz f) (den_nz _)) (Nat.lt_of_lt_of_le x3 (Nat.pow_le_pow_right (by decide) (by omega))) ?_
        rw [low_wsum]
        have s3 := sz_mul s1 (sz_int hm.2 hb)
        refine ⟨rest, _, _, _, _, rfl, rfl, rfl, fun q hq => hr q (List.mem_cons_of_mem _ hq), by omega, ?_, (sz_add sf s3).mono ?_⟩
        · rw [← es]
          show f + wv w s * (m : Rat) + wsum w rest = f + (wv w s * (m : Rat) + wsum w rest)
          rw [Rat.add_assoc]
        · have : d.length - rest.length = d.length - (rest.length + 1) + 1 := by omega
          rw [this, Nat.add_mul, Nat.one_mul]
          omega
  rintro σ h' ⟨x, y, z, rfl, rfl⟩
  bv_omega
  exact shr_le (ALe.fresh hp) hq
end PL

namespace PL
open PySem PySem.Spec PyProof.Rows L2
theorem zpow_ne0 {x : Rat} (h : x ≠ 0) (i : Int) : x ^ i ≠ 0 := fun z => by
  have e := Rat.zpow_add h i (-i)
  rw [z, Rat.zero_mul, Int.add_right_neg, Rat.zpow_zero] at e
  exact absurd e (by decide)
theorem mul_pow' (x y : Rat) : ∀ m : Nat, (x * y) ^ m = x ^ m * y ^ m
  | 0 => by rw [Rat.pow_zero, Rat.pow_zero, Rat.pow_zero, Rat.mul_one]
  | m + 1 => by rw [Rat.pow_succ, Rat.pow_succ, Rat.pow_succ, mul_pow' x y m]; grind
theorem mul_inv' (x y : Rat) : (x * y)⁻¹ = x⁻¹ * y⁻¹ := by grind
theorem mul_zpow' (x y : Rat) (i : Int) : (x * y) ^ i = x ^ i * y ^ i := by
  by_cases h : i < 0
  · have e : i = -(i.natAbs : Int) := by omega
    rw [e, Rat.zpow_neg, Rat.zpow_neg, Rat.zpow_neg, Rat.zpow_natCast, Rat.zpow_natCast, Rat.zpow_natCast, mul_pow', mul_inv']
  · have e : i = (i.natAbs : Int) := by omega
    rw [e, Rat.zpow_natCast, Rat.zpow_natCast, Rat.zpow_natCast, mul_pow']
theorem zpow_mul_nat {x : Rat} (h : x ≠ 0) (i : Int) : ∀ m : Nat, x ^ (i * (m : Int)) = (x ^ i) ^ m
  | 0 => by rw [show ((0 : Nat) : Int) = 0 from rfl, Int.mul_zero, Rat.zpow_zero, Rat.pow_zero]
  | m + 1 => by rw [show ((m + 1 : Nat) : Int) = (m : Int) + 1 from rfl, Int.mul_add, Int.mul_one, Rat.zpow_add h, zpow_mul_nat h i m, Rat.pow_succ]
theorem zpow_mul' {x : Rat} (h : x ≠ 0) (i j : Int) : x ^ (i * j) = (x ^ i) ^ j := by
  by_cases hn : j < 0
  · have e : j = -(j.natAbs : Int) := by omega
    rw [e, Int.mul_neg, Rat.zpow_neg, Rat.zpow_neg, Rat.zpow_natCast, zpow_mul_nat h]
  · have e : j = (j.natAbs : Int) := by omega
    rw [e, Rat.zpow_natCast, zpow_mul_nat h]
theorem one_zpow' (i : Int) : (1 : Rat) ^ i = 1 := by
  have p : ∀ m : Nat, (1 : Rat) ^ m = 1 := fun m => by
    induction m with
    | zero => exact Rat.pow_zero 1
    | succ m ih => rw [Rat.pow_succ, ih, Rat.mul_one]
  by_cases h : i < 0
  · have e : i = -(i.natAbs : Int) := by omega
    rw [e, Rat.zpow_neg, Rat.zpow_natCast, p]; grind
  · have e : i = (i.natAbs : Int) := by omega
    rw [e, Rat.zpow_natCast, p]
def sv (w : Wm) (b : Str) : Rat := (w.lookup b).getD 1
structure SOk (N : List Str) (k : Nat) (w : Wm) : Prop where
  asc : Asc w
  pos : ∀ p ∈ w, 0 < p.2 ∧ Sz k p.2
  sub : ∀ p ∈ w, p.1 ∈ N
theorem SOk.len {N : List Str} {k : Nat} {w : Wm} (o : SOk N k w) : w.length ≤ N.length := nks_len o.asc.nks o.sub
theorem SOk.nil {N : List Str} {k : Nat} : SOk N k [] := ⟨List.Pairwise.nil, by simp, by simp⟩
theorem SOk.bd {N : List Str} {k : Nat} {w : Wm} (o : SOk N k w) (hk : 0 < k) (b : Str) : Sz k (sv w b) := by
  unfold sv
  cases e : w.lookup b with
  | none => exact sz_one hk
  | some v => exact (o.pos _ (lookup_mem e)).2
theorem SOk.ps {N : List Str} {k : Nat} {w : Wm} (o : SOk N k w) (b : Str) : 0 < sv w b := by
  unfold sv
  cases e : w.lookup b with
  | none => decide
  | some v => exact (o.pos _ (lookup_mem e)).1
theorem SOk.ne {N : List Str} {k : Nat} {w : Wm} (o : SOk N k w) (b : Str) : sv w b ≠ 0 := Rat.ne_of_gt (o.ps b)
theorem sv_of {w : Wm} {p : Str × Rat} (hn : NKs w) (h : p ∈ w) : sv w p.1 = p.2 := by
  unfold sv
  rw [lookup_some hn (show (p.1, p.2) ∈ w from h)]; rfl
theorem sv_none {w : Wm} {b : Str} (h : b ∉ w.map (·.1)) : sv w b = 1 := by
  unfold sv; rw [lookup_none h]; rfl
theorem sv_nil {b : Str} : sv [] b = 1 := rfl
theorem sget {w : Wm} {b : Str} : (dget (w.map (kvf fr)) (.inr b)).getD (fr 1) = fr (sv w b) := by
  rw [lookup_map_kv]
  unfold sv
  cases w.lookup b <;> rfl
def sprod (w : Wm) : Dm → Rat
  | [] => 1
  | p :: d => sv w p.1 ^ p.2 * sprod w d
theorem sprod_ps {N : List Str} {k : Nat} {w : Wm} (o : SOk N k w) : ∀ d : Dm, 0 < sprod w d
  | [] => by show (0 : Rat) < 1; decide
  | p :: d => Rat.mul_pos (Rat.zpow_pos (o.ps _)) (sprod_ps o d)
theorem sprod_ne {N : List Str} {k : Nat} {w : Wm} (o : SOk N k w) (d : Dm) : sprod w d ≠ 0 := Rat.ne_of_gt (sprod_ps o d)
def nprod (f : Str → Rat) : List Str → Rat
  | [] => 1
  | b :: r => f b * nprod f r
theorem nprod_congr {f g : Str → Rat} : ∀ {l : List Str}, (∀ b ∈ l, f b = g b) → nprod f l = nprod g l
  | [], _ => rfl
  | b :: r, h => by
    show f b * nprod f r = g b * nprod g r
    rw [h b List.mem_cons_self, nprod_congr fun c hc => h c (List.mem_cons_of_mem _ hc)]
theorem nprod_one : ∀ {l : List Str}, nprod (fun _ => 1) l = 1
  | [] => rfl
  | b :: r => by show 1 * nprod _ r = 1; rw [nprod_one, Rat.mul_one]
theorem nprod_mul (f g : Str → Rat) : ∀ l : List Str, nprod (fun b => f b * g b) l = nprod f l * nprod g l
  | [] => by show (1 : Rat) = 1 * 1; rw [Rat.mul_one]
  | b :: r => by
    show f b * g b * nprod _ r = (f b * nprod f r) * (g b * nprod g r)
    rw [nprod_mul f g r]
    grind
theorem nprod_pow (f : Str → Rat) (i : Int) : ∀ l : List Str, nprod (fun b => f b ^ i) l = nprod f l ^ i
  | [] => by show (1 : Rat) = 1 ^ i; rw [one_zpow']
  | b :: r => by
    show f b ^ i * nprod _ r = (f b * nprod f r) ^ i
    rw [nprod_pow f i r, mul_zpow']
theorem nprod_at (f : Str → Rat) (a : Str) (x : Rat) : ∀ {l : List Str}, l.Nodup → a ∈ l → nprod (fun b => if b = a then f b * x else f b) l = nprod f l * x
  | b :: r, hn, ha => by
    rw [List.nodup_cons] at hn
    show (if b = a then f b * x else f b) * nprod _ r = f b * nprod f r * x
    by_cases e : b = a
    · subst e
      rw [if_pos rfl, nprod_congr (g := f)]
      · grind
      · intro c hc
        have : c ≠ b := fun e => hn.1 (e ▸ hc)
        rw [if_neg this]
    · rw [if_neg e, nprod_at f a x hn.2 ((List.mem_cons.mp ha).resolve_left (Ne.symm e))]
      grind
theorem sprod_names (w : Wm) {ys : List Str} (hn : ys.Nodup) : ∀ {d : Dm}, NKs d → (∀ p ∈ d, p.1 ∈ ys) → sprod w d = nprod (fun b => sv w b ^ dv d b) ys
  | [], _, _ => by
    show (1 : Rat) = _
    rw [nprod_congr (g := fun _ => 1), nprod_one]
    intro b _
    rw [dv_nil]
    exact Rat.zpow_zero _
  | (a, m) :: d, hk, hs => by
    unfold NKs at hk
    rw [List.map_cons, List.nodup_cons] at hk
    show sv w a ^ m * sprod w d = _
    rw [sprod_names w hn hk.2 fun p hp => hs p (List.mem_cons_of_mem _ hp)]
    have h0 : dv d a = 0 := dv_none hk.1
    have key : nprod (fun b => sv w b ^ dv ((a, m) :: d) b) ys = nprod (fun b => if b = a then sv w b ^ dv d b * sv w a ^ m else sv w b ^ dv d b) ys := by
      apply nprod_congr
      intro b _
      show sv w b ^ dv ((a, m) :: d) b = if b = a then sv w b ^ dv d b * sv w a ^ m else sv w b ^ dv d b
      rw [dv_cons]
      by_cases e : b = a
      · subst e
        rw [if_pos rfl, if_pos rfl, h0, Rat.zpow_zero, Rat.one_mul]
      · rw [if_neg e, if_neg e]
    rw [key, nprod_at _ a _ hn (hs (a, m) List.mem_cons_self), Rat.mul_comm]
theorem sprod_add {w : Wm} {N : List Str} {kk k m j : Nat} {ys : List Str} {d e f : Dm} (ow : SOk N kk w) (hn : ys.Nodup) (o1 : DOk ys k d) (o2 : DOk ys m e) (o3 : DOk ys j f) (h : ∀ b, dv f b = dv d b + dv e b) : sprod w f = sprod w d * sprod w e := by
  rw [sprod_names w hn o1.asc.nks o1.sub, sprod_names w hn o2.asc.nks o2.sub, sprod_names w hn o3.asc.nks o3.sub, ← nprod_mul]
  apply nprod_congr
  intro b _
  rw [h b, Rat.zpow_add (ow.ne b)]
theorem sprod_sub {w : Wm} {N : List Str} {kk k m j : Nat} {ys : List Str} {d e f : Dm} (ow : SOk N kk w) (hn : ys.Nodup) (o1 : DOk ys k d) (o2 : DOk ys m e) (o3 : DOk ys j f) (h : ∀ b, dv f b = dv d b - dv e b) : sprod w f = sprod w d / sprod w e := by
  have := sprod_add ow hn o3 o2 o1 (fun b => by rw [h b]; omega)
  have := sprod_ne ow e
  grind
theorem sprod_rmul {w : Wm} {N : List Str} {kk : Nat} (ow : SOk N kk w) (m : Int) (d : Dm) : sprod w (rmul d m) = sprod w d ^ m := by
  unfold rmul
  split
  · rename_i h
    subst h
    exact (Rat.zpow_zero _).symm
  · induction d with
    | nil => show (1 : Rat) = 1 ^ m; rw [one_zpow']
    | cons p d ih =>
      rw [List.map_cons]
      show sv w p.1 ^ (p.2 * m) * sprod w _ = (sv w p.1 ^ p.2 * sprod w d) ^ m
      rw [ih, mul_zpow', zpow_mul' (ow.ne _)]
theorem sprod_prod {w u t : Wm} (ht : ∀ b, sv t b = sv w b * sv u b) : ∀ d : Dm, sprod t d = sprod w d * sprod u d
  | [] => by show (1 : Rat) = 1 * 1; rw [Rat.mul_one]
  | p :: d => by
    show sv t p.1 ^ p.2 * sprod t d = (sv w p.1 ^ p.2 * sprod w d) * (sv u p.1 ^ p.2 * sprod u d)
    rw [ht, mul_zpow', sprod_prod ht d]
    grind
theorem sprod_nil : ∀ d : Dm, sprod [] d = 1
  | [] => rfl
  | p :: d => by
    show (1 : Rat) ^ p.2 * sprod [] d = 1
    rw [one_zpow', sprod_nil d, Rat.mul_one]
theorem sz_sprod {N M : List Str} {a b m : Nat} {w : Wm} (ow : SOk N a w) (ha : 0 < a) : ∀ {d : Dm}, (∀ p ∈ d, p.2.natAbs ≤ m) → Sz (d.length * (a * m + 1) + 1) (sprod w d)
  | [], _ => sz_one (by omega)
  | p :: d, h => by
    have h1 := sz_zpow (i := p.2) (ow.bd ha p.1) (.inl (ow.ne p.1))
    have h2 := sz_sprod (N := N) (M := M) (b := b) ow ha (d := d) fun q hq => h q (List.mem_cons_of_mem _ hq)
    refine (sz_mul h1 h2).mono ?_
    have := Nat.mul_le_mul_left a (h p List.mem_cons_self)
    rw [List.length_cons, Nat.add_mul]
    omega
variable {G : Pg} {n : Nat} {Q : AQ} {E : AXQ} {h : AH}
structure CFm (G : Pg) : Prop where
  c0 : G.code 0 = some f0
  c1 : G.code 1 = some f1
  c2 : G.code 2 = some f2
  c3 : G.code 3 = some f3
  c4 : G.code 4 = some f4
  c7 : G.code 7 = some f7
def frPos : AV → Bool | .tup [_, x] => isFr x && (match x with | .tup (.int a :: _) => decide (0 < a) | _ => false) | _ => false
def isScl (v : AV) : Bool := areNP v && match v with | .tup xs => xs.all frPos | _ => false
theorem is_scale_spec (c : CDim G) (k : CFm G) (c53 : G.code 53 = some f53) {v : AV} (ht : DTy h v) (hq : Q (.bl (isScl v)) h) : wpC G (n + 3) 53 [v] h Q E := by
  refine call_i c53 rfl ?_
  unfold c53_is_scale
  bv_omega
  refine are_named_pairs_spec c.c34 c.c35 c.g0 c.g1 ht ?_
  by_cases ha : areNP v = true
  · rw [ha]
    bv_omega
    obtain ⟨xs, rfl, hn⟩ := areNP_tup ha
    obtain ⟨hl, hx⟩ := dty_tup.mp ht
    have hq : Q (.bl (areNP (.tup xs) && xs.all frPos)) h := hq
    rw [ha, Bool.true_and] at hq
    refine all_comp (wpC_mono G (n + 2)) ?_
    bv_omega
    refine ⟨hl, fun _ _ => trivial, frPos, fun x hx' h2 l => ?_, fun h2 l => shr_le l hq⟩
    obtain ⟨s, y, rfl, _⟩ := isNP_key (List.all_eq_true.mp hn x hx')
    have dy := ((dty_tup.mp (hx _ hx')).2 y (by simp)).mono l
    refine g_tupR rfl ?_
    bv_omega
    refine is_fraction_spec k.c0 k.c1 k.c2 dy.tydt ?_
    cases e : isFr y with
    | true =>
      obtain ⟨a, b, rfl⟩ := isFr_shape e
      bv_omega
      refine ⟨?_, ALe.refl⟩
      show _ = (isFr (.tup [.int a, .int b]) && decide (0 < a))
      rw [e, Bool.true_and]
    | false =>
      bv_omega
      refine ⟨?_, ALe.refl⟩
      show false = (isFr y && _)
      rw [e]; rfl
  · have ha : areNP v = false := by simpa using ha
    rw [ha]
    bv_omega
    have : isScl v = false := by unfold isScl; rw [ha, Bool.false_and]
    rw [this] at hq
    exact shr_i hq
theorem num_pos' {x : Rat} (h : 0 < x) : 0 < x.num := by
  have h1 : 0 ≤ x.num := Rat.num_nonneg.mpr (Rat.le_of_lt h)
  have h2 : x.num ≠ 0 := num_nz (Rat.ne_of_gt h)
  omega
theorem isScl_wm {N : List Str} {k : Nat} {w : Wm} (hN : NmsOk N) (o : SOk N k w) : isScl (wm w) = true := by
  show (areNP (np fr w) && (w.map (prf fr)).all frPos) = true
  rw [areNP_np hN o.asc o.sub, Bool.true_and, List.all_map, List.all_eq_true]
  intro p hp
  show (isFr (fr p.2) && decide (0 < p.2.num)) = true
  rw [isFr_fr, Bool.true_and]
  exact decide_eq_true (num_pos' (o.pos p hp).1)
theorem dty_sc {N : List Str} {k : Nat} {w : Wm} (hN : NmsOk N) (o : SOk N k w) : DTy h (wm w) := dty_np hN o.len o.sub fun p _ => dty_fr _
theorem check_scale_spec (c : CDim G) (k : CFm G) (c53 : G.code 53 = some f53) (c54 : G.code 54 = some f54) {v : AV} (ht : DTy h v) (hq : isScl v = true → Q .non h) (he : isScl v = false → E ⟨5, []⟩ h) : wpC G (n + 4) 54 [v] h Q E := by
  refine call_i c54 rfl ?_
  unfold c54_check_scale
  bv_omega
  refine is_scale_spec (n := n) c k c53 ht ?_
  cases e : isScl v with
  | true =>
    bv_omega
    exact shr_i (hq e)
  | false =>
    bv_omega
    exact shr_i (he e)
structure CSc (G : Pg) : Prop where
  c53 : G.code 53 = some f53
  c54 : G.code 54 = some f54
  c55 : G.code 55 = some f55
  c8 : G.code 8 = some f8
  c25 : G.code 25 = some f25
  g4 : G.T.gv 4 = some (fr 1)
theorem raw_scaled_spec (k : CFm G) (s : CSc G) {N : List Str} {a m : Nat} {w : Wm} {d : Dm} (ow : SOk N a w) (ha : 0 < a) (ha2 : a ≤ 7900) (hd : ∀ p ∈ d, p.2.natAbs ≤ m) (hb : a * m + 2 ≤ 400000) (hg : a * m + 1 ≤ 4400 ∨ d.length ≤ 1) (hl : d.length ≤ 60)
    (hq : Q (fr (sprod w d)) h) : wpC G (n + 6) 55 [wm w, dm d] h Q E := by
  refine call_i s.c55 rfl ?_
  unfold c55_raw_scaled
  have CM := wpC_mono G (n + 5)
  refine wp_cut CM (fun σ h' => ∃ p, h p = none ∧ σ = [some (wm w), some (dm d), some (.ref p), some (fr 1), none, none] ∧ h' = aupd h p (.dK (w.map (kvf fr)))) ?_ ?_
  · bv_omega
    exact dict_np ow.asc.nks fun p hp => ⟨fr 1, s.g4, p, hp, rfl, rfl⟩
  rintro σ h' ⟨p, hp, rfl, rfl⟩
  refine wp_cut CM (fun σ h' => ∃ x y, σ = [some (wm w), some (dm d), some (.ref p), some (fr (sprod w d)), x, y] ∧ h' = aupd h p (.dK (w.map (kvf fr)))) ?_ ?_
  · refine for_v CM ?_
    bv_omega
    show itR (.tup (d.map (prf AV.int))) _ _
    rw [v_tup]
    refine ⟨fun xs σ h' => ∃ (rest : Dm) (f : Rat) (x y : Option AV), xs = rest.map (prf AV.int) ∧ σ = [some (wm w), some (dm d), some (.ref p), some (fr f), x, y] ∧ h' = aupd h p (.dK (w.map (kvf fr))) ∧ (∀ q ∈ rest, q ∈ d) ∧ rest.length ≤ d.length ∧ 0 < f ∧ f * sprod w rest = sprod w d ∧ Sz ((d.length - rest.length) * (a * m + 1) + 1) f,
      ⟨d, 1, none, none, rfl, rfl, rfl, fun _ h => h, Nat.le_refl _, by decide, Rat.one_mul _, by rw [Nat.sub_self, Nat.zero_mul]; exact sz_one (by omega)⟩, ?_, ?_⟩
    · rintro σ h' ⟨rest, f, x, y, e, rfl, rfl, _, _, _, es, _⟩
      have := map_nil_eq e
      subst this
      have es : f * 1 = sprod w d := es
      rw [Rat.mul_one] at es
      subst es
      exact ⟨trivial, x, y, rfl, rfl⟩
    · rintro x xs σ h' ⟨rest, f, u, v, e, rfl, rfl, hr, hlen, f0, es, sf⟩
      cases rest with
      | nil => cases e
      | cons q rest =>
        obtain ⟨b, i⟩ := q
        rw [List.map_cons] at e
        obtain ⟨rfl, rfl⟩ := List.cons.inj e
        refine ⟨trivial, g_tupR rfl ?_⟩
        have hm := hd _ (hr (b, i) List.mem_cons_self)
        have hm : i.natAbs ≤ m := hm
        rw [List.length_cons] at hlen sf
        bv_omega
        refine ⟨ms_get aupd_same, fr 1, s.g4, get_dK aupd_same (k' := .inr b) rfl ?_⟩
        rw [sget]
        have s1 := ow.bd ha b
        have n1 := ow.ne b
        refine raw_power_spec (n := n) (m := m) k.c1 k.c3 k.c7 s.c8 s.c25 s.g4 s1 (.inl n1) hm ha ha2 hb ?_
        have s2 := (sz_zpow (i := i) s1 (.inl n1)).mono (show a * i.natAbs + 1 ≤ a * m + 1 from Nat.add_le_add_right (Nat.mul_le_mul_left a hm) 1)
        have sb : (d.length - (rest.length + 1)) * (a * m + 1) ≤ 60 * (a * m + 1) := Nat.mul_le_mul_right _ (by omega)
        refine raw_times_big (n := n + 2) k.c1 k.c3 k.c7 sf s2 (Rat.ne_of_gt f0) (zpow_ne0 n1 i) (by omega) (by omega) ?_ ?_ ?_
        · rcases hg with hg | hg
          · omega
          · have : d.length - (rest.length + 1) = 0 := by omega
            rw [this, Nat.zero_mul]
            omega
        · rcases hg with hg | hg
          · exact .inr hg
          · have : d.length - (rest.length + 1) = 0 := by omega
            rw [this, Nat.zero_mul]
            exact .inl (by decide)
        refine ⟨rest, _, _, _, rfl, rfl, rfl, fun q hq => hr q (List.mem_cons_of_mem _ hq), by omega, Rat.mul_pos f0 (Rat.zpow_pos (ow.ps b)), ?_, (sz_mul sf s2).mono ?_⟩
        · rw [← es]
          show f * sv w b ^ i * sprod w rest = f * (sv w b ^ i * sprod w rest)
          rw [Rat.mul_assoc]
        · have : d.length - rest.length = d.length - (rest.length + 1) + 1 := by omega
          rw [this, Nat.add_mul, Nat.one_mul]
          omega
  rintro σ h' ⟨x, y, rfl, rfl⟩
  bv_omega
  exact shr_le (ALe.fresh hp) hq
end PL

namespace PL
open PySem PySem.Spec PyProof.Rows L2
variable {G : Pg} {n : Nat} {Q : AQ} {E : AXQ} {h : AH}
def expIn : AV → Bool | .tup [_, x] => inV x (-2000) 2000 | _ => false
def dIn (d : Dm) : Bool := d.all fun p => inV (.int p.2) (-2000) 2000
theorem dIn_map (d : Dm) : (d.map (prf AV.int)).all expIn = dIn d := by
  rw [List.all_map]; rfl
theorem inV_iff {i : Int} : inV (.int i) (-2000) 2000 = true ↔ i.natAbs ≤ 2000 := by
  show (decide (-2000 ≤ i) && decide (i ≤ 2000)) = true ↔ _
  rw [Bool.and_eq_true, decide_eq_true_iff, decide_eq_true_iff]
  omega
theorem scaled_gen (c : CDim G) (k : CFm G) (s : CSc G) (c26 : G.code 26 = some f26) (c56 : G.code 56 = some f56) (g3 : G.T.gv 3 = some (.int 2000)) {N M : List Str} {a b : Nat} {w : Wm} {d : Dm} (hN : NmsOk N) (hM : NmsOk M) (ow : SOk N a w) (od : DOk M b d)
    (hq : dIn d = true → ∀ h2 Q2 E2, Q2 (fr (sprod w d)) h2 → wpC G (n + 6) 55 [wm w, dm d] h2 Q2 E2) (hq2 : dIn d = true → Q (fr (sprod w d)) h) (he : dIn d = false → E ⟨2, []⟩ h) : wpC G (n + 7) 56 [wm w, dm d] h Q E := by
  refine call_i c56 rfl ?_
  unfold c56_scaled
  bv_omega
  refine check_scale_spec (n := n + 2) c k s.c53 s.c54 (dty_sc hN ow) (fun _ => ?_) fun e => by rw [isScl_wm hN ow] at e; cases e
  refine check_dm c hM od ?_
  refine all_comp (wpC_mono G (n + 6)) ?_
  bv_omega
  show itR (.tup (d.map (prf AV.int))) _ _
  rw [v_tup]
  have hl := od.len
  have hl2 := hM.len
  refine ⟨by rw [List.length_map]; omega, fun _ _ => trivial, expIn, fun x hx h2 l => ?_, fun h2 l => ?_⟩
  · obtain ⟨p, hp, rfl⟩ := List.mem_map.mp hx
    refine g_tupR rfl ?_
    bv_omega
    refine ⟨_, g3, ?_⟩
    bv_omega
    refine ⟨_, g3, ?_⟩
    exact is_within_spec (n := n + 4) c.c0 c26 trivial ⟨rfl, ALe.refl⟩
  · rw [dIn_map]
    cases e : dIn d with
    | true =>
      bv_omega
      exact hq e _ _ _ (shr_le l (hq2 e))
    | false =>
      bv_omega
      exact shr_le l (he e)
theorem scaled_spec (c : CDim G) (k : CFm G) (s : CSc G) (c26 : G.code 26 = some f26) (c56 : G.code 56 = some f56) (g3 : G.T.gv 3 = some (.int 2000)) {N M : List Str} {a b m : Nat} {w : Wm} {d : Dm} (hN : NmsOk N) (hM : NmsOk M) (ow : SOk N a w) (od : DOk M b d)
    (ha : 0 < a) (ha2 : a ≤ 100) (hd : ∀ p ∈ d, p.2.natAbs ≤ m) (hm : m ≤ 2000) (hg : a * m + 1 ≤ 4400 ∨ d.length ≤ 1) (hq : Q (fr (sprod w d)) h) : wpC G (n + 7) 56 [wm w, dm d] h Q E := by
  have hl := od.len
  have hl2 := hM.len
  have e1 : a * m ≤ 100 * 2000 := Nat.mul_le_mul ha2 hm
  refine scaled_gen c k s c26 c56 g3 hN hM ow od (fun _ h2 Q2 E2 q2 => raw_scaled_spec k s ow ha (by omega) hd (by omega) hg (by omega) q2) (fun _ => hq) fun e => ?_
  have : dIn d = true := List.all_eq_true.mpr fun p hp => inV_iff.mpr (by have := hd p hp; omega)
  rw [this] at e; cases e
theorem scaled_num (c : CDim G) (k : CFm G) (s : CSc G) (c26 : G.code 26 = some f26) (c56 : G.code 56 = some f56) (g3 : G.T.gv 3 = some (.int 2000)) {N M : List Str} {a b : Nat} {w : Wm} {d : Dm} (hN : NmsOk N) (hM : NmsOk M) (ow : SOk N a w) (od : DOk M b d)
    (hd : dIn d = false) (he : E ⟨2, []⟩ h) : wpC G (n + 7) 56 [wm w, dm d] h Q E :=
  scaled_gen c k s c26 c56 g3 hN hM ow od (fun e => by rw [hd] at e; cases e) (fun e => by rw [hd] at e; cases e) fun _ => he
theorem scaled_bads (c : CDim G) (k : CFm G) (s : CSc G) (c56 : G.code 56 = some f56) {v w : AV} (hv : DTy h v) (hb : isScl v = false) (he : E ⟨5, []⟩ h) : wpC G (n + 7) 56 [v, w] h Q E := by
  refine call_i c56 rfl ?_
  unfold c56_scaled
  bv_omega
  refine check_scale_spec (n := n + 2) c k s.c53 s.c54 hv (fun e => ?_) fun _ => shr_i he
  rw [hb] at e; cases e
theorem scaled_badd (c : CDim G) (k : CFm G) (s : CSc G) (c56 : G.code 56 = some f56) {N : List Str} {a : Nat} {w : Wm} {v : AV} (hN : NmsOk N) (ow : SOk N a w) (hv : DTy h v) (hb : isDim v = false) (he : E ⟨3, []⟩ h) : wpC G (n + 7) 56 [wm w, v] h Q E := by
  refine call_i c56 rfl ?_
  unfold c56_scaled
  bv_omega
  refine check_scale_spec (n := n + 2) c k s.c53 s.c54 (dty_sc hN ow) (fun _ => ?_) fun e => by rw [isScl_wm hN ow] at e; cases e
  exact check_bad c hv hb (shr_i he)
def seven : List Str := "a" :: "b" :: "c" :: "d" :: "e" :: "f" :: "g" :: []
theorem absent_ex {ys : List Str} (hl : ys.length ≤ 6) : ∃ s ∈ seven, s ∉ ys := by
  apply Classical.byContradiction
  intro hh
  have : ∀ s ∈ seven, s ∈ ys := fun s hs => Classical.byContradiction fun h2 => hh ⟨s, hs, h2⟩
  have := len_nodup_sub (xs := seven) (ys := ys) (by decide +kernel) this
  have e : seven.length = 7 := rfl
  omega
theorem anyEq_str (s : Str) : ∀ ys : List Str, anyEq (.str s) (ys.map .str) = decide (s ∈ ys)
  | [] => by simp [anyEq]
  | y :: ys => by
    rw [List.map_cons]
    show (AV.eqv (.str y) (.str s) || anyEq (.str s) (ys.map .str)) = _
    rw [anyEq_str s ys]
    have : AV.eqv (.str y) (.str s) = decide (s = y) := by
      simp only [AV.eqv]
      by_cases e : y = s
      · simp [e]
      · simp [e, Ne.symm e]
    rw [this]
    by_cases h1 : s = y <;> by_cases h2 : s ∈ ys <;> simp [h1, h2]
theorem scal_strs (ys : List Str) : (ys.map AV.str).all AV.scal = true := by
  rw [List.all_map, List.all_eq_true]
  intro y _
  rfl
def notF (ys : List Str) : AV → Option AV := fun x => match x with | .str s => if s ∈ ys then none else some (.str s) | _ => none
theorem filt_not (ys : List Str) : ∀ l : List Str, (l.map AV.str).filterMap (notF ys) = (l.filter fun s => decide (s ∉ ys)).map .str
  | [] => rfl
  | s :: l => by
    rw [List.map_cons, List.filterMap_cons, List.filter_cons, filt_not ys l]
    by_cases h : s ∈ ys
    · simp [notF, h]
    · simp [notF, h]
theorem seven_nms : ∀ s ∈ seven, nameOk s = true := by decide +kernel
theorem one_dok {s : Str} {m : Int} {k : Nat} (h0 : m ≠ 0) (h : m.natAbs < 2 ^ k) : DOk [s] k [(s, m)] := ⟨List.pairwise_singleton _ _, fun p hp => by rw [List.mem_singleton.mp hp]; exact ⟨h0, h⟩, fun p hp => by rw [List.mem_singleton.mp hp]; exact List.mem_singleton.mpr rfl⟩
theorem absent_hd {ys : List Str} (hy : ys.length ≤ 6) : ∃ t rest, (seven.map AV.str).filterMap (notF ys) = (t :: rest).map .str ∧ t ∈ seven ∧ t ∉ ys := by
  have ef := filt_not ys seven
  obtain ⟨s, hs, hn⟩ := absent_ex hy
  have hm : s ∈ seven.filter (fun s => decide (s ∉ ys)) := List.mem_filter.mpr ⟨hs, decide_eq_true hn⟩
  cases e : seven.filter (fun s => decide (s ∉ ys)) with
  | nil => rw [e] at hm; cases hm
  | cons t rest =>
    have ht : t ∈ seven.filter (fun s => decide (s ∉ ys)) := by rw [e]; exact List.mem_cons_self
    rw [List.mem_filter] at ht
    exact ⟨t, rest, by rw [ef, e], ht.1, of_decide_eq_true ht.2⟩
end PL

namespace PL
open PySem PySem.Spec PyProof.Rows L2
variable {G : Pg} {n : Nat} {Q : AQ} {E : AXQ} {h : AH}
def exp9 : AV → Bool | .tup [_, x] => inV x (-9) 9 | _ => false
def isPlain (v : AV) : Bool := isDim v && match v with | .tup xs => decide (xs.length ≤ 6) && xs.all exp9 | _ => false
theorem isDim_tup {v : AV} (h : isDim v = true) : ∃ xs, v = .tup xs ∧ ∀ x ∈ xs, ∃ s y, x = .tup [.str s, y] := by
  unfold isDim at h
  rw [Bool.and_eq_true] at h
  obtain ⟨xs, rfl, hn⟩ := areNP_tup h.1
  refine ⟨xs, rfl, fun x hx => ?_⟩
  obtain ⟨s, y, rfl, _⟩ := isNP_key (List.all_eq_true.mp hn x hx)
  exact ⟨s, y, rfl⟩
structure CDn (G : Pg) : Prop where
  c0 : G.code 0 = some f0
  c34 : G.code 34 = some f34
  c35 : G.code 35 = some f35
  c36 : G.code 36 = some f36
  c38 : G.code 38 = some f38
  g0 : G.T.gv 0 = some (.int 8)
  g1 : G.T.gv 1 = some (.str "abcdefghijklmnopqrstuvwxyz")
structure CUn (G : Pg) : Prop where
  c26 : G.code 26 = some f26
  c39 : G.code 39 = some f39
  c94 : G.code 94 = some f94
  c145 : G.code 145 = some f145
  c146 : G.code 146 = some f146
  c147 : G.code 147 = some f147
  c148 : G.code 148 = some f148
  c149 : G.code 149 = some f149
  c150 : G.code 150 = some f150
  c151 : G.code 151 = some f151
  c152 : G.code 152 = some f152
  c153 : G.code 153 = some f153
  c8 : G.code 8 = some f8
  c25 : G.code 25 = some f25
  g4 : G.T.gv 4 = some (fr 1)
  g7 : G.T.gv 7 = some (.int 6)
  g8 : G.T.gv 8 = some (.int 9)
  g19 : G.T.gv 19 = some (.int 20)
theorem is_plain_spec (c : CDn G) (u : CUn G) {v : AV} (ht : DTy h v) (hq : Q (.bl (isPlain v)) h) : wpC G (n + 4) 94 [v] h Q E := by
  refine call_i u.c94 rfl ?_
  unfold c94_is_plain_dimension
  bv_omega
  refine is_dimension_spec (n := n) c.c0 c.c34 c.c35 c.c36 c.g0 c.g1 ht ?_
  cases ed : isDim v with
  | false =>
    bv_omega
    have : isPlain v = false := by unfold isPlain; rw [ed, Bool.false_and]
    rw [this] at hq
    exact shr_i hq
  | true =>
    obtain ⟨xs, rfl, hx⟩ := isDim_tup ed
    obtain ⟨hl, hd⟩ := dty_tup.mp ht
    have hq : Q (.bl (isDim (.tup xs) && (decide (xs.length ≤ 6) && xs.all exp9))) h := hq
    rw [ed, Bool.true_and] at hq
    bv_omega
    refine ⟨_, u.g7, ?_⟩
    bv_omega
    by_cases h6 : xs.length ≤ 6
    · rw [decide_eq_true h6, Bool.true_and] at hq
      have e : ¬ ((6 : Int) < (xs.length : Int)) := by omega
      simp only [e]
      bv_omega
      refine all_comp (wpC_mono G (n + 3)) ?_
      bv_omega
      refine ⟨hl, fun _ _ => trivial, exp9, fun x hx' h2 l => ?_, fun h2 l => shr_le l hq⟩
      obtain ⟨s, y, rfl⟩ := hx x hx'
      have dy := ((dty_tup.mp (hd _ hx')).2 y (by simp)).mono l
      refine g_tupR rfl ?_
      bv_omega
      refine ⟨_, u.g8, ?_⟩
      bv_omega
      refine ⟨_, u.g8, ?_⟩
      exact is_within_spec (n := n + 1) c.c0 u.c26 dy.tyd ⟨rfl, ALe.refl⟩
    · rw [decide_eq_false h6, Bool.false_and] at hq
      have e : ((6 : Int) < (xs.length : Int)) := by omega
      simp only [e]
      bv_omega
      exact shr_i hq
def frP : AV → Bool := fun x => isFr x && (match x with | .tup (.int a :: _) => decide (0 < a) | _ => false)
def isTold : AV → Bool | .tup [x, y] => frP x && isPlain y | _ => false
theorem is_told_spec (c : CDn G) (k : CFm G) (u : CUn G) {v : AV} (ht : DTy h v) (hq : Q (.bl (isTold v)) h) : wpC G (n + 5) 145 [v] h Q E := by
  refine call_i u.c145 rfl ?_
  unfold c145_is_told_unit
  cases v with
  | ref a =>
    bv_omega
    rcases dty_ref.mp ht with ⟨xs, e⟩ | ⟨xs, e⟩
    · refine t_lst e ?_
      bv_omega
      exact shr_i hq
    · refine t_dK e ?_
      bv_omega
      exact shr_i hq
  | wt _ => exact (dty_wt ht).elim
  | tup xs =>
    obtain ⟨hl, hx⟩ := dty_tup.mp ht
    match xs, hx, hq with
    | [], _, hq => bv_omega; simp; exact shr_i hq
    | [_], _, hq => bv_omega; simp; exact shr_i hq
    | a :: b :: c :: r, _, hq =>
      bv_omega
      have e : ¬ (((r.length + 1 + 1 + 1 : Nat) : Int) = 2) := by omega
      simp only [e]
      bv_omega
      exact shr_i hq
    | [x, y], hx, hq =>
      have hq : Q (.bl (frP x && isPlain y)) h := hq
      bv_omega
      have e : ((0 + 1 + 1 : Nat) : Int) = 2 := rfl
      simp only [e]
      bv_omega
      refine is_fraction_spec k.c0 k.c1 k.c2 (hx x (by simp)).tydt ?_
      cases ef : isFr x with
      | false =>
        bv_omega
        have e0 : frP x = false := by unfold frP; rw [ef, Bool.false_and]
        rw [e0, Bool.false_and] at hq
        exact shr_i hq
      | true =>
        obtain ⟨a, b, rfl⟩ := isFr_shape ef
        have hq : Q (.bl ((isFr (.tup [.int a, .int b]) && decide (0 < a)) && isPlain y)) h := hq
        rw [ef, Bool.true_and] at hq
        bv_omega
        cases ea : decide (0 < a) with
        | false =>
          rw [ea, Bool.false_and] at hq
          have : ¬ 0 < a := of_decide_eq_false ea
          try simp only [this]
          bv_omega
          exact shr_i hq
        | true =>
          rw [ea, Bool.true_and] at hq
          have : 0 < a := of_decide_eq_true ea
          try simp only [this]
          bv_omega
          exact is_plain_spec (n := n) c u (hx y (by simp)) (shr_i hq)
  | _ =>
    bv_omega
    exact shr_i hq
def toldP : AV → Bool | .tup [_, y] => isTold y | _ => false
def isSys (v : AV) : Bool := areNP v && match v with | .tup xs => decide (1 ≤ xs.length ∧ xs.length ≤ 20) && xs.all toldP | _ => false
theorem is_system_spec (c : CDn G) (k : CFm G) (u : CUn G) {v : AV} (ht : DTy h v) (hq : Q (.bl (isSys v)) h) : wpC G (n + 6) 146 [v] h Q E := by
  refine call_i u.c146 rfl ?_
  unfold c146_is_system
  bv_omega
  refine are_named_pairs_spec (n := n + 3) c.c34 c.c35 c.g0 c.g1 ht ?_
  cases ed : areNP v with
  | false =>
    bv_omega
    have : isSys v = false := by unfold isSys; rw [ed, Bool.false_and]
    rw [this] at hq
    exact shr_i hq
  | true =>
    obtain ⟨xs, rfl, hn⟩ := areNP_tup ed
    obtain ⟨hl, hd⟩ := dty_tup.mp ht
    have hq : Q (.bl (areNP (.tup xs) && (decide (1 ≤ xs.length ∧ xs.length ≤ 20) && xs.all toldP))) h := hq
    rw [ed, Bool.true_and] at hq
    bv_omega
    by_cases h1 : 1 ≤ xs.length
    · rw [if_pos (by omega)]
      refine ⟨_, u.g19, ?_⟩
      bv_omega
      by_cases h2 : xs.length ≤ 20
      · have e : ((xs.length : Int) ≤ 20) := by omega
        simp only [e]
        rw [decide_eq_true ⟨h1, h2⟩, Bool.true_and] at hq
        bv_omega
        refine all_comp (wpC_mono G (n + 5)) ?_
        bv_omega
        refine ⟨hl, fun _ _ => trivial, toldP, fun x hx' h2 l => ?_, fun h2 l => shr_le l hq⟩
        obtain ⟨s, y, rfl, _⟩ := isNP_key (List.all_eq_true.mp hn x hx')
        have dy := ((dty_tup.mp (hd _ hx')).2 y (by simp)).mono l
        refine g_tupR rfl ?_
        bv_omega
        exact is_told_spec (n := n) c k u dy ⟨rfl, ALe.refl⟩
      · have e : ¬ ((xs.length : Int) ≤ 20) := by omega
        simp only [e]
        rw [decide_eq_false (fun h => h2 h.2), Bool.false_and] at hq
        bv_omega
        exact shr_i hq
    · rw [if_neg (by omega)]
      rw [decide_eq_false (fun h => h1 h.1), Bool.false_and] at hq
      exact shr_i hq
theorem check_system_spec (c : CDn G) (k : CFm G) (u : CUn G) {v : AV} (ht : DTy h v) (hq : isSys v = true → Q .non h) (he : isSys v = false → E ⟨11, []⟩ h) : wpC G (n + 7) 147 [v] h Q E := by
  refine call_i u.c147 rfl ?_
  unfold c147_check_system
  bv_omega
  refine is_system_spec (n := n) c k u ht ?_
  cases e : isSys v with
  | true =>
    bv_omega
    exact shr_i (hq e)
  | false =>
    bv_omega
    exact shr_i (he e)
abbrev Sy := NM (Rat × Dm)
def uv (x : Rat × Dm) : AV := .tup [fr x.1, dm x.2]
def sy (s : Sy) : AV := np uv s
structure YOk (U N : List Str) (a k : Nat) (s : Sy) : Prop where
  asc : Asc s
  ok : ∀ p ∈ s, 0 < p.2.1 ∧ Sz a p.2.1 ∧ DOk N k p.2.2
  sub : ∀ p ∈ s, p.1 ∈ U
  n1 : 1 ≤ s.length
  n2 : s.length ≤ 20
def facs (s : Sy) : Wm := s.map fun p => (p.1, p.2.1)
def ud (s : Sy) (b : Str) : Dm := ((s.lookup b).map (·.2)).getD []
theorem facs_lookup (s : Sy) (b : Str) : (facs s).lookup b = (s.lookup b).map (·.1) := by
  induction s with
  | nil => rfl
  | cons p s ih =>
    unfold facs at ih ⊢
    rw [List.map_cons, List.lookup_cons, List.lookup_cons]
    cases e : (b == p.1) with
    | true => rfl
    | false => exact ih
theorem YOk.fac {U N : List Str} {a k : Nat} {s : Sy} (o : YOk U N a k s) : SOk U a (facs s) := by
  refine ⟨?_, fun p hp => ?_, fun p hp => ?_⟩
  · unfold Asc facs
    rw [List.pairwise_map]
    exact o.asc
  · obtain ⟨q, hq, rfl⟩ := List.mem_map.mp hp
    exact ⟨(o.ok q hq).1, (o.ok q hq).2.1⟩
  · obtain ⟨q, hq, rfl⟩ := List.mem_map.mp hp
    exact o.sub q hq
theorem sy_get {s : Sy} {b : Str} (hb : b ∈ s.map (·.1)) : dget (s.map (kvf uv)) (.inr b) = some (.tup [fr (sv (facs s) b), dm (ud s b)]) := by
  rw [lookup_map_kv]
  unfold sv ud
  rw [facs_lookup]
  cases e : s.lookup b with
  | none =>
    obtain ⟨q, hq, rfl⟩ := List.mem_map.mp hb
    exfalso
    rw [List.lookup_eq_none_iff] at e
    have := e q hq
    simp at this
  | some v => rfl
theorem YOk.dim {U N : List Str} {a k : Nat} {s : Sy} (o : YOk U N a k s) (b : Str) : DOk N k (ud s b) := by
  unfold ud
  cases e : s.lookup b with
  | none => exact DOk.nil
  | some v => exact (o.ok _ (lookup_mem e)).2.2
theorem isPlain_dm {N : List Str} {k : Nat} {d : Dm} (hN : NmsOk N) (h6 : N.length ≤ 6) (o : DOk N k d) (h9 : ∀ p ∈ d, p.2.natAbs ≤ 9) : isPlain (dm d) = true := by
  show (isDim (dm d) && (decide ((d.map (prf AV.int)).length ≤ 6) && (d.map (prf AV.int)).all exp9)) = true
  rw [isDim_dm hN o, Bool.true_and, List.length_map, decide_eq_true (by have := o.len; omega), Bool.true_and, List.all_map, List.all_eq_true]
  intro p hp
  show (decide (-9 ≤ p.2) && decide (p.2 ≤ 9)) = true
  have := h9 p hp
  rw [decide_eq_true (by omega), decide_eq_true (by omega)]; rfl
theorem isSys_sy {U N : List Str} {a k : Nat} {s : Sy} (hU : NmsOk U) (hN : NmsOk N) (h6 : N.length ≤ 6) (o : YOk U N a k s) (hk : k ≤ 3) : isSys (sy s) = true := by
  show (areNP (np uv s) && (decide (1 ≤ (s.map (prf uv)).length ∧ (s.map (prf uv)).length ≤ 20) && (s.map (prf uv)).all toldP)) = true
  rw [areNP_np hU o.asc o.sub, Bool.true_and, List.length_map, decide_eq_true ⟨o.n1, o.n2⟩, Bool.true_and, List.all_map, List.all_eq_true]
  intro p hp
  obtain ⟨h1, h2, h3⟩ := o.ok p hp
  show ((isFr (fr p.2.1) && decide (0 < p.2.1.num)) && isPlain (dm p.2.2)) = true
  rw [isFr_fr, decide_eq_true (num_pos' h1), isPlain_dm hN h6 h3 fun q hq => ?_]; rfl
  have := (h3.nz q hq).2
  have : 2 ^ k ≤ 2 ^ 3 := Nat.pow_le_pow_right (by decide) hk
  omega
theorem dty_sy {U N : List Str} {a k : Nat} {s : Sy} (hU : NmsOk U) (hN : NmsOk N) (o : YOk U N a k s) : DTy h (sy s) := by
  refine dty_np hU (nks_len o.asc.nks o.sub) o.sub fun p hp => dty_tup.mpr ⟨by simp, fun y hy => ?_⟩
  simp at hy
  rcases hy with rfl | rfl
  · exact dty_fr _
  · exact dty_dm hN (o.ok p hp).2.2
end PL

namespace PL
open PySem PySem.Spec PyProof.Rows L2
variable {G : Pg} {n : Nat} {Q : AQ} {E : AXQ} {h : AH}
def unP (ks : List Str) : AV → Bool | .tup [.str b, .int m] => decide (b ∈ ks) && (decide (-9 ≤ m) && decide (m ≤ 9)) && decide (m ≠ 0) | _ => false
def isUn (ks : List Str) (v : AV) : Bool := areNP v && match v with | .tup xs => xs.all (unP ks) | _ => false
theorem isSome_lookup {α : Type} (f : α → AV) (s : NM α) (b : Str) : (dget (s.map (kvf f)) (.inr b)).isSome = decide (b ∈ s.map (·.1)) := by
  rw [lookup_map_kv]
  cases e : s.lookup b with
  | none =>
    rw [List.lookup_eq_none_iff] at e
    have : b ∉ s.map (·.1) := fun hb => by
      obtain ⟨q, hq, rfl⟩ := List.mem_map.mp hb
      have := e q hq
      simp at this
    rw [decide_eq_false this]; rfl
  | some v =>
    have : b ∈ s.map (·.1) := List.mem_map.mpr ⟨(b, v), lookup_mem e, rfl⟩
    rw [decide_eq_true this]; rfl
theorem ms_aleq {h h2 : AH} {p : Addr} {o : AO} (e : h p = some o) (l : ALe h h2) : h2 p = some o := l p o e
theorem raw_are_units_spec (c : CDn G) (u : CUn G) {s : Sy} {v : AV} (hk : NKs s) (ht : DTy h v) (hq : Q (.bl (isUn (s.map (·.1)) v)) h) : wpC G (n + 3) 148 [sy s, v] h Q E := by
  refine call_i u.c148 rfl ?_
  unfold c148_raw_are_units
  have CM := wpC_mono G (n + 2)
  bv_omega
  refine are_named_pairs_spec (n := n) c.c34 c.c35 c.g0 c.g1 ht ?_
  cases ed : areNP v with
  | false =>
    bv_omega
    have : isUn (s.map (·.1)) v = false := by unfold isUn; rw [ed, Bool.false_and]
    rw [this] at hq
    exact shr_i hq
  | true =>
    obtain ⟨xs, rfl, hn⟩ := areNP_tup ed
    obtain ⟨hl, hd⟩ := dty_tup.mp ht
    have hq : Q (.bl (areNP (.tup xs) && xs.all (unP (s.map (·.1))))) h := hq
    rw [ed, Bool.true_and] at hq
    bv_omega
    refine dict_np hk fun p hp => ?_
    refine all_comp CM ?_
    bv_omega
    refine ⟨hl, fun _ _ => trivial, unP (s.map (·.1)), fun x hx' h2 l => ?_, fun h2 l => shr_le (ALe.trans (ALe.fresh hp) l) hq⟩
    obtain ⟨b, y, rfl, _⟩ := isNP_key (List.all_eq_true.mp hn x hx')
    have dy := (((dty_tup.mp (hd _ hx')).2 y (by simp)).mono (ALe.fresh hp)).mono l
    have ep := ms_aleq (aupd_same (h := h) (a := p) (o := .dK (s.map (kvf uv)))) l
    refine g_tupR rfl ?_
    bv_omega
    refine .inr ⟨_, .inr b, ep, rfl, ?_⟩
    rw [isSome_lookup]
    by_cases hb : b ∈ s.map (·.1)
    · rw [decide_eq_true hb]
      bv_omega
      refine ⟨_, u.g8, ?_⟩
      bv_omega
      refine ⟨_, u.g8, ?_⟩
      refine is_within_spec (n := n) c.c0 u.c26 dy.tyd ?_
      cases y with
      | int m =>
        have e1 : inV (.int m) (-9) 9 = (decide (-9 ≤ m) && decide (m ≤ 9)) := rfl
        have e2 : unP (s.map (·.1)) (.tup [.str b, .int m]) = (decide (b ∈ s.map (·.1)) && (decide (-9 ≤ m) && decide (m ≤ 9)) && decide (m ≠ 0)) := rfl
        rw [e2, e1, decide_eq_true hb, Bool.true_and]
        cases (decide (-9 ≤ m) && decide (m ≤ 9)) with
        | true =>
          bv_omega
          exact ⟨by simp, ALe.refl⟩
        | false =>
          bv_omega
          exact ⟨by simp, ALe.refl⟩
      | _ =>
        simp only [inV]
        bv_omega
        exact ⟨rfl, ALe.refl⟩
    · rw [decide_eq_false hb]
      bv_omega
      refine ⟨?_, ALe.refl⟩
      cases y with
      | int m =>
        show false = (decide (b ∈ s.map (·.1)) && (decide (-9 ≤ m) && decide (m ≤ 9)) && decide (m ≠ 0))
        rw [decide_eq_false hb]; rfl
      | _ => rfl
theorem check_units_spec (c : CDn G) (u : CUn G) {s : Sy} {v : AV} (hk : NKs s) (ht : DTy h v) (hq : isUn (s.map (·.1)) v = true → Q .non h) (he : isUn (s.map (·.1)) v = false → E ⟨12, []⟩ h) : wpC G (n + 4) 149 [sy s, v] h Q E := by
  refine call_i u.c149 rfl ?_
  unfold c149_check_units
  bv_omega
  refine raw_are_units_spec (n := n) c u hk ht ?_
  cases e : isUn (s.map (·.1)) v with
  | true =>
    bv_omega
    exact shr_i (hq e)
  | false =>
    bv_omega
    exact shr_i (he e)
theorem isUn_dm {U N : List Str} {k : Nat} {s : Sy} {d : Dm} (hU : NmsOk U) (od : DOk (s.map (·.1)) k d) (hs : ∀ b ∈ s.map (·.1), b ∈ U) (h9 : ∀ p ∈ d, p.2.natAbs ≤ 9) : isUn (s.map (·.1)) (dm d) = true := by
  show (areNP (np AV.int d) && (d.map (prf AV.int)).all (unP _)) = true
  rw [areNP_np hU od.asc (fun p hp => hs _ (od.sub p hp)), Bool.true_and, List.all_map, List.all_eq_true]
  intro p hp
  show (decide (p.1 ∈ s.map (·.1)) && (decide (-9 ≤ p.2) && decide (p.2 ≤ 9)) && decide (p.2 ≠ 0)) = true
  have := h9 p hp
  rw [decide_eq_true (od.sub p hp), decide_eq_true (by omega), decide_eq_true (by omega), decide_eq_true (od.nz p hp).1]; rfl
theorem raw_factor_spec (k : CFm G) (u : CUn G) {U N : List Str} {a kk m : Nat} {s : Sy} {d : Dm} (os : YOk U N a kk s) (ha : 0 < a) (ha2 : a ≤ 7900) (hd : ∀ p ∈ d, p.2.natAbs ≤ m) (hk : ∀ p ∈ d, p.1 ∈ s.map (·.1)) (hb : a * m + 2 ≤ 4400) (hl : d.length ≤ 60)
    (hq : Q (fr (sprod (facs s) d)) h) : wpC G (n + 6) 150 [sy s, dm d] h Q E := by
  refine call_i u.c150 rfl ?_
  unfold c150_raw_factor
  have CM := wpC_mono G (n + 5)
  have ow := os.fac
  refine wp_cut CM (fun σ h' => ∃ p, h p = none ∧ σ = [some (sy s), some (dm d), some (.ref p), some (fr 1), none, none] ∧ h' = aupd h p (.dK (s.map (kvf uv)))) ?_ ?_
  · bv_omega
    exact dict_np os.asc.nks fun p hp => ⟨fr 1, u.g4, p, hp, rfl, rfl⟩
  rintro σ h' ⟨p, hp, rfl, rfl⟩
  refine wp_cut CM (fun σ h' => ∃ x y, σ = [some (sy s), some (dm d), some (.ref p), some (fr (sprod (facs s) d)), x, y] ∧ h' = aupd h p (.dK (s.map (kvf uv)))) ?_ ?_
  · refine for_v CM ?_
    bv_omega
    show itR (.tup (d.map (prf AV.int))) _ _
    rw [v_tup]
    refine ⟨fun xs σ h' => ∃ (rest : Dm) (f : Rat) (x y : Option AV), xs = rest.map (prf AV.int) ∧ σ = [some (sy s), some (dm d), some (.ref p), some (fr f), x, y] ∧ h' = aupd h p (.dK (s.map (kvf uv))) ∧ (∀ q ∈ rest, q ∈ d) ∧ rest.length ≤ d.length ∧ 0 < f ∧ f * sprod (facs s) rest = sprod (facs s) d ∧ Sz ((d.length - rest.length) * (a * m + 1) + 1) f,
      ⟨d, 1, none, none, rfl, rfl, rfl, fun _ h => h, Nat.le_refl _, by decide, Rat.one_mul _, by rw [Nat.sub_self, Nat.zero_mul]; exact sz_one (by omega)⟩, ?_, ?_⟩
    · rintro σ h' ⟨rest, f, x, y, e, rfl, rfl, _, _, _, es, _⟩
      have := map_nil_eq e
      subst this
      have es : f * 1 = sprod (facs s) d := es
      rw [Rat.mul_one] at es
      subst es
      exact ⟨trivial, x, y, rfl, rfl⟩
    · rintro x xs σ h' ⟨rest, f, u1, v, e, rfl, rfl, hr, hlen, f0, es, sf⟩
      cases rest with
      | nil => cases e
      | cons q rest =>
        obtain ⟨b, i⟩ := q
        rw [List.map_cons] at e
        obtain ⟨rfl, rfl⟩ := List.cons.inj e
        refine ⟨trivial, g_tupR rfl ?_⟩
        have hm := hd _ (hr (b, i) List.mem_cons_self)
        have hm : i.natAbs ≤ m := hm
        rw [List.length_cons] at hlen sf
        bv_omega
        refine x_dK aupd_same (k' := .inr b) rfl (sy_get (hk _ (hr (b, i) List.mem_cons_self))) ?_
        bv_omega
        have s1 := ow.bd ha b
        have n1 := ow.ne b
        refine raw_power_spec (n := n) (m := m) k.c1 k.c3 k.c7 u.c8 u.c25 u.g4 s1 (.inl n1) hm ha ha2 (by omega) ?_
        have s2 := (sz_zpow (i := i) s1 (.inl n1)).mono (show a * i.natAbs + 1 ≤ a * m + 1 from Nat.add_le_add_right (Nat.mul_le_mul_left a hm) 1)
        have sb : (d.length - (rest.length + 1)) * (a * m + 1) ≤ 60 * (a * m + 1) := Nat.mul_le_mul_right _ (by omega)
        refine raw_times_big (n := n + 2) k.c1 k.c3 k.c7 sf s2 (Rat.ne_of_gt f0) (zpow_ne0 n1 i) (by omega) (by omega) (by omega) (.inr (by omega)) ?_
        refine ⟨rest, _, _, _, rfl, rfl, rfl, fun q hq => hr q (List.mem_cons_of_mem _ hq), by omega, Rat.mul_pos f0 (Rat.zpow_pos (ow.ps b)), ?_, (sz_mul sf s2).mono ?_⟩
        · rw [← es]
          show f * sv (facs s) b ^ i * sprod (facs s) rest = f * (sv (facs s) b ^ i * sprod (facs s) rest)
          rw [Rat.mul_assoc]
        · have : d.length - rest.length = d.length - (rest.length + 1) + 1 := by omega
          rw [this, Nat.add_mul, Nat.one_mul]
          omega
  rintro σ h' ⟨x, y, rfl, rfl⟩
  bv_omega
  exact shr_le (ALe.fresh hp) hq
def usum (s : Sy) (b : Str) : Dm → Int
  | [] => 0
  | p :: d => p.2 * dv (ud s p.1) b + usum s b d
theorem raw_dimension_spec (c : CDn G) (u : CUn G) {U N : List Str} {a kk j : Nat} {s : Sy} {d : Dm} (hN : NmsOk N) (os : YOk U N a kk s) (hkk : 0 < kk) (hkk2 : kk ≤ 100) (hj : 0 < j) (hj2 : j ≤ 100) (hd : ∀ p ∈ d, p.2.natAbs < 2 ^ j) (hk : ∀ p ∈ d, p.1 ∈ s.map (·.1)) (hl : d.length ≤ 60)
    (hq : ∀ D, DOk N (kk + j + d.length) D → (∀ b, dv D b = usum s b d) → Q (dm D) h) : wpC G (n + 2) 151 [sy s, dm d] h Q E := by
  refine call_i u.c151 rfl ?_
  unfold c151_raw_dimension
  have CM := wpC_mono G (n + 1)
  refine wp_cut CM (fun σ h' => ∃ p, h p = none ∧ σ = [some (sy s), some (dm d), some (.ref p), some (dm []), none, none] ∧ h' = aupd h p (.dK (s.map (kvf uv)))) ?_ ?_
  · bv_omega
    exact dict_np os.asc.nks fun p hp => ⟨p, hp, rfl, rfl⟩
  rintro σ h' ⟨p, hp, rfl, rfl⟩
  refine wp_cut CM (fun σ h' => ∃ D x y, σ = [some (sy s), some (dm d), some (.ref p), some (dm D), x, y] ∧ h' = aupd h p (.dK (s.map (kvf uv))) ∧ DOk N (kk + j + d.length) D ∧ ∀ b, dv D b = usum s b d) ?_ ?_
  · refine for_v CM ?_
    bv_omega
    show itR (.tup (d.map (prf AV.int))) _ _
    rw [v_tup]
    refine ⟨fun xs σ h' => ∃ (rest : Dm) (D : Dm) (x y : Option AV), xs = rest.map (prf AV.int) ∧ σ = [some (sy s), some (dm d), some (.ref p), some (dm D), x, y] ∧ h' = aupd h p (.dK (s.map (kvf uv))) ∧ (∀ q ∈ rest, q ∈ d) ∧ rest.length ≤ d.length ∧ DOk N (kk + j + (d.length - rest.length)) D ∧ ∀ b, dv D b + usum s b rest = usum s b d,
      ⟨d, [], none, none, rfl, rfl, rfl, fun _ h => h, Nat.le_refl _, DOk.nil, fun b => by rw [dv_nil, Int.zero_add]⟩, ?_, ?_⟩
    · rintro σ h' ⟨rest, D, x, y, e, rfl, rfl, _, _, oD, es⟩
      have := map_nil_eq e
      subst this
      exact ⟨trivial, D, x, y, rfl, rfl, oD, fun b => by have := es b; rw [← this]; exact (Int.add_zero _).symm⟩
    · rintro x xs σ h' ⟨rest, D, u1, v, e, rfl, rfl, hr, hlen, oD, es⟩
      cases rest with
      | nil => cases e
      | cons q rest =>
        obtain ⟨b, i⟩ := q
        rw [List.map_cons] at e
        obtain ⟨rfl, rfl⟩ := List.cons.inj e
        refine ⟨trivial, g_tupR rfl ?_⟩
        have hm := hd _ (hr (b, i) List.mem_cons_self)
        have hm : i.natAbs < 2 ^ j := hm
        rw [List.length_cons] at hlen oD
        bv_omega
        refine x_dK aupd_same (k' := .inr b) rfl (sy_get (hk _ (hr (b, i) List.mem_cons_self))) ?_
        bv_omega
        refine raw_raised_spec (n := n) u.c39 hN (os.dim b) hm hkk hj (by omega) ?_
        refine raw_together_spec (n := n) (k := kk + j + (d.length - (rest.length + 1))) c.c38 hN oD ((rmul_ok (os.dim b) hm).mono (by omega)) (.inl rfl) (by omega) fun D' oD' hD' => ?_
        refine ⟨rest, D', _, _, rfl, rfl, rfl, fun q hq => hr q (List.mem_cons_of_mem _ hq), by omega, oD'.mono (by omega), fun x => ?_⟩
        rw [hD' x, dv_rmul, ← es x]
        show dv D x + 1 * (dv (ud s b) x * i) + usum s x rest = dv D x + (i * dv (ud s b) x + usum s x rest)
        rw [Int.one_mul, Int.mul_comm i]
        omega
  rintro σ h' ⟨D, x, y, rfl, rfl, oD, hD⟩
  bv_omega
  exact shr_le (ALe.fresh hp) (hq D oD hD)
end PL

namespace PL
open PySem PySem.Spec PyProof.Rows L2
variable {G : Pg} {n : Nat} {Q : AQ} {E : AXQ} {h : AH}
structure Sok (U N : List Str) (s : Sy) : Prop where
  nU : NmsOk U
  nN : NmsOk N
  N6 : N.length ≤ 6
  ok : YOk U N 14 2 s
structure Uok (s : Sy) (d : Dm) : Prop where
  ok : DOk (s.map (·.1)) 4 d
  le : ∀ p ∈ d, p.2.natAbs ≤ 9
theorem Sok.sub {U N : List Str} {s : Sy} (o : Sok U N s) : ∀ b ∈ s.map (·.1), b ∈ U := fun b hb => by
  obtain ⟨p, hp, rfl⟩ := List.mem_map.mp hb
  exact o.ok.sub p hp
theorem Sok.keys {U N : List Str} {s : Sy} (o : Sok U N s) : NmsOk (s.map (·.1)) := ⟨fun b hb => o.nU.ok b (o.sub b hb), by rw [List.length_map]; have := o.ok.n2; omega⟩
theorem Uok.isUn {U N : List Str} {s : Sy} {d : Dm} (o : Sok U N s) (u : Uok s d) : isUn (s.map (·.1)) (dm d) = true := isUn_dm (N := N) o.nU u.ok o.sub u.le
theorem Uok.len {U N : List Str} {s : Sy} {d : Dm} (o : Sok U N s) (u : Uok s d) : d.length ≤ 20 := by
  have := u.ok.len
  rw [List.length_map] at this
  have := o.ok.n2
  omega
theorem check_sy (c : CDn G) (k : CFm G) (u : CUn G) {U N : List Str} {s : Sy} (o : Sok U N s) (hq : Q .non h) : wpC G (n + 7) 147 [sy s] h Q E :=
  check_system_spec c k u (dty_sy o.nU o.nN o.ok) (fun _ => hq) fun e => by rw [isSys_sy o.nU o.nN o.N6 o.ok (by decide)] at e; cases e
theorem factor_of_spec (c : CDn G) (k : CFm G) (u : CUn G) {U N : List Str} {s : Sy} {d : Dm} (o : Sok U N s) (od : Uok s d) (hq : Q (fr (sprod (facs s) d)) h) : wpC G (n + 8) 152 [sy s, dm d] h Q E := by
  refine call_i u.c152 rfl ?_
  unfold c152_factor_of
  bv_omega
  refine check_sy (n := n) c k u o ?_
  refine check_units_spec (n := n + 3) c u o.ok.asc.nks (dty_dm o.keys od.ok) (fun _ => ?_) fun e => by rw [od.isUn o] at e; cases e
  exact raw_factor_spec (n := n + 1) (m := 9) k u o.ok (by decide) (by decide) od.le od.ok.sub (by decide) (by have := od.len o; omega) (shr_i hq)
theorem dimension_in_spec (c : CDn G) (k : CFm G) (u : CUn G) {U N : List Str} {s : Sy} {d : Dm} (o : Sok U N s) (od : Uok s d) (hq : ∀ D, DOk N 40 D → (∀ b, dv D b = usum s b d) → Q (dm D) h) : wpC G (n + 8) 153 [sy s, dm d] h Q E := by
  refine call_i u.c153 rfl ?_
  unfold c153_dimension_in
  bv_omega
  refine check_sy (n := n) c k u o ?_
  refine check_units_spec (n := n + 3) c u o.ok.asc.nks (dty_dm o.keys od.ok) (fun _ => ?_) fun e => by rw [od.isUn o] at e; cases e
  have := od.len o
  exact raw_dimension_spec (n := n + 5) (j := 4) c u o.nN o.ok (by decide) (by decide) (by decide) (by decide) (fun p hp => (od.ok.nz p hp).2) od.ok.sub (by omega) fun D oD hD => shr_i (hq D (oD.mono (by omega)) hD)
theorem factor_bads (c : CDn G) (k : CFm G) (u : CUn G) {v w : AV} (hv : DTy h v) (hb : isSys v = false) (he : E ⟨11, []⟩ h) : wpC G (n + 8) 152 [v, w] h Q E := by
  refine call_i u.c152 rfl ?_
  unfold c152_factor_of
  bv_omega
  exact check_system_spec (n := n) c k u hv (fun e => by rw [hb] at e; cases e) fun _ => shr_i he
theorem dimension_bads (c : CDn G) (k : CFm G) (u : CUn G) {v w : AV} (hv : DTy h v) (hb : isSys v = false) (he : E ⟨11, []⟩ h) : wpC G (n + 8) 153 [v, w] h Q E := by
  refine call_i u.c153 rfl ?_
  unfold c153_dimension_in
  bv_omega
  exact check_system_spec (n := n) c k u hv (fun e => by rw [hb] at e; cases e) fun _ => shr_i he
theorem factor_badu (c : CDn G) (k : CFm G) (u : CUn G) {U N : List Str} {s : Sy} {w : AV} (o : Sok U N s) (hv : DTy h w) (hb : isUn (s.map (·.1)) w = false) (he : E ⟨12, []⟩ h) : wpC G (n + 8) 152 [sy s, w] h Q E := by
  refine call_i u.c152 rfl ?_
  unfold c152_factor_of
  bv_omega
  refine check_sy (n := n) c k u o ?_
  exact check_units_spec (n := n + 3) c u o.ok.asc.nks hv (fun e => by rw [hb] at e; cases e) fun _ => shr_i he
theorem dimension_badu (c : CDn G) (k : CFm G) (u : CUn G) {U N : List Str} {s : Sy} {w : AV} (o : Sok U N s) (hv : DTy h w) (hb : isUn (s.map (·.1)) w = false) (he : E ⟨12, []⟩ h) : wpC G (n + 8) 153 [sy s, w] h Q E := by
  refine call_i u.c153 rfl ?_
  unfold c153_dimension_in
  bv_omega
  refine check_sy (n := n) c k u o ?_
  exact check_units_spec (n := n + 3) c u o.ok.asc.nks hv (fun e => by rw [hb] at e; cases e) fun _ => shr_i he
theorem are_units_spec (c : CDn G) (k : CFm G) (u : CUn G) (c154 : G.code 154 = some f154) {U N : List Str} {s : Sy} {w : AV} (o : Sok U N s) (hv : DTy h w) (hq : Q (.bl (isUn (s.map (·.1)) w)) h) : wpC G (n + 8) 154 [sy s, w] h Q E := by
  refine call_i c154 rfl ?_
  unfold c154_are_units
  bv_omega
  refine check_sy (n := n) c k u o ?_
  exact raw_are_units_spec (n := n + 4) c u o.ok.asc.nks hv (shr_i hq)
theorem are_units_bads (c : CDn G) (k : CFm G) (u : CUn G) (c154 : G.code 154 = some f154) {v w : AV} (hv : DTy h v) (hb : isSys v = false) (he : E ⟨11, []⟩ h) : wpC G (n + 8) 154 [v, w] h Q E := by
  refine call_i c154 rfl ?_
  unfold c154_are_units
  bv_omega
  exact check_system_spec (n := n) c k u hv (fun e => by rw [hb] at e; cases e) fun _ => shr_i he
def wts (s : Sy) (b : Str) : Wm := s.map fun p => (p.1, (dv p.2.2 b : Rat))
theorem wts_lookup (s : Sy) (b x : Str) : (wts s b).lookup x = (s.lookup x).map fun v => ((dv v.2 b : Int) : Rat) := by
  induction s with
  | nil => rfl
  | cons p s ih =>
    unfold wts at ih ⊢
    rw [List.map_cons, List.lookup_cons, List.lookup_cons]
    cases e : (x == p.1) with
    | true => rfl
    | false => exact ih
theorem wv_wts (s : Sy) (b x : Str) : wv (wts s b) x = ((dv (ud s x) b : Int) : Rat) := by
  unfold wv ud
  rw [wts_lookup]
  cases s.lookup x <;> rfl
theorem usum_cast (s : Sy) (b : Str) : ∀ d : Dm, ((usum s b d : Int) : Rat) = wsum (wts s b) d
  | [] => rfl
  | p :: d => by
    show ((p.2 * dv (ud s p.1) b + usum s b d : Int) : Rat) = wv (wts s b) p.1 * (p.2 : Rat) + wsum (wts s b) d
    rw [wv_wts, Rat.intCast_add, Rat.intCast_mul, usum_cast s b d, Rat.mul_comm]
theorem usum_add {s : Sy} {N : List Str} {k m j : Nat} {ys : List Str} {d e f : Dm} (hn : ys.Nodup) (o1 : DOk ys k d) (o2 : DOk ys m e) (o3 : DOk ys j f) (h : ∀ b, dv f b = dv d b + dv e b) (b : Str) : usum s b f = usum s b d + usum s b e := by
  have := wsum_add (N := ys) (wts s b) hn o1 o2 o3 h
  rw [← usum_cast, ← usum_cast, ← usum_cast, ← Rat.intCast_add] at this
  exact_mod_cast this
theorem usum_sub {s : Sy} {k m j : Nat} {ys : List Str} {d e f : Dm} (hn : ys.Nodup) (o1 : DOk ys k d) (o2 : DOk ys m e) (o3 : DOk ys j f) (h : ∀ b, dv f b = dv d b - dv e b) (b : Str) : usum s b f = usum s b d - usum s b e := by
  have := usum_add (s := s) (N := ys) hn o3 o2 o1 (fun b => by rw [h b]; omega) b
  omega
theorem law_units_spec (c10 : G.code 10 = some f10) (c156 : G.code 156 = some f156) {a c : Addr} {M : Nat} {U N : List Str} {s : Sy} (w : HandOk h a M c) (hM : M + 50 < 2 ^ 60) (so : Sok U N s)
    (hq : ∀ (d : Dm) (h' : AH), Go h h' a c (M + 2 * s.length) → DOk (s.map (·.1)) 2 d → Q (dm d) h') : wpC G (n + 2) 156 [.ref a, sy s, .int 8] h Q E := by
  refine call_i c156 rfl ?_
  unfold c156_law_units
  have CM := wpC_mono G (n + 1)
  have l20 := so.ok.n2
  refine wp_cut CM (fun σ h1 => ∃ p, h p = none ∧ σ = [some (.ref a), some (sy s), some (.int 8), some (.ref p), none, none, none] ∧ h1 = aupd h p (.lst [])) ?_ ?_
  · bv_omega
    exact fun p hp => ⟨p, hp, rfl, rfl⟩
  rintro σ h1 ⟨p, hpn, rfl, rfl⟩
  obtain ⟨pa, pc⟩ := w.new hpn
  refine wp_cut CM (fun σ h2 => ∃ (d : Dm) (x y z : Option AV), σ = [some (.ref a), some (sy s), some (.int 8), some (.ref p), x, y, z] ∧ Go h h2 a c (M + 2 * s.length) ∧ h2 p = some (.lst (d.map (prf AV.int))) ∧ DOk (s.map (·.1)) 2 d) ?_ ?_
  · refine for_v CM ?_
    bv_omega
    show itR (.tup (s.map (prf uv))) _ _
    rw [v_tup]
    refine ⟨fun xs σ h2 => ∃ (d : Dm) (done rest : Sy) (x y z : Option AV), xs = rest.map (prf uv) ∧ s = done ++ rest ∧ σ = [some (.ref a), some (sy s), some (.int 8), some (.ref p), x, y, z] ∧ Go h h2 a c (M + 2 * done.length) ∧ h2 p = some (.lst (d.map (prf AV.int))) ∧ Asc d ∧ d.length ≤ done.length ∧ (∀ q ∈ d, q.1 ∈ done.map (·.1) ∧ q.2 ≠ 0 ∧ q.2.natAbs < 2 ^ 2),
      ⟨[], [], s, none, none, none, rfl, rfl, rfl, (Go.refl w).fresh hpn, aupd_same, List.Pairwise.nil, Nat.le_refl _, by simp⟩, ?_, ?_⟩
    · rintro σ h2 ⟨d, done, rest, x, y, z, e, ey, rfl, g, e2, as, _, hd⟩
      have := map_nil_eq e
      subst this
      rw [List.append_nil] at ey
      subst ey
      exact ⟨trivial, d, x, y, z, rfl, g, e2, as, fun q hq => (hd q hq).2, fun q hq => (hd q hq).1⟩
    · rintro x xs σ h2 ⟨d, done, rest, x', y', z', e, ey, rfl, g, e2, as, hdl, hd⟩
      cases rest with
      | nil => cases e
      | cons q rest =>
        obtain ⟨t, qv⟩ := q
        rw [List.map_cons] at e
        obtain ⟨rfl, rfl⟩ := List.cons.inj e
        refine ⟨trivial, g_tupR rfl ?_⟩
        have hlen : done.length + 1 + rest.length = s.length := by rw [ey]; simp; omega
        have hl1 : (done ++ [(t, qv)]).length = done.length + 1 := by simp
        bv_omega
        refine draw_spec (n := n) c10 g.w (by omega) (by decide) (by decide) fun k o0 t0 t1 w2 => ?_
        have g2 := g.draw w2 (M := M + 2 * done.length + 1) (Nat.le_refl _)
        have e3 : aupd h2 a o0 p = some (.lst (d.map (prf AV.int))) := by rw [aupd_ne pa]; exact e2
        generalize aupd h2 a o0 = h3 at g2 e3
        have skip : ∀ (x y z : Option AV), ∃ (d : Dm) (done rest' : Sy) (x' y' z' : Option AV), rest.map (prf uv) = rest'.map (prf uv) ∧ s = done ++ rest' ∧ [some (AV.ref a), some (sy s), some (AV.int 8), some (AV.ref p), x, y, z] = [some (.ref a), some (sy s), some (.int 8), some (.ref p), x', y', z'] ∧ Go h h3 a c (M + 2 * done.length) ∧ h3 p = some (.lst (d.map (prf AV.int))) ∧ Asc d ∧ d.length ≤ done.length ∧ (∀ q ∈ d, q.1 ∈ done.map (·.1) ∧ q.2 ≠ 0 ∧ q.2.natAbs < 2 ^ 2) :=
          fun x y z => ⟨d, done ++ [(t, qv)], rest, x, y, z, rfl, by rw [ey]; simp, rfl, g2.mono (by omega), e3, as, by omega, fun q hq => ⟨by rw [List.map_append]; exact List.mem_append_left _ (hd q hq).1, (hd q hq).2⟩⟩
        bv_omega
        split
        · refine n_lst e3 ?_
          bv_omega
          rw [List.length_map]
          by_cases h8 : (d.length : Int) < 8
          · rw [if_pos h8]
            refine draw_spec (n := n) c10 g2.w (by omega) (by decide) (by decide) fun v o v0 v1 w3 => ?_
            have g3 := g2.draw w3 (M := M + 2 * (done ++ [(t, qv)]).length) (by omega)
            have e4 : aupd h3 a o p = some (.lst (d.map (prf AV.int))) := by rw [aupd_ne pa]; exact e3
            generalize aupd h3 a o = h4 at g3 e4
            bv_omega
            refine ⟨ms_app e4, m_app e4 (by rw [List.length_map]; have := len_small (n := d.length + 1) (by omega); omega) ?_⟩
            refine ⟨d ++ [(t, v - 3 + (if 0 ≤ v - 3 then 1 else 0))], done ++ [(t, qv)], rest, _, _, _, rfl, by rw [ey]; simp, rfl, g3.set hpn pa pc, ?_, ?_, by simp; omega, ?_⟩
            · rw [aupd_same, List.map_append]; rfl
            · unfold Asc
              rw [List.pairwise_append]
              refine ⟨as, List.pairwise_singleton _ _, fun q hq z hz => ?_⟩
              rw [List.mem_singleton.mp hz]
              have hsa := so.ok.asc
              unfold Asc at hsa
              rw [ey, List.pairwise_append] at hsa
              obtain ⟨q', hq', e'⟩ := List.mem_map.mp (hd q hq).1
              rw [← e']
              exact hsa.2.2 q' hq' (t, qv) List.mem_cons_self
            · intro q hq
              rcases List.mem_append.mp hq with hq | hq
              · exact ⟨by rw [List.map_append]; exact List.mem_append_left _ (hd q hq).1, (hd q hq).2⟩
              · rw [List.mem_singleton.mp hq]
                refine ⟨by simp, ?_⟩
                show (v - 3 + (if 0 ≤ v - 3 then 1 else 0)) ≠ 0 ∧ (v - 3 + (if 0 ≤ v - 3 then 1 else 0)).natAbs < 2 ^ 2
                by_cases hh : 0 ≤ v - 3
                · rw [if_pos hh]; omega
                · rw [if_neg hh]; omega
          · rw [if_neg h8]
            exact skip _ _ _
        · exact skip _ _ _
  rintro σ h2 ⟨d, x, y, z, rfl, g, e2, od⟩
  bv_omega
  exact tu_lst e2 (shr_i (hq d h2 g od))
end PL

namespace PL
open PySem PySem.Spec PyProof.Rows L2
variable {G : Pg} {n : Nat} {Q : AQ} {E : AXQ} {h : AH}
theorem divInt_pos {t b : Int} (ht : 0 < t) (hb : 0 < b) : 0 < Rat.divInt t b := by
  rw [Rat.divInt_eq_div]
  have h1 : (0 : Rat) < (t : Rat) := by exact_mod_cast ht
  have h2 : (0 : Rat) < (b : Rat) := by exact_mod_cast hb
  rw [Rat.div_def]
  exact Rat.mul_pos h1 (Rat.inv_pos.mpr h2)
theorem law_factor_gen (c11 : G.code 11 = some f11) (c157 : G.code 157 = some f157) {U N : List Str} {a kk m : Nat} {s : Sy} {d : Dm} (os : YOk U N a kk s) (ha : 0 < a) (hd : ∀ p ∈ d, p.2 ≠ 0 ∧ p.2.natAbs ≤ m) (hb : d.length * (a * m) + 1 < 9000) (hm2 : m ≤ 2000) (hk : ∀ p ∈ d, p.1 ∈ s.map (·.1)) (hq : Q (fr (sprod (facs s) d)) h) : wpC G (n + 2) 157 [sy s, dm d] h Q E := by
  refine call_i c157 rfl ?_
  unfold c157_law_factor
  have CM := wpC_mono G (n + 1)
  have ow := os.fac
  refine wp_cut CM (fun σ h' => ∃ p, h p = none ∧ σ = [some (sy s), some (dm d), some (.ref p), none, none, none, none, none, none] ∧ h' = aupd h p (.dK (s.map (kvf uv)))) ?_ ?_
  · bv_omega
    exact dict_np os.asc.nks fun p hp => ⟨p, hp, rfl, rfl⟩
  rintro σ h' ⟨p, hp, rfl, rfl⟩
  refine wp_cut CM (fun σ h' => σ = [some (sy s), some (dm d), some (.ref p), some (.int 1), none, none, none, none, none] ∧ h' = aupd h p (.dK (s.map (kvf uv)))) ?_ ?_
  · bv_omega
  rintro σ h' ⟨rfl, rfl⟩
  refine wp_cut CM (fun σ h' => σ = [some (sy s), some (dm d), some (.ref p), some (.int 1), some (.int 1), none, none, none, none] ∧ h' = aupd h p (.dK (s.map (kvf uv)))) ?_ ?_
  · bv_omega
  rintro σ h' ⟨rfl, rfl⟩
  refine wp_cut CM (fun σ h' => ∃ (t u : Int) (x y z v : Option AV), σ = [some (sy s), some (dm d), some (.ref p), some (.int t), some (.int u), x, y, z, v] ∧ h' = aupd h p (.dK (s.map (kvf uv))) ∧ 0 < u ∧ u.natAbs < 2 ^ 9000 ∧ (t : Rat) = sprod (facs s) d * (u : Rat)) ?_ ?_
  · refine for_v CM ?_
    bv_omega
    show itR (.tup (d.map (prf AV.int))) _ _
    rw [v_tup]
    refine ⟨fun xs σ h' => ∃ (rest : Dm) (t u : Int) (f : Rat) (x y z v : Option AV), xs = rest.map (prf AV.int) ∧ σ = [some (sy s), some (dm d), some (.ref p), some (.int t), some (.int u), x, y, z, v] ∧ h' = aupd h p (.dK (s.map (kvf uv))) ∧ (∀ q ∈ rest, q ∈ d) ∧ rest.length ≤ d.length ∧ f * sprod (facs s) rest = sprod (facs s) d ∧ 0 < u ∧ t.natAbs < 2 ^ ((d.length - rest.length) * (a * m) + 1) ∧ u.natAbs < 2 ^ ((d.length - rest.length) * (a * m) + 1) ∧ (t : Rat) = f * (u : Rat),
      ⟨d, 1, 1, 1, none, none, none, none, rfl, rfl, rfl, fun _ h => h, Nat.le_refl _, Rat.one_mul _, by decide, by rw [Nat.sub_self, Nat.zero_mul]; decide, by rw [Nat.sub_self, Nat.zero_mul]; decide, (Rat.one_mul _).symm⟩, ?_, ?_⟩
    · rintro σ h' ⟨rest, t, u, f, x, y, z, v, e, rfl, rfl, _, _, es, u0, _, ub, et⟩
      have := map_nil_eq e
      subst this
      have es : f * 1 = sprod (facs s) d := es
      rw [Rat.mul_one] at es
      subst es
      refine ⟨trivial, t, u, x, y, z, v, rfl, rfl, u0, Nat.lt_of_lt_of_le ub (Nat.pow_le_pow_right (by decide) ?_), et⟩
      show (d.length - 0) * (a * m) + 1 ≤ 9000
      rw [Nat.sub_zero]
      omega
    · rintro x xs σ h' ⟨rest, t, u, f, x1, x2, x3, x4, e, rfl, rfl, hr, hlen, es, u0, tb, ub, et⟩
      cases rest with
      | nil => cases e
      | cons q rest =>
        obtain ⟨b, i⟩ := q
        rw [List.map_cons] at e
        obtain ⟨rfl, rfl⟩ := List.cons.inj e
        refine ⟨trivial, g_tupR rfl ?_⟩
        obtain ⟨i0, hm⟩ := hd _ (hr (b, i) List.mem_cons_self)
        have hm : i.natAbs ≤ m := hm
        have i0 : i ≠ 0 := i0
        rw [List.length_cons] at hlen tb ub
        generalize hK : (d.length - (rest.length + 1)) * (a * m) + 1 = K at tb ub
        have hK2 : (d.length - rest.length) * (a * m) + 1 = K + a * m := by
          have : d.length - rest.length = d.length - (rest.length + 1) + 1 := by omega
          rw [this, Nat.add_mul, Nat.one_mul, ← hK]
          omega
        have hK3 : K + a * m ≤ 9000 := by
          rw [← hK2]
          have : (d.length - rest.length) * (a * m) ≤ d.length * (a * m) := Nat.mul_le_mul_right _ (by omega)
          omega
        bv_omega
        refine x_dK aupd_same (k' := .inr b) rfl (sy_get (hk _ (hr (b, i) List.mem_cons_self))) ?_
        bv_omega
        have s1 := ow.bd ha b
        have n1 := ow.ne b
        have p1 := ow.ps b
        generalize eX : sv (facs s) b = X at s1 n1 p1
        have AB : ∃ A B : Int, ∃ Y : Rat, A.natAbs < 2 ^ a ∧ B.natAbs < 2 ^ a ∧ 0 < B ∧ (A : Rat) = Y * (B : Rat) ∧ Y ^ i.natAbs = X ^ i ∧ (∀ R : AQ, ∀ h', R (.int A) h' → ixR (fr X) (.int (if i < 0 then 1 else 0)) h' R) ∧ (∀ R : AQ, ∀ h', R (.int B) h' → ixR (fr X) (.int (if 0 < i then 1 else 0)) h' R) := by
          have dn : ((X.den : Int) : Rat) ≠ 0 := by
            intro z
            have : (X.den : Int) = 0 := by exact_mod_cast z
            have := X.den_pos
            omega
          have hX : (X.num : Rat) = X * ((X.den : Int) : Rat) := by
            have e2 : X = (X.num : Rat) / ((X.den : Int) : Rat) := by rw [← Rat.divInt_eq_div]; exact (Rat.num_divInt_den X).symm
            generalize (X.num : Rat) = N1 at e2 ⊢
            generalize ((X.den : Int) : Rat) = N2 at e2 dn ⊢
            subst e2
            grind
          by_cases hi : i < 0
          · refine ⟨X.den, X.num, X⁻¹, s1.2, s1.1, num_pos' p1, ?_, ?_, fun R h' q => ?_, fun R h' q => ?_⟩
            · rw [hX]; grind
            · have e : i = -(i.natAbs : Int) := by omega
              rw [e, Rat.zpow_neg, Rat.zpow_natCast, Int.natAbs_neg, Int.natAbs_natCast, inv_pow']
            · rw [if_pos hi]; exact ⟨_, rfl, q⟩
            · rw [if_neg (by omega)]; exact ⟨_, rfl, q⟩
          · refine ⟨X.num, X.den, X, s1.1, s1.2, (by have := X.den_pos; omega), hX, ?_, fun R h' q => ?_, fun R h' q => ?_⟩
            · have e : i = (i.natAbs : Int) := by omega
              rw [e, Rat.zpow_natCast, Int.natAbs_natCast]
            · rw [if_neg hi]; exact ⟨_, rfl, q⟩
            · rw [if_pos (by omega)]; exact ⟨_, rfl, q⟩
        obtain ⟨A, B, Y, bA, bB, B0, eA, eY, iA, iB⟩ := AB
        refine for_r1 CM ?_
        bv_omega
        refine ⟨i.natAbs, by split <;> omega, by omega, fun j σ h' => ∃ (t u : Int) (x : Option AV), σ = [some (sy s), some (dm d), some (.ref p), some (.int t), some (.int u), some (.str b), some (.int i), some (fr X), x] ∧ h' = aupd h p (.dK (s.map (kvf uv))) ∧ 0 < u ∧ j ≤ i.natAbs ∧ t.natAbs < 2 ^ (K + a * (i.natAbs - j)) ∧ u.natAbs < 2 ^ (K + a * (i.natAbs - j)) ∧ (t : Rat) = f * Y ^ (i.natAbs - j) * (u : Rat),
          ⟨t, u, x4, rfl, rfl, u0, Nat.le_refl _, by rw [Nat.sub_self]; exact tb, by rw [Nat.sub_self]; exact ub, by rw [Nat.sub_self, Rat.pow_zero, Rat.mul_one]; exact et⟩, ?_, ?_⟩
        · rintro σ h' ⟨t, u, x, rfl, rfl, u0, _, tb, ub, et⟩
          rw [Nat.sub_zero, eY] at et
          rw [Nat.sub_zero] at tb ub
          have hw : 2 ^ (K + a * i.natAbs) ≤ 2 ^ (K + a * m) := Nat.pow_le_pow_right (by decide) (Nat.add_le_add_left (Nat.mul_le_mul_left a hm) K)
          refine ⟨rest, t, u, f * X ^ i, _, _, _, _, rfl, rfl, rfl, fun q hq => hr q (List.mem_cons_of_mem _ hq), by omega, ?_, u0, by rw [hK2]; exact Nat.lt_of_lt_of_le tb hw, by rw [hK2]; exact Nat.lt_of_lt_of_le ub hw, et⟩
          rw [← es]
          show f * X ^ i * sprod (facs s) rest = f * (sv (facs s) b ^ i * sprod (facs s) rest)
          rw [eX, Rat.mul_assoc]
        · rintro j σ h' hj ⟨t, u, x, rfl, rfl, u0, hj2, tb, ub, et⟩
          have ej : i.natAbs - j = i.natAbs - (j + 1) + 1 := by omega
          have hKp : 0 < K := by omega
          have w1 : K + a * (i.natAbs - (j + 1)) + a ≤ 9000 := by
            have e2 : a * (i.natAbs - (j + 1)) + a ≤ a * m := by
              rw [← Nat.mul_succ]; exact Nat.mul_le_mul_left a (by omega)
            omega
          bv_omega
          refine iA _ _ ?_
          bv_omega
          refine ⟨mulW tb bA (by omega) ha (by omega), ?_⟩
          refine iB _ _ ?_
          bv_omega
          refine ⟨mulW ub bB (by omega) ha (by omega), t * A, u * B, _, rfl, Int.mul_pos u0 B0, by omega, ?_, ?_, ?_⟩
          · rw [ej, Nat.mul_succ, ← Nat.add_assoc]; exact lt_mul tb bA
          · rw [ej, Nat.mul_succ, ← Nat.add_assoc]; exact lt_mul ub bB
          · rw [ej, Rat.pow_succ, Rat.intCast_mul, Rat.intCast_mul, et, eA]
            grind
  rintro σ h' ⟨t, u, x, y, z, v, rfl, rfl, u0, ub, et⟩
  bv_omega
  refine law_low_big (n := n) c11 (by omega) ub ?_
  have : Rat.divInt t u = sprod (facs s) d := by
    rw [Rat.divInt_eq_div, et]
    have : (u : Rat) ≠ 0 := by
      intro z
      have : u = 0 := by exact_mod_cast z
      omega
    grind
  rw [this]
  exact shr_le (ALe.fresh hp) hq
theorem law_factor_spec (c11 : G.code 11 = some f11) (c157 : G.code 157 = some f157) {U N : List Str} {s : Sy} {d : Dm} (o : Sok U N s) (od : Uok s d) (hq : Q (fr (sprod (facs s) d)) h) : wpC G (n + 2) 157 [sy s, dm d] h Q E := by
  refine law_factor_gen (m := 9) c11 c157 o.ok (by decide) (fun p hp => ⟨(od.ok.nz p hp).1, od.le p hp⟩) ?_ (by decide) od.ok.sub hq
  have := od.len o
  have : d.length * (14 * 9) ≤ 20 * 126 := Nat.mul_le_mul (by omega) (by decide)
  omega
theorem law_dimension_spec (c46 : G.code 46 = some f46) (c158 : G.code 158 = some f158) {U N : List Str} {s : Sy} {d : Dm} (o : Sok U N s) (od : Uok s d) (hq : ∀ D, DOk N 40 D → (∀ b, dv D b = usum s b d) → Q (dm D) h) : wpC G (n + 2) 158 [sy s, dm d] h Q E := by
  refine call_i c158 rfl ?_
  unfold c158_law_dimension
  have CM := wpC_mono G (n + 1)
  have hl20 := od.len o
  refine wp_cut CM (fun σ h' => ∃ p, h p = none ∧ σ = [some (sy s), some (dm d), some (.ref p), none, none, none] ∧ h' = aupd h p (.dK (s.map (kvf uv)))) ?_ ?_
  · bv_omega
    exact dict_np o.ok.asc.nks fun p hp => ⟨p, hp, rfl, rfl⟩
  rintro σ h' ⟨p, hp, rfl, rfl⟩
  refine wp_cut CM (fun σ h' => σ = [some (sy s), some (dm d), some (.ref p), some (dm []), none, none] ∧ h' = aupd h p (.dK (s.map (kvf uv)))) ?_ ?_
  · bv_omega
    rfl
  rintro σ h' ⟨rfl, rfl⟩
  refine wp_cut CM (fun σ h' => ∃ D x y, σ = [some (sy s), some (dm d), some (.ref p), some (dm D), x, y] ∧ h' = aupd h p (.dK (s.map (kvf uv))) ∧ DOk N (6 + d.length) D ∧ ∀ b, dv D b = usum s b d) ?_ ?_
  · refine for_v CM ?_
    bv_omega
    show itR (.tup (d.map (prf AV.int))) _ _
    rw [v_tup]
    refine ⟨fun xs σ h' => ∃ (rest : Dm) (D : Dm) (x y : Option AV), xs = rest.map (prf AV.int) ∧ σ = [some (sy s), some (dm d), some (.ref p), some (dm D), x, y] ∧ h' = aupd h p (.dK (s.map (kvf uv))) ∧ (∀ q ∈ rest, q ∈ d) ∧ rest.length ≤ d.length ∧ DOk N (6 + (d.length - rest.length)) D ∧ ∀ b, dv D b + usum s b rest = usum s b d,
      ⟨d, [], none, none, rfl, rfl, rfl, fun _ h => h, Nat.le_refl _, DOk.nil, fun b => by rw [dv_nil, Int.zero_add]⟩, ?_, ?_⟩
    · rintro σ h' ⟨rest, D, x, y, e, rfl, rfl, _, _, oD, es⟩
      have := map_nil_eq e
      subst this
      exact ⟨trivial, D, x, y, rfl, rfl, oD, fun b => by have := es b; rw [← this]; exact (Int.add_zero _).symm⟩
    · rintro x xs σ h' ⟨rest, D, u1, v, e, rfl, rfl, hr, hlen, oD, es⟩
      cases rest with
      | nil => cases e
      | cons q rest =>
        obtain ⟨b, i⟩ := q
        rw [List.map_cons] at e
        obtain ⟨rfl, rfl⟩ := List.cons.inj e
        refine ⟨trivial, g_tupR rfl ?_⟩
        have hm := (od.ok.nz _ (hr (b, i) List.mem_cons_self)).2
        have hm : i.natAbs < 2 ^ 4 := hm
        rw [List.length_cons] at hlen oD
        bv_omega
        refine x_dK aupd_same (k' := .inr b) rfl (sy_get (od.ok.sub _ (hr (b, i) List.mem_cons_self))) ?_
        bv_omega
        have ob := o.ok.dim b
        have bd : ∀ x, (dv D x + i * dv (ud s b) x).natAbs < 2 ^ (6 + (d.length - rest.length)) := fun x => by
          have h1 := oD.bd x
          have h2 := mul_bd hm (ob.bd x)
          have e1 : 6 + (d.length - rest.length) = 6 + (d.length - (rest.length + 1)) + 1 := by omega
          have e2 : (2 : Nat) ^ (4 + 2) ≤ 2 ^ (6 + (d.length - (rest.length + 1))) := Nat.pow_le_pow_right (by decide) (by omega)
          rw [e1, Nat.pow_succ]
          omega
        refine law_added_gen (n := n) c46 o.nN oD ob (fun p hp => mulW hm (ob.nz p hp).2 (by decide) (by decide) (by decide)) bd fun D' oD' hD' => ?_
        refine ⟨rest, D', _, _, rfl, rfl, rfl, fun q hq => hr q (List.mem_cons_of_mem _ hq), by omega, oD', fun x => ?_⟩
        rw [hD' x, ← es x]
        show dv D x + i * dv (ud s b) x + usum s x rest = dv D x + (i * dv (ud s b) x + usum s x rest)
        omega
  rintro σ h' ⟨D, x, y, rfl, rfl, oD, hD⟩
  bv_omega
  exact shr_le (ALe.fresh hp) (hq D (oD.mono (by omega)) hD)
theorem law_system_spec (c10 : G.code 10 = some f10) (c11 : G.code 11 = some f11) (c48 : G.code 48 = some f48) (c49 : G.code 49 = some f49) (c155 : G.code 155 = some f155) {a c r : Addr} {M : Nat} {ys : List Str} (w : HandOk h a M c) (hM : M + 1000 < 2 ^ 60) (hY : NmsOk ys) (hp : ys.Pairwise sl) (hy : ys.length ≤ 6) (er : h r = some (.lst (ys.map .str))) (ra : r ≠ a)
    (hq : ∀ (U : List Str) (s : Sy) (h' : AH), Go h h' a c (M + 300) → Sok U ys s → s.length ≤ 8 → Q (sy s) h') : wpC G (n + 3) 155 [.ref a, .ref r] h Q E := by
  refine call_i c155 rfl ?_
  unfold c155_law_system
  have CM := wpC_mono G (n + 2)
  refine wp_cut CM (fun σ h1 => ∃ p, h p = none ∧ σ = [some (.ref a), some (.ref r), some (.ref p), none, none] ∧ h1 = aupd h p (.lst [])) ?_ ?_
  · bv_omega
    exact fun p hp => ⟨p, hp, rfl, rfl⟩
  rintro σ h1 ⟨p, hpn, rfl, rfl⟩
  obtain ⟨pa, pc⟩ := w.new hpn
  have pr : p ≠ r := fun e => by subst e; rw [er] at hpn; cases hpn
  refine wp_cut CM (fun σ h2 => ∃ (U : List Str) (s : Sy) (x y : Option AV), σ = [some (.ref a), some (.ref r), some (.ref p), x, y] ∧ Go h h2 a c (M + 300) ∧ h2 p = some (.lst (s.map (prf uv))) ∧ NmsOk U ∧ YOk U ys 14 2 s ∧ s.length ≤ 8) ?_ ?_
  · refine for_v CM ?_
    bv_omega
    have w0 := w.off (o := .lst []) pa pc
    refine draw_spec (n := n + 1) c10 w0 (by omega) (by decide) (by decide) fun t o t0 t1 w2 => ?_
    have g1 := ((Go.refl w).fresh (o := .lst []) hpn).draw w2 (M := M + 1) (Nat.le_refl _)
    have e1 : aupd (aupd h p (.lst [])) a o p = some (.lst []) := by rw [aupd_ne pa, aupd_same]
    generalize aupd (aupd h p (.lst [])) a o = h1 at g1 e1
    bv_omega
    obtain ⟨k, rfl⟩ := Int.eq_ofNat_of_zero_le t0
    have e : (1 + (k : Int)) = ((1 + k : Nat) : Int) := by omega
    rw [e]
    refine law_names_spec (n := n) c10 c48 g1.w (by omega) (by omega) (by omega) fun U r2 h2 g2 hr2 hU hpU hU1 hU8 er2 => ?_
    have e2 := g2.le p _ pa e1
    have r2a := (g1.w.new hr2).1
    have r2c := (g1.w.new hr2).2
    have r2p : r2 ≠ p := fun z => by subst z; rw [e1] at hr2; cases hr2
    have g3 : Go h h2 a c (M + 100) := (g1.trans (g2.mono (by omega)))
    refine v_ref (C := wpC G (n + 2)) (T := G.T) er2 ?_
    refine ⟨fun xs σ h2 => ∃ (s : Sy) (done rest : List Str) (x y : Option AV), xs = rest.map .str ∧ U = done ++ rest ∧ σ = [some (.ref a), some (.ref r), some (.ref p), x, y] ∧ Go h h2 a c (M + 100 + 20 * done.length) ∧ h2 r2 = some (.lst (U.map .str)) ∧ h2 p = some (.lst (s.map (prf uv))) ∧ s.map (·.1) = done ∧ (∀ q ∈ s, 0 < q.2.1 ∧ Sz 14 q.2.1 ∧ DOk ys 2 q.2.2),
      ⟨[], [], U, none, none, rfl, rfl, rfl, g3, er2, e2, rfl, by simp⟩, ?_, ?_⟩
    · rintro σ h2 ⟨s, done, rest, x, y, e, ey, rfl, g, er2, e2, hk, hd⟩
      have := map_nil_eq e
      subst this
      rw [List.append_nil] at ey
      subst ey
      have hsl : s.length = (s.map (·.1)).length := (List.length_map ..).symm
      rw [hk] at hsl
      refine ⟨er2, U, s, x, y, rfl, g.mono (by omega), e2, hU, ⟨?_, hd, fun q hq => hk ▸ List.mem_map.mpr ⟨q, hq, rfl⟩, by omega, by omega⟩, by omega⟩
      unfold Asc
      rw [← hk, List.pairwise_map] at hpU
      exact hpU
    · rintro x xs σ h2 ⟨s, done, rest, x', y', e, ey, rfl, g, er2, e2, hk, hd⟩
      cases rest with
      | nil => cases e
      | cons b rest =>
        rw [List.map_cons] at e
        obtain ⟨rfl, rfl⟩ := List.cons.inj e
        have hlen : done.length + 1 + rest.length = U.length := by rw [ey]; simp; omega
        have hdl : (done ++ [b]).length = done.length + 1 := by simp
        have hsl : s.length = done.length := by rw [← hk, List.length_map]
        refine ⟨er2, ?_⟩
        bv_omega
        refine draw_spec (n := n + 1) c10 g.w (by omega) (by decide) (by decide) fun u o u0 u1 w3 => ?_
        have g4 := g.draw w3 (M := M + 100 + 20 * done.length + 1) (Nat.le_refl _)
        have e4 : aupd h2 a o p = some (.lst (s.map (prf uv))) := by rw [aupd_ne pa]; exact e2
        have er4 : aupd h2 a o r2 = some (.lst (U.map .str)) := by rw [aupd_ne r2a]; exact er2
        generalize aupd h2 a o = h4 at g4 e4 er4
        bv_omega
        refine draw_spec (n := n + 1) c10 g4.w (by omega) (by decide) (by decide) fun v o v0 v1 w5 => ?_
        have g5 := g4.draw w5 (M := M + 100 + 20 * done.length + 2) (Nat.le_refl _)
        have e5 : aupd h4 a o p = some (.lst (s.map (prf uv))) := by rw [aupd_ne pa]; exact e4
        have er5 : aupd h4 a o r2 = some (.lst (U.map .str)) := by rw [aupd_ne r2a]; exact er4
        generalize aupd h4 a o = h5 at g5 e5 er5
        bv_omega
        refine law_low_spec (n := n + 1) c11 (by omega) (Nat.lt_of_lt_of_le (show (1 + v).natAbs < 2 ^ 14 by omega) (Nat.pow_le_pow_right (by decide) (by decide))) ?_
        refine ⟨ms_app e5, ?_⟩
        refine law_size_spec (n := n) (k := 2) c10 c49 g5.w (by omega) hY hp (g5.le r _ ra er) ra (by decide) (by decide) (by decide) fun d h6 g6 od => ?_
        have e6 := g6.le p _ pa e5
        have er6 := g6.le r2 _ r2a er5
        refine m_app e6 (by rw [List.length_map]; have := len_small (n := s.length + 1) (by omega); omega) ?_
        refine ⟨s ++ [(b, (Rat.divInt (1 + u) (1 + v), d))], done ++ [b], rest, _, _, rfl, by rw [ey]; simp, rfl, ((g5.trans (g6.mono (M := M + 100 + 20 * done.length + 20) (by omega))).mono (by omega)).set hpn pa pc, ?_, ?_, ?_, ?_⟩
        · rw [aupd_ne r2p]; exact er6
        · rw [aupd_same, List.map_append]; rfl
        · rw [List.map_append, hk]; rfl
        · intro q hq
          rcases List.mem_append.mp hq with hq | hq
          · exact hd q hq
          · rw [List.mem_singleton.mp hq]
            exact ⟨divInt_pos (by omega) (by omega), sz_divInt (by omega) (by omega) (by omega), od⟩
  rintro σ h2 ⟨U, s, x, y, rfl, g, e2, hU, ok, hl8⟩
  bv_omega
  exact tu_lst e2 (shr_i (hq U s h2 g ⟨hU, hY, hy, ok⟩ hl8))
end PL

namespace K40
open PySem PySem.Spec PyProof.Rows L2 PL
def top (i : Nat) : Stmt := PySem.Challenge.pw_anyunits_k40_whole_conversions.main.body.getD i (.Pass ⟨0, 0, 0, 0⟩)
def c163_raw_converted : CS := .cons (.ret (.call 8 (.cons (.call 7 (.cons (.var 1) (.cons (.call 150 (.cons (.var 0) (.cons (.var 2) .nil))) .nil))) (.cons (.call 150 (.cons (.var 0) (.cons (.var 3) .nil))) .nil)))) .nil
def c164_converted : CS := .cons (.expr (.call 147 (.cons (.var 0) .nil))) (.cons (.iff (.not (.tru (.call 2 (.cons (.var 1) .nil)))) (.cons (.raise 0 .nil) .nil) .nil) (.cons (.expr (.call 149 (.cons (.var 0) (.cons (.var 2) .nil)))) (.cons (.expr (.call 149 (.cons (.var 0) (.cons (.var 3) .nil)))) (.cons (.iff (.cmp .ne (.call 151 (.cons (.var 0) (.cons (.var 2) .nil))) (.call 151 (.cons (.var 0) (.cons (.var 3) .nil)))) (.cons (.raise 13 .nil) .nil) .nil) (.cons (.ret (.call 163 (.cons (.var 0) (.cons (.var 1) (.cons (.var 2) (.cons (.var 3) .nil)))))) .nil)))))
def c166_law_doubled : CS := .cons (.asg (.var 2) .dct0) (.cons (.asg (.var 3) (.blt .dict (.cons (.var 1) .nil))) (.cons (.asg (.var 4) (.lst (.cons (.str "aa") (.cons (.str "bb") (.cons (.str "cc") (.cons (.str "dd") (.cons (.str "ee") (.cons (.str "ff") (.cons (.str "gg") (.cons (.str "hh") (.cons (.str "ii") (.cons (.str "jj") (.cons (.str "kk") (.cons (.str "ll") (.cons (.str "mm") (.cons (.str "nn") (.cons (.str "oo") (.cons (.str "pp") .nil)))))))))))))))))) (.cons (.slc 4 (.comp [8] (.var 8) (.val (.var 4)) (.cons (.cmp .notin (.var 8) (.var 3)) .nil) (.var 8))) (.cons (.asg (.var 5) (.blt .list (.cons (.var 1) .nil))) (.cons (.forr (.tup (.cons (.var 6) (.cons (.var 7) .nil))) (.val (.var 1)) (.cons (.asg (.idx (.var 2) (.var 6)) (.mth .pop (.var 4) (.cons (.int 0) .nil))) (.cons (.expr (.mth .append (.var 5) (.cons (.tup (.cons (.idx (.var 2) (.var 6)) (.cons (.tup (.cons (.call 11 (.cons (.bin .add (.int 1) (.call 10 (.cons (.var 0) (.cons (.int 9999) .nil)))) (.cons (.bin .add (.int 1) (.call 10 (.cons (.var 0) (.cons (.int 999) .nil)))) .nil))) (.cons (.idx (.var 7) (.int 1)) .nil))) .nil))) .nil))) .nil))) (.cons (.ret (.tup (.cons (.blt .tuple (.cons (.blt .sorted (.cons (.var 5) .nil)) .nil)) (.cons (.var 2) .nil)))) .nil))))))
def c165_law_told : CS := .cons (.asg (.var 4) (.str "none")) (.cons (.tri (.cons (.expr (.call 164 (.cons (.var 0) (.cons (.var 1) (.cons (.var 2) (.cons (.var 3) .nil)))))) .nil) (.hcons 11 (.cons (.asg (.var 4) (.str "system")) .nil) (.hcons 0 (.cons (.asg (.var 4) (.str "fraction")) .nil) (.hcons 12 (.cons (.asg (.var 4) (.str "units")) .nil) (.hcons 13 (.cons (.asg (.var 4) (.str "unlike")) .nil) .hnil))))) (.cons (.ret (.var 4)) .nil))
def c167_law_named : CS := .cons (.ret (.blt .tuple (.cons (.blt .sorted (.cons (.comp [2, 3] (.tup (.cons (.var 2) (.cons (.var 3) .nil))) (.val (.var 0)) .nil (.tup (.cons (.idx (.var 1) (.var 2)) (.cons (.var 3) .nil)))) .nil)) .nil))) .nil
def c168_law_refuses : CS := .cons (.iff (.or (.cons (.cmp .ne (.call 165 (.cons .non (.cons .non (.cons .non (.cons .non .nil))))) (.str "system")) (.cons (.cmp .ne (.call 165 (.cons (.var 0) (.cons (.tup (.cons (.int 2) (.cons (.int 4) .nil))) (.cons .non (.cons .non .nil))))) (.str "fraction")) .nil))) (.cons (.ret (.bl false)) .nil) .nil) (.cons (.forr (.var 4) (.val (.lst (.cons .non (.cons (.lst .nil) (.cons (.tup (.cons (.tup (.cons (.str "") (.cons (.int 1) .nil))) .nil)) (.cons (.tup (.cons (.tup (.cons (.idx (.idx (.var 0) (.int 0)) (.int 0)) (.cons (.int 0) .nil))) .nil)) .nil)))))) (.cons (.iff (.or (.cons (.cmp .ne (.call 165 (.cons (.var 0) (.cons (.var 1) (.cons (.var 4) (.cons (.var 3) .nil))))) (.str "units")) (.cons (.cmp .ne (.call 165 (.cons (.var 0) (.cons (.var 1) (.cons (.var 2) (.cons (.var 4) .nil))))) (.str "units")) .nil))) (.cons (.ret (.bl false)) .nil) .nil) (.cons (.iff (.cmp .ne (.call 165 (.cons (.var 0) (.cons (.int 1) (.cons (.var 4) (.cons (.var 3) .nil))))) (.str "fraction")) (.cons (.ret (.bl false)) .nil) .nil) .nil))) (.cons (.slc 5 (.comp [7, 8] (.tup (.cons (.var 7) (.cons (.var 8) .nil))) (.val (.var 0)) (.cons (.cmp .ne (.idx (.var 8) (.int 1)) (.tup .nil)) .nil) (.tup (.cons (.var 7) (.cons (.var 8) .nil))))) (.cons (.iff (.cmp .eq (.blt .len (.cons (.var 5) .nil)) (.int 0)) (.cons (.ret (.bl true)) .nil) .nil) (.cons (.asg (.var 6) (.tup (.cons (.tup (.cons (.idx (.idx (.var 5) (.int 0)) (.int 0)) (.cons (.int 1) .nil))) .nil))) (.cons (.ret (.and (.cons (.cmp .eq (.call 165 (.cons (.var 0) (.cons (.var 1) (.cons (.var 6) (.cons (.tup .nil) .nil))))) (.str "unlike")) (.cons (.cmp .eq (.call 165 (.cons (.var 0) (.cons (.var 1) (.cons (.tup .nil) (.cons (.var 6) .nil))))) (.str "unlike")) .nil)))) .nil)))))
def c169_law : CS := .cons (.asg (.var 1) (.call 20 (.cons (.var 0) .nil))) (.cons (.asg (.var 2) (.call 48 (.cons (.var 1) (.cons (.bin .add (.int 1) (.call 10 (.cons (.var 1) (.cons (.int 5) .nil)))) .nil)))) (.cons (.asg (.var 3) (.call 155 (.cons (.var 1) (.cons (.var 2) .nil)))) (.cons (.asg (.tup (.cons (.var 4) (.cons (.var 5) .nil))) (.call 166 (.cons (.var 1) (.cons (.var 3) .nil)))) (.cons (.asg (.var 6) (.call 156 (.cons (.var 1) (.cons (.var 3) (.cons (.int 8) .nil))))) (.cons (.asg (.var 7) (.call 167 (.cons (.var 6) (.cons (.var 5) .nil)))) (.cons (.asg (.var 8) (.lst .nil)) (.cons (.forr (.var 9) (.range1 (.int 2)) (.cons (.expr (.mth .append (.var 8) (.cons (.call 11 (.cons (.bin .sub (.call 10 (.cons (.var 1) (.cons (.bin .pow (.int 10) (.int 12)) .nil))) (.bin .pow (.int 10) (.int 11))) (.cons (.bin .add (.int 1) (.call 10 (.cons (.var 1) (.cons (.bin .pow (.int 10) (.int 6)) .nil)))) .nil))) .nil))) .nil)) (.cons (.asg (.tup (.cons (.var 10) (.cons (.var 11) .nil))) (.var 8)) (.cons (.iff (.or (.cons (.cmp .isnot (.call 146 (.cons (.var 4) .nil)) (.bl true)) (.cons (.cmp .ne (.call 153 (.cons (.var 4) (.cons (.var 6) .nil))) (.call 153 (.cons (.var 4) (.cons (.var 7) .nil)))) .nil))) (.cons (.ret (.bl false)) .nil) .nil) (.cons (.asg (.var 12) (.call 157 (.cons (.var 4) (.cons (.var 6) .nil)))) (.cons (.asg (.var 13) (.call 157 (.cons (.var 4) (.cons (.var 7) .nil)))) (.cons (.forr (.var 14) (.val (.bin .add (.var 8) (.lst (.cons (.tup (.cons (.int 0) (.cons (.int 1) .nil))) .nil)))) (.cons (.asg (.var 15) (.call 11 (.cons (.bin .mul (.bin .mul (.idx (.var 14) (.int 0)) (.idx (.var 12) (.int 0))) (.idx (.var 13) (.int 1))) (.cons (.bin .mul (.bin .mul (.idx (.var 14) (.int 1)) (.idx (.var 12) (.int 1))) (.idx (.var 13) (.int 0))) .nil)))) (.cons (.iff (.or (.cons (.not (.tru (.call 9 (.cons (.call 164 (.cons (.var 4) (.cons (.var 14) (.cons (.var 6) (.cons (.var 7) .nil))))) (.cons (.var 15) .nil))))) (.cons (.cmp .ne (.call 164 (.cons (.var 4) (.cons (.var 15) (.cons (.var 7) (.cons (.var 6) .nil))))) (.var 14)) .nil))) (.cons (.ret (.bl false)) .nil) .nil) (.cons (.iff (.cmp .ne (.call 164 (.cons (.var 4) (.cons (.var 14) (.cons (.var 6) (.cons (.var 6) .nil))))) (.var 14)) (.cons (.ret (.bl false)) .nil) .nil) .nil)))) (.cons (.asg (.var 16) (.call 164 (.cons (.var 4) (.cons (.call 13 (.cons (.var 10) (.cons (.var 11) .nil))) (.cons (.var 6) (.cons (.var 7) .nil)))))) (.cons (.iff (.cmp .ne (.var 16) (.call 13 (.cons (.call 164 (.cons (.var 4) (.cons (.var 10) (.cons (.var 6) (.cons (.var 7) .nil))))) (.cons (.call 164 (.cons (.var 4) (.cons (.var 11) (.cons (.var 6) (.cons (.var 7) .nil))))) .nil)))) (.cons (.ret (.bl false)) .nil) .nil) (.cons (.iff (.cmp .ne (.call 164 (.cons (.var 4) (.cons (.call 15 (.cons (.var 10) (.cons (.var 11) .nil))) (.cons (.var 6) (.cons (.var 7) .nil))))) (.call 15 (.cons (.var 10) (.cons (.call 164 (.cons (.var 4) (.cons (.var 11) (.cons (.var 6) (.cons (.var 7) .nil))))) .nil)))) (.cons (.ret (.bl false)) .nil) .nil) (.cons (.iff (.cmp .ne (.call 164 (.cons (.var 4) (.cons (.var 10) (.cons (.var 6) (.cons (.var 7) .nil))))) (.call 15 (.cons (.var 10) (.cons (.call 16 (.cons (.call 152 (.cons (.var 4) (.cons (.var 6) .nil))) (.cons (.call 152 (.cons (.var 4) (.cons (.var 7) .nil))) .nil))) .nil)))) (.cons (.ret (.bl false)) .nil) .nil) (.cons (.forr (.tup (.cons (.var 17) (.cons (.var 18) .nil))) (.val (.var 6)) (.cons (.asg (.var 19) (.call 46 (.cons (.call 46 (.cons (.var 6) (.cons (.tup (.cons (.tup (.cons (.var 17) (.cons (.var 18) .nil))) .nil)) (.cons (.bin .sub (.int 0) (.int 1)) .nil)))) (.cons (.tup (.cons (.tup (.cons (.idx (.var 5) (.var 17)) (.cons (.var 18) .nil))) .nil)) (.cons (.int 1) .nil))))) (.cons (.asg (.var 20) (.call 164 (.cons (.var 4) (.cons (.var 10) (.cons (.var 6) (.cons (.var 19) .nil)))))) (.cons (.iff (.cmp .ne (.call 164 (.cons (.var 4) (.cons (.var 20) (.cons (.var 19) (.cons (.var 7) .nil))))) (.call 164 (.cons (.var 4) (.cons (.var 10) (.cons (.var 6) (.cons (.var 7) .nil)))))) (.cons (.ret (.bl false)) .nil) .nil) .nil)))) (.cons (.ret (.call 168 (.cons (.var 4) (.cons (.var 10) (.cons (.var 6) (.cons (.var 7) .nil)))))) .nil))))))))))))))))))
def d_is_integer : FDat := ⟨0, "is_integer", ["thing"], ["thing"], defArgs (top 9), defBody (top 9), defScope (top 9), c0_is_integer⟩
def d_is_within : FDat := ⟨26, "is_within", ["thing", "low", "high"], ["thing", "low", "high"], defArgs (top 10), defBody (top 10), defScope (top 10), c26_is_within⟩
def d_divisor : FDat := ⟨1, "divisor", ["x", "y"], ["x", "y"], defArgs (top 11), defBody (top 11), defScope (top 11), c1_divisor⟩
def d_is_fraction : FDat := ⟨2, "is_fraction", ["thing"], ["thing"], defArgs (top 12), defBody (top 12), defScope (top 12), c2_is_fraction⟩
def d_made : FDat := ⟨3, "made", ["top", "bottom", "by"], ["top", "bottom"], defArgs (top 13), defBody (top 13), defScope (top 13), c3_made⟩
def d_check_fraction : FDat := ⟨4, "check_fraction", ["thing"], ["thing"], defArgs (top 14), defBody (top 14), defScope (top 14), c4_check_fraction⟩
def d_raw_plus : FDat := ⟨5, "raw_plus", ["x", "y"], ["x", "y"], defArgs (top 15), defBody (top 15), defScope (top 15), c5_raw_plus⟩
def d_raw_times : FDat := ⟨7, "raw_times", ["x", "y"], ["x", "y"], defArgs (top 16), defBody (top 16), defScope (top 16), c7_raw_times⟩
def d_raw_by : FDat := ⟨8, "raw_by", ["x", "y"], ["x", "y"], defArgs (top 17), defBody (top 17), defScope (top 17), c8_raw_by⟩
def d_plus : FDat := ⟨13, "plus", ["x", "y"], ["x", "y"], defArgs (top 18), defBody (top 18), defScope (top 18), c13_plus⟩
def d_times : FDat := ⟨15, "times", ["x", "y"], ["x", "y"], defArgs (top 19), defBody (top 19), defScope (top 19), c15_times⟩
def d_by : FDat := ⟨16, "by", ["x", "y"], ["x", "y"], defArgs (top 20), defBody (top 20), defScope (top 20), c16_by⟩
def d_raw_power : FDat := ⟨25, "raw_power", ["x", "n", "found", "rest", "part"], ["x", "n"], defArgs (top 21), defBody (top 21), defScope (top 21), c25_raw_power⟩
def d_is_name : FDat := ⟨34, "is_name", ["thing", "sign"], ["thing"], defArgs (top 25), defBody (top 25), defScope (top 25), c34_is_name⟩
def d_are_named_pairs : FDat := ⟨35, "are_named_pairs", ["thing", "at", "pair"], ["thing"], defArgs (top 26), defBody (top 26), defScope (top 26), c35_are_named_pairs⟩
def d_is_dimension : FDat := ⟨36, "is_dimension", ["thing", "base", "n"], ["thing"], defArgs (top 27), defBody (top 27), defScope (top 27), c36_is_dimension⟩
def d_raw_together : FDat := ⟨38, "raw_together", ["one", "other", "sign", "found", "base", "n"], ["one", "other", "sign"], defArgs (top 28), defBody (top 28), defScope (top 28), c38_raw_together⟩
def d_raw_raised : FDat := ⟨39, "raw_raised", ["one", "n", "base", "many"], ["one", "n"], defArgs (top 29), defBody (top 29), defScope (top 29), c39_raw_raised⟩
def d_is_plain_dimension : FDat := ⟨94, "is_plain_dimension", ["thing", "base", "n"], ["thing"], defArgs (top 33), defBody (top 33), defScope (top 33), c94_is_plain_dimension⟩
def d_is_told_unit : FDat := ⟨145, "is_told_unit", ["thing"], ["thing"], defArgs (top 36), defBody (top 36), defScope (top 36), c145_is_told_unit⟩
def d_is_system : FDat := ⟨146, "is_system", ["thing", "unit", "one"], ["thing"], defArgs (top 37), defBody (top 37), defScope (top 37), c146_is_system⟩
def d_check_system : FDat := ⟨147, "check_system", ["system"], ["system"], defArgs (top 38), defBody (top 38), defScope (top 38), c147_check_system⟩
def d_raw_are_units : FDat := ⟨148, "raw_are_units", ["system", "thing", "known", "unit", "n"], ["system", "thing"], defArgs (top 39), defBody (top 39), defScope (top 39), c148_raw_are_units⟩
def d_check_units : FDat := ⟨149, "check_units", ["system", "units"], ["system", "units"], defArgs (top 40), defBody (top 40), defScope (top 40), c149_check_units⟩
def d_raw_factor : FDat := ⟨150, "raw_factor", ["system", "units", "known", "found", "unit", "n"], ["system", "units"], defArgs (top 41), defBody (top 41), defScope (top 41), c150_raw_factor⟩
def d_raw_dimension : FDat := ⟨151, "raw_dimension", ["system", "units", "known", "found", "unit", "n"], ["system", "units"], defArgs (top 42), defBody (top 42), defScope (top 42), c151_raw_dimension⟩
def d_factor_of : FDat := ⟨152, "factor_of", ["system", "units"], ["system", "units"], defArgs (top 43), defBody (top 43), defScope (top 43), c152_factor_of⟩
def d_dimension_in : FDat := ⟨153, "dimension_in", ["system", "units"], ["system", "units"], defArgs (top 44), defBody (top 44), defScope (top 44), c153_dimension_in⟩
def d_raw_converted : FDat := ⟨163, "raw_converted", ["system", "x", "units", "others"], ["system", "x", "units", "others"], defArgs (top 45), defBody (top 45), defScope (top 45), c163_raw_converted⟩
def d_converted : FDat := ⟨164, "converted", ["system", "x", "units", "others"], ["system", "x", "units", "others"], defArgs (top 46), defBody (top 46), defScope (top 46), c164_converted⟩
def d__law_hand : FDat := ⟨20, "_law_hand", ["script", "cells", "cell"], ["script"], defArgs (top 48), defBody (top 48), defScope (top 48), c20_law_hand⟩
def d__law_draw : FDat := ⟨10, "_law_draw", ["hand", "many", "cell", "digit", "number"], ["hand", "many"], defArgs (top 49), defBody (top 49), defScope (top 49), c10_law_draw⟩
def d__law_is : FDat := ⟨9, "_law_is", ["got", "due", "one", "other"], ["got", "due"], defArgs (top 50), defBody (top 50), defScope (top 50), c9_law_is⟩
def d__law_low : FDat := ⟨11, "_law_low", ["top", "bottom", "one", "other", "rest"], ["top", "bottom"], defArgs (top 51), defBody (top 51), defScope (top 51), c11_law_low⟩
def d__law_names : FDat := ⟨48, "_law_names", ["hand", "many", "letters", "found", "_", "name"], ["hand", "many"], defArgs (top 52), defBody (top 52), defScope (top 52), c48_law_names⟩
def d__law_size : FDat := ⟨49, "_law_size", ["hand", "names", "most", "found", "name", "power"], ["hand", "names", "most"], defArgs (top 53), defBody (top 53), defScope (top 53), c49_law_size⟩
def d__law_added : FDat := ⟨46, "_law_added", ["one", "other", "sign", "sums", "name", "power"], ["one", "other", "sign"], defArgs (top 54), defBody (top 54), defScope (top 54), c46_law_added⟩
def d__law_system : FDat := ⟨155, "_law_system", ["hand", "names", "found", "unit", "factor"], ["hand", "names"], defArgs (top 55), defBody (top 55), defScope (top 55), c155_law_system⟩
def d__law_units : FDat := ⟨156, "_law_units", ["hand", "system", "most", "found", "unit", "told", "power"], ["hand", "system", "most"], defArgs (top 56), defBody (top 56), defScope (top 56), c156_law_units⟩
def d__law_factor : FDat := ⟨157, "_law_factor", ["system", "units", "known", "top", "bottom", "unit", "power", "factor", "_"], ["system", "units"], defArgs (top 57), defBody (top 57), defScope (top 57), c157_law_factor⟩
def d__law_doubled : FDat := ⟨166, "_law_doubled", ["hand", "system", "names", "known", "free", "found", "unit", "told", "name"], ["hand", "system"], defArgs (top 58), defBody (top 58), defScope (top 58), c166_law_doubled⟩
def d__law_told : FDat := ⟨165, "_law_told", ["system", "x", "units", "others", "told"], ["system", "x", "units", "others"], defArgs (top 59), defBody (top 59), defScope (top 59), c165_law_told⟩
def d__law_named : FDat := ⟨167, "_law_named", ["units", "names", "unit", "power"], ["units", "names"], defArgs (top 60), defBody (top 60), defScope (top 60), c167_law_named⟩
def d__law_refuses : FDat := ⟨168, "_law_refuses", ["system", "x", "units", "others", "wrong", "strange", "one", "unit", "told"], ["system", "x", "units", "others"], defArgs (top 61), defBody (top 61), defScope (top 61), c168_law_refuses⟩
def d_law : FDat := ⟨169, "law", ["script", "hand", "names", "first", "system", "anew", "units", "others", "shares", "_", "one", "other", "mine", "yours", "x", "due", "both", "unit", "power", "third", "half"], ["script"], defArgs (top 62), defBody (top 62), defScope (top 62), c169_law⟩
def L : Law := ⟨[d_is_integer, d_is_within, d_divisor, d_is_fraction, d_made, d_check_fraction, d_raw_plus, d_raw_times, d_raw_by, d_plus, d_times, d_by, d_raw_power, d_is_name, d_are_named_pairs, d_is_dimension, d_raw_together, d_raw_raised, d_is_plain_dimension, d_is_told_unit, d_is_system, d_check_system, d_raw_are_units, d_check_units, d_raw_factor, d_raw_dimension, d_factor_of, d_dimension_in, d_raw_converted, d_converted, d__law_hand, d__law_draw, d__law_is, d__law_low, d__law_names, d__law_size, d__law_added, d__law_system, d__law_units, d__law_factor, d__law_doubled, d__law_told, d__law_named, d__law_refuses, d_law],
  [(0, "NoFraction"), (1, "Zero"), (11, "NoSystem"), (12, "NoUnits"), (13, "Unlike")], ["abs", "all", "bool", "dict", "int", "isinstance", "len", "list", "range", "sorted", "str", "tuple", "zip"], [(4, "ONE", .tup [.int 1, .int 1]), (0, "MOST_NAME", .int 8), (1, "LETTERS", .str "abcdefghijklmnopqrstuvwxyz"), (7, "MOST_BASES", .int 6), (8, "MOST_EXPONENT", .int 9), (19, "MOST_UNITS", .int 20)], fun c d => [(0, 0), (1, 1), (11, 11), (12, 12), (13, 13)].contains (c, d)⟩
theorem nd : (L.F.map (·.id)).Nodup := by decide +kernel
theorem chk0 : (L.F.all fun d => d.chk L.T) = true := by decide +kernel
theorem chk : ∀ d ∈ L.F, d.chk L.T = true := List.all_eq_true.mp chk0
theorem b_is_integer : BindOk d_is_integer := fun _ _ _ _ _ _ us hl => match us, hl with | [_], _ => rfl
theorem b_is_within : BindOk d_is_within := fun _ _ _ _ _ _ us hl => match us, hl with | [_, _, _], _ => rfl
theorem b_divisor : BindOk d_divisor := fun _ _ _ _ _ _ us hl => match us, hl with | [_, _], _ => rfl
theorem b_is_fraction : BindOk d_is_fraction := fun _ _ _ _ _ _ us hl => match us, hl with | [_], _ => rfl
theorem b_made : BindOk d_made := fun _ _ _ _ _ _ us hl => match us, hl with | [_, _], _ => rfl
theorem b_check_fraction : BindOk d_check_fraction := fun _ _ _ _ _ _ us hl => match us, hl with | [_], _ => rfl
theorem b_raw_plus : BindOk d_raw_plus := fun _ _ _ _ _ _ us hl => match us, hl with | [_, _], _ => rfl
theorem b_raw_times : BindOk d_raw_times := fun _ _ _ _ _ _ us hl => match us, hl with | [_, _], _ => rfl
theorem b_raw_by : BindOk d_raw_by := fun _ _ _ _ _ _ us hl => match us, hl with | [_, _], _ => rfl
theorem b_plus : BindOk d_plus := fun _ _ _ _ _ _ us hl => match us, hl with | [_, _], _ => rfl
theorem b_times : BindOk d_times := fun _ _ _ _ _ _ us hl => match us, hl with | [_, _], _ => rfl
theorem b_by : BindOk d_by := fun _ _ _ _ _ _ us hl => match us, hl with | [_, _], _ => rfl
theorem b_raw_power : BindOk d_raw_power := fun _ _ _ _ _ _ us hl => match us, hl with | [_, _], _ => rfl
theorem b_is_name : BindOk d_is_name := fun _ _ _ _ _ _ us hl => match us, hl with | [_], _ => rfl
theorem b_are_named_pairs : BindOk d_are_named_pairs := fun _ _ _ _ _ _ us hl => match us, hl with | [_], _ => rfl
theorem b_is_dimension : BindOk d_is_dimension := fun _ _ _ _ _ _ us hl => match us, hl with | [_], _ => rfl
theorem b_raw_together : BindOk d_raw_together := fun _ _ _ _ _ _ us hl => match us, hl with | [_, _, _], _ => rfl
theorem b_raw_raised : BindOk d_raw_raised := fun _ _ _ _ _ _ us hl => match us, hl with | [_, _], _ => rfl
theorem b_is_plain_dimension : BindOk d_is_plain_dimension := fun _ _ _ _ _ _ us hl => match us, hl with | [_], _ => rfl
theorem b_is_told_unit : BindOk d_is_told_unit := fun _ _ _ _ _ _ us hl => match us, hl with | [_], _ => rfl
theorem b_is_system : BindOk d_is_system := fun _ _ _ _ _ _ us hl => match us, hl with | [_], _ => rfl
theorem b_check_system : BindOk d_check_system := fun _ _ _ _ _ _ us hl => match us, hl with | [_], _ => rfl
theorem b_raw_are_units : BindOk d_raw_are_units := fun _ _ _ _ _ _ us hl => match us, hl with | [_, _], _ => rfl
theorem b_check_units : BindOk d_check_units := fun _ _ _ _ _ _ us hl => match us, hl with | [_, _], _ => rfl
theorem b_raw_factor : BindOk d_raw_factor := fun _ _ _ _ _ _ us hl => match us, hl with | [_, _], _ => rfl
theorem b_raw_dimension : BindOk d_raw_dimension := fun _ _ _ _ _ _ us hl => match us, hl with | [_, _], _ => rfl
theorem b_factor_of : BindOk d_factor_of := fun _ _ _ _ _ _ us hl => match us, hl with | [_, _], _ => rfl
theorem b_dimension_in : BindOk d_dimension_in := fun _ _ _ _ _ _ us hl => match us, hl with | [_, _], _ => rfl
theorem b_raw_converted : BindOk d_raw_converted := fun _ _ _ _ _ _ us hl => match us, hl with | [_, _, _, _], _ => rfl
theorem b_converted : BindOk d_converted := fun _ _ _ _ _ _ us hl => match us, hl with | [_, _, _, _], _ => rfl
theorem b__law_hand : BindOk d__law_hand := fun _ _ _ _ _ _ us hl => match us, hl with | [_], _ => rfl
theorem b__law_draw : BindOk d__law_draw := fun _ _ _ _ _ _ us hl => match us, hl with | [_, _], _ => rfl
theorem b__law_is : BindOk d__law_is := fun _ _ _ _ _ _ us hl => match us, hl with | [_, _], _ => rfl
theorem b__law_low : BindOk d__law_low := fun _ _ _ _ _ _ us hl => match us, hl with | [_, _], _ => rfl
theorem b__law_names : BindOk d__law_names := fun _ _ _ _ _ _ us hl => match us, hl with | [_, _], _ => rfl
theorem b__law_size : BindOk d__law_size := fun _ _ _ _ _ _ us hl => match us, hl with | [_, _, _], _ => rfl
theorem b__law_added : BindOk d__law_added := fun _ _ _ _ _ _ us hl => match us, hl with | [_, _, _], _ => rfl
theorem b__law_system : BindOk d__law_system := fun _ _ _ _ _ _ us hl => match us, hl with | [_, _], _ => rfl
theorem b__law_units : BindOk d__law_units := fun _ _ _ _ _ _ us hl => match us, hl with | [_, _, _], _ => rfl
theorem b__law_factor : BindOk d__law_factor := fun _ _ _ _ _ _ us hl => match us, hl with | [_, _], _ => rfl
theorem b__law_doubled : BindOk d__law_doubled := fun _ _ _ _ _ _ us hl => match us, hl with | [_, _], _ => rfl
theorem b__law_told : BindOk d__law_told := fun _ _ _ _ _ _ us hl => match us, hl with | [_, _, _, _], _ => rfl
theorem b__law_named : BindOk d__law_named := fun _ _ _ _ _ _ us hl => match us, hl with | [_, _], _ => rfl
theorem b__law_refuses : BindOk d__law_refuses := fun _ _ _ _ _ _ us hl => match us, hl with | [_, _, _, _], _ => rfl
theorem b_law : BindOk d_law := fun _ _ _ _ _ _ us hl => match us, hl with | [_], _ => rfl
theorem bd : ∀ d ∈ L.F, BindOk d := (List.forall_mem_cons.mpr ⟨b_is_integer, (List.forall_mem_cons.mpr ⟨b_is_within, (List.forall_mem_cons.mpr ⟨b_divisor, (List.forall_mem_cons.mpr ⟨b_is_fraction, (List.forall_mem_cons.mpr ⟨b_made, (List.forall_mem_cons.mpr ⟨b_check_fraction, (List.forall_mem_cons.mpr ⟨b_raw_plus, (List.forall_mem_cons.mpr ⟨b_raw_times, (List.forall_mem_cons.mpr ⟨b_raw_by, (List.forall_mem_cons.mpr ⟨b_plus, (List.forall_mem_cons.mpr ⟨b_times, (List.forall_mem_cons.mpr ⟨b_by, (List.forall_mem_cons.mpr ⟨b_raw_power, (List.forall_mem_cons.mpr ⟨b_is_name, (List.forall_mem_cons.mpr ⟨b_are_named_pairs, (List.forall_mem_cons.mpr ⟨b_is_dimension, (List.forall_mem_cons.mpr ⟨b_raw_together, (List.forall_mem_cons.mpr ⟨b_raw_raised, (List.forall_mem_cons.mpr ⟨b_is_plain_dimension, (List.forall_mem_cons.mpr ⟨b_is_told_unit, (List.forall_mem_cons.mpr ⟨b_is_system, (List.forall_mem_cons.mpr ⟨b_check_system, (List.forall_mem_cons.mpr ⟨b_raw_are_units, (List.forall_mem_cons.mpr ⟨b_check_units, (List.forall_mem_cons.mpr ⟨b_raw_factor, (List.forall_mem_cons.mpr ⟨b_raw_dimension, (List.forall_mem_cons.mpr ⟨b_factor_of, (List.forall_mem_cons.mpr ⟨b_dimension_in, (List.forall_mem_cons.mpr ⟨b_raw_converted, (List.forall_mem_cons.mpr ⟨b_converted, (List.forall_mem_cons.mpr ⟨b__law_hand, (List.forall_mem_cons.mpr ⟨b__law_draw, (List.forall_mem_cons.mpr ⟨b__law_is, (List.forall_mem_cons.mpr ⟨b__law_low, (List.forall_mem_cons.mpr ⟨b__law_names, (List.forall_mem_cons.mpr ⟨b__law_size, (List.forall_mem_cons.mpr ⟨b__law_added, (List.forall_mem_cons.mpr ⟨b__law_system, (List.forall_mem_cons.mpr ⟨b__law_units, (List.forall_mem_cons.mpr ⟨b__law_factor, (List.forall_mem_cons.mpr ⟨b__law_doubled, (List.forall_mem_cons.mpr ⟨b__law_told, (List.forall_mem_cons.mpr ⟨b__law_named, (List.forall_mem_cons.mpr ⟨b__law_refuses, (List.forall_mem_cons.mpr ⟨b_law, (fun _ h => nomatch h)⟩)⟩)⟩)⟩)⟩)⟩)⟩)⟩)⟩)⟩)⟩)⟩)⟩)⟩)⟩)⟩)⟩)⟩)⟩)⟩)⟩)⟩)⟩)⟩)⟩)⟩)⟩)⟩)⟩)⟩)⟩)⟩)⟩)⟩)⟩)⟩)⟩)⟩)⟩)⟩)⟩)⟩)⟩)⟩)⟩)
end K40

namespace K40
open PySem PySem.Spec PyProof.Rows L2 PL
abbrev G : Pg := L.pg
theorem k9 : G.code 9 = some f9 := rfl
theorem k10 : G.code 10 = some f10 := rfl
theorem k11 : G.code 11 = some f11 := rfl
theorem k13 : G.code 13 = some f13 := rfl
theorem k5 : G.code 5 = some f5 := rfl
theorem k15 : G.code 15 = some f15 := rfl
theorem k16 : G.code 16 = some f16 := rfl
theorem k20 : G.code 20 = some f20 := rfl
theorem k46 : G.code 46 = some f46 := rfl
theorem k48 : G.code 48 = some f48 := rfl
theorem k49 : G.code 49 = some f49 := rfl
theorem k155 : G.code 155 = some f155 := rfl
theorem k156 : G.code 156 = some f156 := rfl
theorem k157 : G.code 157 = some f157 := rfl
theorem k163 : G.code 163 = some ⟨4, 4, c163_raw_converted⟩ := rfl
theorem k164 : G.code 164 = some ⟨4, 4, c164_converted⟩ := rfl
theorem k165 : G.code 165 = some ⟨4, 5, c165_law_told⟩ := rfl
theorem k166 : G.code 166 = some ⟨2, 9, c166_law_doubled⟩ := rfl
theorem k167 : G.code 167 = some ⟨2, 4, c167_law_named⟩ := rfl
theorem k168 : G.code 168 = some ⟨4, 9, c168_law_refuses⟩ := rfl
theorem klaw : G.code 169 = some ⟨1, 21, c169_law⟩ := rfl
theorem CD : CDn G := ⟨rfl, rfl, rfl, rfl, rfl, rfl, rfl⟩
theorem CF' : CFm G := ⟨rfl, rfl, rfl, rfl, rfl, rfl⟩
theorem CU : CUn G := ⟨rfl, rfl, rfl, rfl, rfl, rfl, rfl, rfl, rfl, rfl, rfl, rfl, rfl, rfl, rfl, rfl, rfl, rfl⟩
variable {n : Nat} {Q : AQ} {E : AXQ} {h : AH}
abbrev Vok (s : Sy) (d : Dm) : Prop := DOk (s.map (·.1)) 2 d
theorem le3 {s : Sy} {d : Dm} (o : Vok s d) : ∀ p ∈ d, p.2.natAbs ≤ 3 := fun p hp => by
  have := (o.nz p hp).2
  omega
theorem uok {s : Sy} {d : Dm} (o : Vok s d) : Uok s d := ⟨o.mono (by decide), fun p hp => by have := le3 o p hp; omega⟩
theorem sz_v {U N : List Str} {s : Sy} {d : Dm} (o : Sok U N s) (hl : s.length ≤ 16) (ou : Vok s d) : Sz 700 (sprod (facs s) d) := by
  refine (sz_sprod (M := U) (b := 4) (m := 3) o.ok.fac (by decide) (le3 ou)).mono ?_
  have := ou.len
  rw [List.length_map] at this
  have : d.length * (14 * 3 + 1) ≤ 16 * 43 := Nat.mul_le_mul (by omega) (by decide)
  omega
theorem ne_v {U N : List Str} {s : Sy} (o : Sok U N s) (d : Dm) : sprod (facs s) d ≠ 0 := sprod_ne o.ok.fac d
theorem raw_converted_spec {U N : List Str} {s : Sy} {x : Rat} {a : Nat} {d e : Dm} (o : Sok U N s) (hl : s.length ≤ 16) (sx : Sz a x) (ha : 0 < a) (ha2 : a ≤ 6000) (od : Vok s d) (oe : Vok s e) (hq : Q (fr (x * sprod (facs s) d / sprod (facs s) e)) h) : wpC G (n + 7) 163 [sy s, fr x, dm d, dm e] h Q E := by
  refine call_i k163 rfl ?_
  unfold c163_raw_converted
  have l1 := (uok od).len o
  have l2 := (uok oe).len o
  have s1 := sz_v o hl od
  have s2 := sz_v o hl oe
  bv_omega
  refine raw_factor_spec (n := n) (m := 3) CF' CU o.ok (by decide) (by decide) (le3 od) od.sub (by decide) (by omega) ?_
  refine raw_times_spec (n := n + 3) CF'.c1 CF'.c3 CF'.c7 sx s1 ha (by decide) (by omega) ?_
  refine raw_factor_spec (n := n) (m := 3) CF' CU o.ok (by decide) (by decide) (le3 oe) oe.sub (by decide) (by omega) ?_
  exact raw_by_spec (n := n + 3) CF'.c1 CF'.c3 CU.c8 (sz_mul sx s1) s2 (ne_v o e) (by omega) (by decide) (by omega) (shr_i hq)
def Like (s : Sy) (d e : Dm) : Prop := ∀ b, usum s b d = usum s b e
theorem conv_gen {U N : List Str} {s : Sy} {x : Rat} {a : Nat} {d e : Dm} (o : Sok U N s) (hl : s.length ≤ 16) (sx : Sz a x) (ha : 0 < a) (ha2 : a ≤ 6000) (od : Vok s d) (oe : Vok s e)
    (hq : Like s d e → Q (fr (x * sprod (facs s) d / sprod (facs s) e)) h) (he : ¬ Like s d e → E ⟨13, []⟩ h) : wpC G (n + 8) 164 [sy s, fr x, dm d, dm e] h Q E := by
  refine call_i k164 rfl ?_
  unfold c164_converted
  have l1 := (uok od).len o
  have l2 := (uok oe).len o
  bv_omega
  refine check_sy (n := n) CD CF' CU o ?_
  refine is_fraction_spec (n := n + 5) CF'.c0 CF'.c1 CF'.c2 fr_Tyd ?_
  rw [isFr_fr]
  bv_omega
  refine check_units_spec (n := n + 3) CD CU o.ok.asc.nks (dty_dm o.keys od) (fun _ => ?_) fun e => by rw [(uok od).isUn o] at e; cases e
  refine check_units_spec (n := n + 3) CD CU o.ok.asc.nks (dty_dm o.keys oe) (fun _ => ?_) fun e => by rw [(uok oe).isUn o] at e; cases e
  refine raw_dimension_spec (n := n + 5) (j := 2) CD CU o.nN o.ok (by decide) (by decide) (by decide) (by decide) (fun p hp => (od.nz p hp).2) od.sub (by omega) fun D1 o1 v1 => ?_
  refine raw_dimension_spec (n := n + 5) (j := 2) CD CU o.nN o.ok (by decide) (by decide) (by decide) (by decide) (fun p hp => (oe.nz p hp).2) oe.sub (by omega) fun D2 o2 v2 => ?_
  refine eq_dm o.nN o.nN o1 o2 ?_
  by_cases eD : D1 = D2
  · simp only [eD, decide_true]
    bv_omega
    refine raw_converted_spec (n := n) o hl sx ha ha2 od oe (shr_i (hq fun b => ?_))
    rw [← v1, ← v2, eD]
  · simp only [eD, decide_false]
    bv_omega
    refine shr_i (he fun hk => eD (ext_dm o1 o2 fun b => ?_))
    rw [v1, v2, hk b]
theorem conv {U N : List Str} {s : Sy} {x : Rat} {a : Nat} {d e : Dm} (o : Sok U N s) (hl : s.length ≤ 16) (sx : Sz a x) (ha : 0 < a) (ha2 : a ≤ 6000) (od : Vok s d) (oe : Vok s e) (lk : Like s d e) (hq : Q (fr (x * sprod (facs s) d / sprod (facs s) e)) h) : wpC G (n + 8) 164 [sy s, fr x, dm d, dm e] h Q E :=
  conv_gen o hl sx ha ha2 od oe (fun _ => hq) fun hn => absurd lk hn
theorem told_unlike {U N : List Str} {s : Sy} {x : Rat} {a : Nat} {d e : Dm} (o : Sok U N s) (hl : s.length ≤ 16) (sx : Sz a x) (ha : 0 < a) (ha2 : a ≤ 6000) (od : Vok s d) (oe : Vok s e) (lk : ¬ Like s d e) (hq : Q (.str "unlike") h) : wpC G (n + 9) 165 [sy s, fr x, dm d, dm e] h Q E := by
  refine call_i k165 rfl ?_
  unfold c165_law_told
  bv_omega
  refine conv_gen (n := n) o hl sx ha ha2 od oe (fun hk => absurd hk lk) fun _ => ?_
  bv_omega
  have e1 : G.sub 13 11 = false := by decide
  have e2 : G.sub 13 0 = false := by decide
  have e3 : G.sub 13 12 = false := by decide
  have e4 : G.sub 13 13 = true := by decide
  simp only [e1, e2, e3, e4]
  bv_omega
  exact shr_i hq
theorem told_system {v x d e : AV} (hv : DTy h v) (hb : isSys v = false) (hq : Q (.str "system") h) : wpC G (n + 9) 165 [v, x, d, e] h Q E := by
  refine call_i k165 rfl ?_
  unfold c165_law_told
  bv_omega
  refine call_i k164 rfl ?_
  unfold c164_converted
  bv_omega
  refine check_system_spec (n := n) CD CF' CU hv (fun e => by rw [hb] at e; cases e) fun _ => ?_
  bv_omega
  have e1 : G.sub 11 11 = true := by decide
  simp only [e1]
  bv_omega
  exact shr_i (shr_i hq)
theorem told_fraction {U N : List Str} {s : Sy} {x d e : AV} (o : Sok U N s) (hx : TydT h x) (hb : isFr x = false) (hq : Q (.str "fraction") h) : wpC G (n + 9) 165 [sy s, x, d, e] h Q E := by
  refine call_i k165 rfl ?_
  unfold c165_law_told
  bv_omega
  refine call_i k164 rfl ?_
  unfold c164_converted
  bv_omega
  refine check_sy (n := n) CD CF' CU o ?_
  refine is_fraction_spec (n := n + 5) CF'.c0 CF'.c1 CF'.c2 hx ?_
  rw [hb]
  bv_omega
  have e1 : G.sub 0 11 = false := by decide
  have e2 : G.sub 0 0 = true := by decide
  simp only [e1, e2]
  bv_omega
  exact shr_i (shr_i hq)
theorem told_u1 {U N : List Str} {s : Sy} {x : Rat} {d e : AV} (o : Sok U N s) (hd : DTy h d) (hb : isUn (s.map (·.1)) d = false) (hq : Q (.str "units") h) : wpC G (n + 9) 165 [sy s, fr x, d, e] h Q E := by
  refine call_i k165 rfl ?_
  unfold c165_law_told
  bv_omega
  refine call_i k164 rfl ?_
  unfold c164_converted
  bv_omega
  refine check_sy (n := n) CD CF' CU o ?_
  refine is_fraction_spec (n := n + 5) CF'.c0 CF'.c1 CF'.c2 fr_Tyd ?_
  rw [isFr_fr]
  bv_omega
  refine check_units_spec (n := n + 3) CD CU o.ok.asc.nks hd (fun e => by rw [hb] at e; cases e) fun _ => ?_
  have e1 : G.sub 12 11 = false := by decide
  have e2 : G.sub 12 0 = false := by decide
  have e3 : G.sub 12 12 = true := by decide
  bv_omega
  simp only [e1, e2, e3]
  bv_omega
  exact shr_i (shr_i hq)
theorem told_u2 {U N : List Str} {s : Sy} {x : Rat} {d : Dm} {e : AV} (o : Sok U N s) (od : Vok s d) (hd : DTy h e) (hb : isUn (s.map (·.1)) e = false) (hq : Q (.str "units") h) : wpC G (n + 9) 165 [sy s, fr x, dm d, e] h Q E := by
  refine call_i k165 rfl ?_
  unfold c165_law_told
  bv_omega
  refine call_i k164 rfl ?_
  unfold c164_converted
  bv_omega
  refine check_sy (n := n) CD CF' CU o ?_
  refine is_fraction_spec (n := n + 5) CF'.c0 CF'.c1 CF'.c2 fr_Tyd ?_
  rw [isFr_fr]
  bv_omega
  refine check_units_spec (n := n + 3) CD CU o.ok.asc.nks (dty_dm o.keys od) (fun _ => ?_) fun e => by rw [(uok od).isUn o] at e; cases e
  refine check_units_spec (n := n + 3) CD CU o.ok.asc.nks hd (fun e => by rw [hb] at e; cases e) fun _ => ?_
  have e1 : G.sub 12 11 = false := by decide
  have e2 : G.sub 12 0 = false := by decide
  have e3 : G.sub 12 12 = true := by decide
  bv_omega
  simp only [e1, e2, e3]
  bv_omega
  exact shr_i (shr_i hq)
theorem perm_map {α β : Type} {f : α → β} : ∀ {l : List α} {ys : List β}, ys.Perm (l.map f) → ∃ l' : List α, l'.Perm l ∧ l'.map f = ys := by
  intro l ys p
  generalize e : l.map f = zs at p
  have p' := p.symm
  clear p
  induction p' generalizing l with
  | nil => exact ⟨l, List.Perm.refl _, e⟩
  | cons x p ih =>
    cases l with
    | nil => cases e
    | cons a l =>
      rw [List.map_cons] at e
      obtain ⟨e1, e2⟩ := List.cons.inj e
      obtain ⟨l', p1, e3⟩ := ih e2
      exact ⟨a :: l', p1.cons a, by rw [List.map_cons, e1, e3]⟩
  | swap x y l0 =>
    match l, e with
    | a :: b :: l, e =>
      simp only [List.map_cons] at e
      obtain ⟨e1, e2⟩ := List.cons.inj e
      obtain ⟨e2, e3⟩ := List.cons.inj e2
      exact ⟨b :: a :: l, List.Perm.swap a b l, by simp only [List.map_cons, e1, e2, e3]⟩
  | trans p q ihp ihq =>
    obtain ⟨l1, p1, e1⟩ := ihp e
    obtain ⟨l2, p2, e2⟩ := ihq e1
    exact ⟨l2, p2.trans p1, e2⟩
def dbls : List Str := "aa" :: "bb" :: "cc" :: "dd" :: "ee" :: "ff" :: "gg" :: "hh" :: "ii" :: "jj" :: "kk" :: "ll" :: "mm" :: "nn" :: "oo" :: "pp" :: []
theorem dbls_nd : dbls.Nodup := by decide +kernel
theorem dbls_ok : ∀ s ∈ dbls, nameOk s = true := by decide +kernel
def freeF (ks : List Str) : List Str := dbls.filter fun s => decide (s ∉ ks)
theorem free_len (ks : List Str) : 16 ≤ (freeF ks).length + ks.length := by
  have h : ∀ l : List Str, l.Nodup → l.length ≤ (l.filter fun s => decide (s ∉ ks)).length + ks.length := by
    intro l hn
    have h1 : ((l.filter fun s => decide (s ∈ ks)).length) ≤ ks.length := len_nodup_sub (hn.filter _) fun x hx => of_decide_eq_true (List.mem_filter.mp hx).2
    have h2 : (l.filter fun s => decide (s ∈ ks)).length + (l.filter fun s => decide (s ∉ ks)).length = l.length := by
      have : ∀ m : List Str, (m.filter fun s => decide (s ∈ ks)).length + (m.filter fun s => decide (s ∉ ks)).length = m.length := by
        intro m
        induction m with
        | nil => rfl
        | cons x m ih =>
          rw [List.filter_cons, List.filter_cons]
          by_cases hx : x ∈ ks <;> simp [hx] <;> simp at ih <;> omega
      exact this l
    omega
  exact h dbls dbls_nd
theorem filt_free (ks : List Str) : ∀ l : List Str, (l.map AV.str).filterMap (notF ks) = (l.filter fun s => decide (s ∉ ks)).map .str := filt_not ks
structure Dbl (s S : Sy) (A : NM Str) : Prop where
  mem : ∀ p ∈ s, p ∈ S
  an : ∀ p ∈ s, ∃ a f, A.lookup p.1 = some a ∧ (a, (f, p.2.2)) ∈ S ∧ a ∉ s.map (·.1)
  inj : ∀ x ∈ s.map (·.1), ∀ y ∈ s.map (·.1), A.lookup x = A.lookup y → x = y
  len : S.length ≤ 16
theorem doubled_spec {a c : Addr} {M : Nat} {U ys : List Str} {s : Sy} (w : HandOk h a M c) (hM : M + 100 < 2 ^ 60) (o : Sok U ys s) (hl : s.length ≤ 8)
    (hq : ∀ (V : List Str) (S : Sy) (A : NM Str) (p : Addr) (h' : AH), Go h h' a c (M + 20) → Sok V ys S → Dbl s S A → h' p = some (.dK (A.map (kvf .str))) → p ≠ a → Q (.tup [sy S, .ref p]) h') : wpC G (n + 2) 166 [.ref a, sy s] h Q E := by
  refine call_i k166 rfl ?_
  unfold c166_law_doubled
  have CM := wpC_mono G (n + 1)
  refine wp_cut CM (fun σ h1 => ∃ p, h p = none ∧ σ = [some (.ref a), some (sy s), some (.ref p), none, none, none, none, none, none] ∧ h1 = aupd h p (.dK [])) ?_ ?_
  · bv_omega
    exact fun p hp => ⟨p, hp, rfl, rfl⟩
  rintro σ h1 ⟨p2, n2, rfl, rfl⟩
  obtain ⟨p2a, p2c⟩ := w.new n2
  have g0 := (Go.refl w).fresh (o := .dK []) n2
  have e20 : aupd h p2 (.dK []) p2 = some (.dK []) := aupd_same
  generalize aupd h p2 (.dK []) = h1 at g0 e20
  refine wp_cut CM (fun σ h2 => ∃ p3, h1 p3 = none ∧ σ = [some (.ref a), some (sy s), some (.ref p2), some (.ref p3), none, none, none, none, none] ∧ h2 = aupd h1 p3 (.dK (s.map (kvf uv)))) ?_ ?_
  · bv_omega
    exact dict_np o.ok.asc.nks fun p hp => ⟨p, hp, rfl, rfl⟩
  rintro σ h2 ⟨p3, n3, rfl, rfl⟩
  have p23 : p2 ≠ p3 := fun z => by subst z; rw [e20] at n3; cases n3
  have g1 := g0.fresh (o := .dK (s.map (kvf uv))) n3
  have e21 : aupd h1 p3 (.dK (s.map (kvf uv))) p2 = some (.dK []) := by rw [aupd_ne p23]; exact e20
  have e31 : aupd h1 p3 (.dK (s.map (kvf uv))) p3 = some (.dK (s.map (kvf uv))) := aupd_same
  generalize aupd h1 p3 (.dK (s.map (kvf uv))) = h2 at g1 e21 e31
  refine wp_cut CM (fun σ h3 => ∃ p4, h2 p4 = none ∧ σ = [some (.ref a), some (sy s), some (.ref p2), some (.ref p3), some (.ref p4), none, none, none, none] ∧ h3 = aupd h2 p4 (.lst (dbls.map .str))) ?_ ?_
  · bv_omega
    exact fun p hp => ⟨p, hp, rfl, rfl⟩
  rintro σ h3 ⟨p4, n4, rfl, rfl⟩
  have p24 : p2 ≠ p4 := fun z => by subst z; rw [e21] at n4; cases n4
  have p34 : p3 ≠ p4 := fun z => by subst z; rw [e31] at n4; cases n4
  have g2 := g1.fresh (o := .lst (dbls.map .str)) n4
  have e22 : aupd h2 p4 (.lst (dbls.map .str)) p2 = some (.dK []) := by rw [aupd_ne p24]; exact e21
  have e32 : aupd h2 p4 (.lst (dbls.map .str)) p3 = some (.dK (s.map (kvf uv))) := by rw [aupd_ne p34]; exact e31
  have e42 : aupd h2 p4 (.lst (dbls.map .str)) p4 = some (.lst (dbls.map .str)) := aupd_same
  generalize aupd h2 p4 (.lst (dbls.map .str)) = h3 at g2 e22 e32 e42
  have ks : ∀ b, (dget (s.map (kvf uv)) (.inr b)).isSome = decide (b ∈ s.map (·.1)) := fun b => isSome_lookup uv s b
  refine wp_cut CM (fun σ h4 => ∃ q4, h3 q4 = none ∧ σ = [some (.ref a), some (sy s), some (.ref p2), some (.ref p3), some (.ref q4), none, none, none, none] ∧ h4 = aupd h3 q4 (.lst ((freeF (s.map (·.1))).map .str))) ?_ ?_
  · bv_omega
    refine comp_pure CM ?_
    bv_omega
    refine v_ref (C := wpC G (n + 1)) (T := G.T) e42 ?_
    refine ⟨by decide, fun D acc hD => ?_, notF (s.map (·.1)), fun D hD x hx acc => ?_, fun D hD => ?_⟩
    · show aupd _ D _ p4 = _
      rw [aupd_ne (fun e => by subst e; rw [e42] at hD; cases hD)]; exact e42
    · have pD : p3 ≠ D := fun z => by subst z; rw [e32] at hD; cases hD
      obtain ⟨b, hb, rfl⟩ := List.mem_map.mp hx
      refine .inr ⟨_, .inr b, by rw [aupd_ne pD]; exact e32, rfl, ?_⟩
      rw [ks]
      by_cases hh : b ∈ s.map (·.1)
      · rw [decide_eq_true hh]
        bv_omega
        exact ⟨by simp only [notF]; rw [if_pos hh], ALe.refl⟩
      · rw [decide_eq_false hh]
        bv_omega
        exact ⟨by simp only [notF]; rw [if_neg hh], ALe.refl⟩
    · rw [filt_free]
      exact ⟨D, hD, rfl, rfl⟩
  rintro σ h4 ⟨q4, m4, rfl, rfl⟩
  have fn : (freeF (s.map (·.1))).Nodup := dbls_nd.filter _
  have fl : s.length ≤ (freeF (s.map (·.1))).length := by
    have := free_len (s.map (·.1))
    rw [List.length_map] at this
    omega
  have fl16 : (freeF (s.map (·.1))).length ≤ 16 := Nat.le_trans (List.length_filter_le _ _) (by decide)
  have fk : ∀ x ∈ freeF (s.map (·.1)), nameOk x = true ∧ x ∉ s.map (·.1) := fun x hx => ⟨dbls_ok x (List.mem_filter.mp hx).1, of_decide_eq_true (List.mem_filter.mp hx).2⟩
  generalize freeF (s.map (·.1)) = F at fn fl fl16 fk
  have q24 : p2 ≠ q4 := fun z => by subst z; rw [e22] at m4; cases m4
  have g3 := g2.fresh (o := .lst (F.map .str)) m4
  have e23 : aupd h3 q4 (.lst (F.map .str)) p2 = some (.dK []) := by rw [aupd_ne q24]; exact e22
  have e43 : aupd h3 q4 (.lst (F.map .str)) q4 = some (.lst (F.map .str)) := aupd_same
  generalize aupd h3 q4 (.lst (F.map .str)) = h4 at g3 e23 e43
  have q4a := (g2.w.new m4).1
  have q4c := (g2.w.new m4).2
  have q40 := g2.none m4
  refine wp_cut CM (fun σ h5 => ∃ p5, h4 p5 = none ∧ σ = [some (.ref a), some (sy s), some (.ref p2), some (.ref p3), some (.ref q4), some (.ref p5), none, none, none] ∧ h5 = aupd h4 p5 (.lst (s.map (prf uv)))) ?_ ?_
  · bv_omega
    exact fun p hp => ⟨p, hp, rfl, rfl⟩
  rintro σ h5 ⟨p5, n5, rfl, rfl⟩
  have p25 : p2 ≠ p5 := fun z => by subst z; rw [e23] at n5; cases n5
  have p45 : q4 ≠ p5 := fun z => by subst z; rw [e43] at n5; cases n5
  have g4 := g3.fresh (o := .lst (s.map (prf uv))) n5
  have e24 : aupd h4 p5 (.lst (s.map (prf uv))) p2 = some (.dK []) := by rw [aupd_ne p25]; exact e23
  have e44 : aupd h4 p5 (.lst (s.map (prf uv))) q4 = some (.lst (F.map .str)) := by rw [aupd_ne p45]; exact e43
  have e54 : aupd h4 p5 (.lst (s.map (prf uv))) p5 = some (.lst (s.map (prf uv))) := aupd_same
  have p5a := (g3.w.new n5).1
  have p5c := (g3.w.new n5).2
  have p50 := g3.none n5
  generalize aupd h4 p5 (.lst (s.map (prf uv))) = h5 at g4 e24 e44 e54
  refine wp_cut CM (fun σ h6 => ∃ (A : NM Str) (T : Sy) (x y : Option AV), σ = [some (.ref a), some (sy s), some (.ref p2), some (.ref p3), some (.ref q4), some (.ref p5), x, y, none] ∧ Go h h6 a c (M + 20) ∧ h6 p2 = some (.dK (A.map (kvf .str))) ∧ h6 p5 = some (.lst ((s ++ T).map (prf uv))) ∧ (T.map (·.1)).Nodup ∧ (∀ x ∈ T.map (·.1), x ∈ F) ∧ T.length = s.length ∧ (∀ q ∈ T, 0 < q.2.1 ∧ Sz 14 q.2.1 ∧ DOk ys 2 q.2.2) ∧
      (∀ p ∈ s, ∃ z f, A.lookup p.1 = some z ∧ (z, (f, p.2.2)) ∈ T) ∧ (∀ x ∈ s.map (·.1), ∀ y ∈ s.map (·.1), A.lookup x = A.lookup y → x = y)) ?_ ?_
  · refine for_v CM ?_
    bv_omega
    show itR (.tup (s.map (prf uv))) _ _
    rw [v_tup]
    refine ⟨fun xs σ h6 => ∃ (done rest : Sy) (fd fr' : List Str) (A : NM Str) (T : Sy) (x y : Option AV), xs = rest.map (prf uv) ∧ s = done ++ rest ∧ F = fd ++ fr' ∧ fd.length = done.length ∧ σ = [some (.ref a), some (sy s), some (.ref p2), some (.ref p3), some (.ref q4), some (.ref p5), x, y, none] ∧ Go h h6 a c (M + 2 * done.length) ∧ h6 p2 = some (.dK (A.map (kvf .str))) ∧ h6 q4 = some (.lst (fr'.map .str)) ∧ h6 p5 = some (.lst ((s ++ T).map (prf uv))) ∧ NKs A ∧ (∀ q ∈ A, q.1 ∈ s.map (·.1)) ∧ T.map (·.1) = fd ∧ (∀ q ∈ T, 0 < q.2.1 ∧ Sz 14 q.2.1 ∧ DOk ys 2 q.2.2) ∧
        (∀ p ∈ done, ∃ z f, A.lookup p.1 = some z ∧ (z, (f, p.2.2)) ∈ T) ∧ (∀ x ∈ done.map (·.1), ∀ y ∈ done.map (·.1), A.lookup x = A.lookup y → x = y),
      ⟨[], s, [], F, [], [], none, none, rfl, rfl, rfl, rfl, rfl, g4.mono (by omega), e24, e44, by rw [List.append_nil]; exact e54, List.Pairwise.nil, by simp, rfl, by simp, by simp, by simp⟩, ?_, ?_⟩
    · rintro σ h6 ⟨done, rest, fd, fr', A, T, x, y, e, es, eF, efl, rfl, g, e2, e4, e5, nA, kA, eT, oT, hA, iA⟩
      have := map_nil_eq e
      subst this
      rw [List.append_nil] at es
      subst es
      refine ⟨trivial, A, T, x, y, rfl, g.mono (by omega), e2, e5, ?_, ?_, ?_, oT, hA, iA⟩
      · rw [eT]; rw [eF] at fn; exact (List.nodup_append.mp fn).1
      · intro x hx; rw [eT] at hx; rw [eF]; exact List.mem_append_left _ hx
      · rw [← efl, ← eT, List.length_map]
    · rintro x xs σ h6 ⟨done, rest, fd, fr', A, T, x', y', e, es, eF, efl, rfl, g, e2, e4, e5, nA, kA, eT, oT, hA, iA⟩
      cases rest with
      | nil => cases e
      | cons p rest =>
        obtain ⟨b, f, d⟩ := p
        rw [List.map_cons] at e
        obtain ⟨rfl, rfl⟩ := List.cons.inj e
        have hlen : done.length + 1 + rest.length = s.length := by rw [es]; simp; omega
        cases fr' with
        | nil =>
          rw [List.append_nil] at eF
          rw [eF] at fl
          omega
        | cons z fr' =>
          refine ⟨trivial, g_tupR rfl ?_⟩
          have hbk : b ∈ s.map (·.1) := by rw [es]; simp
          have ns : NKs s := o.ok.asc.nks
          have hbd : b ∉ done.map (·.1) := fun hb => by
            unfold NKs at ns
            rw [es, List.map_append, List.nodup_append] at ns
            exact ns.2.2 b hb b (by simp) rfl
          have hzd : z ∉ fd := fun hz => by
            rw [eF, List.nodup_append] at fn
            exact fn.2.2 z hz z List.mem_cons_self rfl
          show wpGs (wpC G (n + 1)) G.T _ [.str b, .tup [fr f, dm d]] _ _ _
          bv_omega
          refine ⟨⟨_, e4⟩, .inr ⟨rfl, _, _, e4, ?_⟩⟩
          have g7 := g.set (o := .lst (fr'.map .str)) q40 q4a q4c
          have e27 : aupd h6 q4 (.lst (fr'.map .str)) p2 = some (.dK (A.map (kvf .str))) := by rw [aupd_ne q24]; exact e2
          have e47 : aupd h6 q4 (.lst (fr'.map .str)) q4 = some (.lst (fr'.map .str)) := aupd_same
          have e57 : aupd h6 q4 (.lst (fr'.map .str)) p5 = some (.lst ((s ++ T).map (prf uv))) := by rw [aupd_ne (Ne.symm p45)]; exact e5
          show setR (.ref p2) (.str b) (.str z) (aupd h6 q4 (.lst (fr'.map .str))) _
          generalize aupd h6 q4 (.lst (fr'.map .str)) = h7 at g7 e27 e47 e57
          have la : A.length ≤ s.length := by
            have := nks_len nA kA
            rw [List.length_map] at this
            exact this
          refine set_dK e27 (k := .inr b) rfl (by rw [List.length_map]; have := len_small (n := A.length + 1) (by omega); omega) ?_
          rw [dput_kv]
          have g8 := g7.set (o := .dK ((dset A b z).map (kvf .str))) n2 p2a p2c
          have e28 : aupd h7 p2 (.dK ((dset A b z).map (kvf .str))) p2 = some (.dK ((dset A b z).map (kvf .str))) := aupd_same
          have e48 : aupd h7 p2 (.dK ((dset A b z).map (kvf .str))) q4 = some (.lst (fr'.map .str)) := by rw [aupd_ne (Ne.symm q24)]; exact e47
          have e58 : aupd h7 p2 (.dK ((dset A b z).map (kvf .str))) p5 = some (.lst ((s ++ T).map (prf uv))) := by rw [aupd_ne (Ne.symm p25)]; exact e57
          generalize aupd h7 p2 (.dK ((dset A b z).map (kvf .str))) = h8 at g8 e28 e48 e58
          refine ⟨⟨_, e58⟩, x_dK (v := .str z) e28 (k' := .inr b) rfl (by rw [lookup_map_kv, lookup_dset, if_pos rfl]; rfl) ?_⟩
          refine draw_spec (n := n) k10 g8.w (by omega) (by decide) (by decide) fun u o1 u0 u1 w9 => ?_
          have g9 := g8.draw w9 (M := M + 2 * done.length + 1) (Nat.le_refl _)
          have e29 : aupd h8 a o1 p2 = some (.dK ((dset A b z).map (kvf .str))) := by rw [aupd_ne p2a]; exact e28
          have e49 : aupd h8 a o1 q4 = some (.lst (fr'.map .str)) := by rw [aupd_ne q4a]; exact e48
          have e59 : aupd h8 a o1 p5 = some (.lst ((s ++ T).map (prf uv))) := by rw [aupd_ne p5a]; exact e58
          generalize aupd h8 a o1 = h9 at g9 e29 e49 e59
          bv_omega
          refine draw_spec (n := n) k10 g9.w (by omega) (by decide) (by decide) fun v o2 v0 v1 w10 => ?_
          have g10 := g9.draw w10 (M := M + 2 * (done ++ [(b, (f, d))]).length) (by simp; omega)
          have e2x : aupd h9 a o2 p2 = some (.dK ((dset A b z).map (kvf .str))) := by rw [aupd_ne p2a]; exact e29
          have e4x : aupd h9 a o2 q4 = some (.lst (fr'.map .str)) := by rw [aupd_ne q4a]; exact e49
          have e5x : aupd h9 a o2 p5 = some (.lst ((s ++ T).map (prf uv))) := by rw [aupd_ne p5a]; exact e59
          generalize aupd h9 a o2 = h10 at g10 e2x e4x e5x
          bv_omega
          refine law_low_spec (n := n) k11 (by omega) (Nat.lt_of_lt_of_le (show (1 + v).natAbs < 2 ^ 14 by omega) (Nat.pow_le_pow_right (by decide) (by decide))) ?_
          have lT : T.length = done.length := by rw [← efl, ← eT, List.length_map]
          refine m_app e5x (by rw [List.length_map, List.length_append]; have := len_small (n := s.length + T.length + 1) (by omega); omega) ?_
          refine ⟨done ++ [(b, (f, d))], rest, fd ++ [z], fr', dset A b z, T ++ [(z, (Rat.divInt (1 + u) (1 + v), d))], _, _, rfl, by rw [es]; simp, by rw [eF]; simp, by simp [efl], rfl, g10.set p50 p5a p5c, by rw [aupd_ne p25]; exact e2x, by rw [aupd_ne p45]; exact e4x, ?_, nks_dset nA, ?_, by rw [List.map_append, eT]; rfl, ?_, ?_, ?_⟩
          · rw [aupd_same, ← List.append_assoc, List.map_append (l₁ := s ++ T)]; rfl
          · intro q hq
            rcases mem_dset hq with hq | rfl
            · exact kA q hq
            · exact hbk
          · intro q hq
            rcases List.mem_append.mp hq with hq | hq
            · exact oT q hq
            · rw [List.mem_singleton.mp hq]
              refine ⟨divInt_pos (by omega) (by omega), sz_divInt (by omega) (by omega) (by omega), ?_⟩
              exact (o.ok.ok (b, (f, d)) (by rw [es]; simp)).2.2
          · intro p hp
            rcases List.mem_append.mp hp with hp | hp
            · obtain ⟨z', f', h1, h2⟩ := hA p hp
              have : p.1 ≠ b := fun e => hbd (e ▸ List.mem_map.mpr ⟨p, hp, rfl⟩)
              exact ⟨z', f', by rw [lookup_dset, if_neg this]; exact h1, List.mem_append_left _ h2⟩
            · rw [List.mem_singleton.mp hp]
              exact ⟨z, _, by rw [lookup_dset, if_pos rfl], by simp; exact .inr rfl⟩
          · have old : ∀ x ∈ done.map (·.1), ∃ z', A.lookup x = some z' ∧ z' ∈ fd := fun x hx => by
              obtain ⟨p, hp, rfl⟩ := List.mem_map.mp hx
              obtain ⟨z', f', h1, h2⟩ := hA p hp
              exact ⟨z', h1, by rw [← eT]; exact List.mem_map.mpr ⟨_, h2, rfl⟩⟩
            intro x hx y hy e
            rw [lookup_dset, lookup_dset] at e
            rw [List.map_append, List.mem_append] at hx hy
            by_cases xb : x = b <;> by_cases yb : y = b
            · rw [xb, yb]
            · have hy' := hy.resolve_right (by simpa using yb)
              rw [if_pos xb, if_neg yb] at e
              obtain ⟨z', h1, h2⟩ := old y hy'
              rw [h1] at e
              cases e
              exact absurd h2 hzd
            · have hx' := hx.resolve_right (by simpa using xb)
              rw [if_neg xb, if_pos yb] at e
              obtain ⟨z', h1, h2⟩ := old x hx'
              rw [h1] at e
              cases e
              exact absurd h2 hzd
            · rw [if_neg xb, if_neg yb] at e
              exact iA x (hx.resolve_right (by simpa using xb)) y (hy.resolve_right (by simpa using yb)) e
  rintro σ h6 ⟨A, T, x, y, rfl, g, e2, e5, nT, sT, lT, oT, hA, iA⟩
  bv_omega
  refine .inr (.inr (.inr (.inr ⟨_, e5, ?_, ?_, fun ys' pm so' r hr => ?_⟩)))
  · intro v hv
    obtain ⟨p, hp, rfl⟩ := List.mem_map.mp hv
    trivial
  · have : ((s ++ T).map (prf uv)).map keyA = s.map (·.1) ++ T.map (·.1) := by
      rw [List.map_map, List.map_append]; rfl
    rw [this, List.nodup_append]
    exact ⟨o.ok.asc.nks, nT, fun x hx y hy e => (fk y (sT y hy)).2 (e ▸ hx)⟩
  · obtain ⟨S, pS, rfl⟩ := perm_map pm
    have ms : ∀ q, q ∈ S ↔ q ∈ s ∨ q ∈ T := fun q => by rw [pS.mem_iff, List.mem_append]
    have p2r : p2 ≠ r := fun z => by subst z; rw [e2] at hr; cases hr
    have lS : S.length = s.length + T.length := by rw [pS.length_eq, List.length_append]
    have n1 := o.ok.n1
    refine tu_lst aupd_same ?_
    refine shr_i (hq (s.map (·.1) ++ T.map (·.1)) S A p2 _ (g.fresh hr) ⟨⟨fun b hb => ?_, ?_⟩, o.nN, o.N6, ⟨?_, fun p hp => ?_, fun p hp => ?_, by omega, by omega⟩⟩ ⟨fun p hp => (ms p).mpr (.inl hp), fun p hp => ?_, iA, by omega⟩ (by rw [aupd_ne p2r]; exact e2) p2a)
    · rcases List.mem_append.mp hb with hb | hb
      · exact o.keys.ok b hb
      · exact (fk b (sT b hb)).1
    · rw [List.length_append, List.length_map, List.length_map]; omega
    · unfold Asc
      rw [List.pairwise_map] at so'
      exact so'
    · rcases (ms p).mp hp with hp | hp
      · exact o.ok.ok p hp
      · exact oT p hp
    · rcases (ms p).mp hp with hp | hp
      · exact List.mem_append_left _ (List.mem_map.mpr ⟨p, hp, rfl⟩)
      · exact List.mem_append_right _ (List.mem_map.mpr ⟨p, hp, rfl⟩)
    · obtain ⟨z, f, h1, h2⟩ := hA p hp
      exact ⟨z, f, h1, (ms _).mpr (.inr h2), (fk z (sT z (List.mem_map.mpr ⟨_, h2, rfl⟩))).2⟩
theorem ud_of {s : Sy} {p : Str × (Rat × Dm)} (hn : NKs s) (h : p ∈ s) : ud s p.1 = p.2.2 := by
  unfold ud
  rw [lookup_some hn (show (p.1, p.2) ∈ s from h)]; rfl
def nF (A : NM Str) : AV → Option AV := fun x => match x with | .tup [.str b, .int m] => some (prf AV.int ((A.lookup b).getD "", m)) | _ => none
def ren (A : NM Str) (d : Dm) : Dm := d.map fun p => ((A.lookup p.1).getD "", p.2)
theorem filt_n (A : NM Str) : ∀ d : Dm, (d.map (prf AV.int)).filterMap (nF A) = (ren A d).map (prf AV.int)
  | [] => rfl
  | p :: d => by
    rw [List.map_cons, List.filterMap_cons]
    show prf AV.int _ :: _ = _
    rw [filt_n A d]; rfl
theorem usum_perm (s : Sy) (b : Str) {d e : Dm} (p : d.Perm e) : usum s b d = usum s b e := by
  induction p with
  | nil => rfl
  | cons x p ih => show _ + _ = _ + _; rw [ih]
  | swap x y l =>
    show y.2 * _ + (x.2 * _ + _) = x.2 * _ + (y.2 * _ + _)
    omega
  | trans p q ihp ihq => rw [ihp, ihq]
theorem ren_like {s S : Sy} {A : NM Str} {N : List Str} {V : List Str} (o : Sok V N S) (D : Dbl s S A) (b : Str) : ∀ {d : Dm}, (∀ p ∈ d, p.1 ∈ s.map (·.1)) → usum S b (ren A d) = usum S b d
  | [], _ => rfl
  | p :: d, hd => by
    show p.2 * dv (ud S ((A.lookup p.1).getD "")) b + usum S b (ren A d) = p.2 * dv (ud S p.1) b + usum S b d
    rw [ren_like o D b fun q hq => hd q (List.mem_cons_of_mem _ hq)]
    obtain ⟨q, hq, e⟩ := List.mem_map.mp (hd p List.mem_cons_self)
    obtain ⟨a, f, h1, h2, _⟩ := D.an q hq
    have u1 := ud_of o.ok.asc.nks h2
    have u2 := ud_of o.ok.asc.nks (D.mem q hq)
    rw [← e, h1]
    show p.2 * dv (ud S a) b + _ = p.2 * dv (ud S q.1) b + _
    have u1 : ud S a = q.2.2 := u1
    rw [u1, u2]
theorem named_spec {N V : List Str} {s S : Sy} {A : NM Str} {d : Dm} {p : Addr} (o : Sok V N S) (D : Dbl s S A) (od : Vok s d) (hl : s.length ≤ 8) (ep : h p = some (.dK (A.map (kvf .str))))
    (hq : ∀ (e : Dm), Vok S e → Like S d e → Q (dm e) h) : wpC G (n + 1) 167 [dm d, .ref p] h Q E := by
  refine call_i k167 rfl ?_
  unfold c167_law_named
  have CM := wpC_mono G n
  have hl8 := od.len
  rw [List.length_map] at hl8
  have key : ∀ q ∈ d, ∃ a f x, A.lookup q.1 = some a ∧ (a, (f, x)) ∈ S := fun q hq => by
    obtain ⟨r, hr, e⟩ := List.mem_map.mp (od.sub q hq)
    obtain ⟨a, f, h1, h2, _⟩ := D.an r hr
    exact ⟨a, f, _, by rw [← e]; exact h1, h2⟩
  bv_omega
  refine comp_pure CM ?_
  bv_omega
  show itR (.tup (d.map (prf AV.int))) _ _
  rw [v_tup]
  refine ⟨by rw [List.length_map]; exact len_small (by omega), fun _ _ _ => trivial, nF A, fun D' hD x hx acc => ?_, fun D' hD => ?_⟩
  · obtain ⟨q, hq', rfl⟩ := List.mem_map.mp hx
    obtain ⟨a, f, y, h1, h2⟩ := key q hq'
    have pD : p ≠ D' := fun z => by subst z; rw [ep] at hD; cases hD
    refine g_tupR rfl ?_
    bv_omega
    refine x_dK (v := .str a) (by rw [aupd_ne pD]; exact ep) (k' := .inr q.1) rfl (by rw [lookup_map_kv, h1]; rfl) ?_
    refine ⟨?_, ALe.refl⟩
    show some (prf AV.int ((A.lookup q.1).getD "", q.2)) = _
    rw [h1]; rfl
  · rw [filt_n]
    have inj : (ren A d).map (·.1) = d.map fun q => (A.lookup q.1).getD "" := by
      unfold ren
      rw [List.map_map]; rfl
    have nd : ((ren A d).map (·.1)).Nodup := by
      rw [inj]
      have hk := od.asc.nks
      unfold NKs at hk
      have : ∀ l : Dm, (l.map (·.1)).Nodup → (∀ q ∈ l, q ∈ d) → (l.map fun q => (A.lookup q.1).getD "").Nodup := by
        intro l
        induction l with
        | nil => intro _ _; exact List.nodup_nil
        | cons q l ih =>
          intro h1 h2
          rw [List.map_cons, List.nodup_cons] at h1 ⊢
          refine ⟨fun hm => ?_, ih h1.2 fun r hr => h2 r (List.mem_cons_of_mem _ hr)⟩
          obtain ⟨r, hr, e⟩ := List.mem_map.mp hm
          obtain ⟨a1, _, _, b1, _⟩ := key q (h2 q List.mem_cons_self)
          obtain ⟨a2, _, _, b2, _⟩ := key r (h2 r (List.mem_cons_of_mem _ hr))
          have e : (A.lookup r.1).getD "" = (A.lookup q.1).getD "" := e
          rw [b1, b2] at e
          have e : a2 = a1 := e
          have := D.inj r.1 (od.sub r (h2 r (List.mem_cons_of_mem _ hr))) q.1 (od.sub q (h2 q List.mem_cons_self)) (by rw [b1, b2, e])
          exact h1.1 (this ▸ List.mem_map.mpr ⟨r, hr, rfl⟩)
      exact this d hk fun _ h => h
    refine .inr (.inr (.inr (.inr ⟨_, aupd_same, fun v hv => ?_, ?_, fun ys' pm so' r hr => ?_⟩)))
    · obtain ⟨q, hq, rfl⟩ := List.mem_map.mp hv
      trivial
    · rw [List.map_map]; exact nd
    · obtain ⟨e, pe, rfl⟩ := perm_map pm
      refine tu_lst aupd_same ?_
      refine shr_le (ALe.trans (ALe.fresh hD) (ALe.fresh hr)) (hq e ⟨?_, fun q hq => ?_, fun q hq => ?_⟩ fun b => ?_)
      · unfold Asc
        rw [List.pairwise_map] at so'
        exact so'
      · obtain ⟨r, hr, rfl⟩ := List.mem_map.mp (pe.mem_iff.mp hq)
        exact od.nz r hr
      · obtain ⟨r, hr, rfl⟩ := List.mem_map.mp (pe.mem_iff.mp hq)
        obtain ⟨a, f, y, h1, h2⟩ := key r hr
        rw [h1]
        exact List.mem_map.mpr ⟨_, h2, rfl⟩
      · rw [usum_perm S b pe, ren_like o D b od.sub]
theorem d1 {x : AV} (d : DTy h x) : DTy h (.tup [x]) := dty_tup.mpr ⟨by simp, fun y hy => by rw [List.mem_singleton.mp hy]; exact d⟩
theorem d2 {x y : AV} (d : DTy h x) (e : DTy h y) : DTy h (.tup [x, y]) := dty_tup.mpr ⟨by simp, fun z hz => by
  simp at hz
  rcases hz with rfl | rfl
  · exact d
  · exact e⟩
theorem dS {b : Str} (hb : nameOk b = true) : DTy h (.str b) := dty_str.mpr (by have := name_len hb; omega)
theorem np_un {ks : List Str} {v : AV} (e : areNP v = false) : isUn ks v = false := by unfold isUn; rw [e, Bool.false_and]
theorem up_un {ks : List Str} {x : AV} (e : unP ks x = false) : isUn ks (.tup [x]) = false := by
  show (areNP (.tup [x]) && (unP ks x && true)) = false
  rw [e, Bool.false_and, Bool.and_false]
theorem ui_un {ks : List Str} {b : Str} {m : Int} (e : (decide (-9 ≤ m) && decide (m ≤ 9) && decide (m ≠ 0)) = false) : isUn ks (.tup [.tup [.str b, .int m]]) = false := up_un (by
  show (decide (b ∈ ks) && (decide (-9 ≤ m) && decide (m ≤ 9)) && decide (m ≠ 0)) = false
  rw [Bool.and_assoc, e, Bool.and_false])
theorem atI_str {ys : List Str} {i : Int} (h0 : 0 ≤ i) (h1 : i < ys.length) : ∃ x, PL.atI (ys.map AV.str) i = some (.str x) ∧ x ∈ ys := by
  have hi : i.toNat < ys.length := by omega
  refine ⟨ys[i.toNat], ?_, List.getElem_mem hi⟩
  unfold PL.atI
  rw [if_pos h0, List.getElem?_map, List.getElem?_eq_getElem hi]
  rfl
def wr (b : Str) (i : Addr) : List AV := .non :: .ref i :: .tup [.tup [.str "", .int 1]] :: .tup [.tup [.str b, .int 0]] :: []
theorem wr_ok {ks : List Str} {b : Str} {i : Addr} {xs : List AV} (hb : nameOk b = true) (e : h i = some (.lst xs)) : ∀ w ∈ wr b i, DTy h w ∧ isUn ks w = false := by
  intro w hw
  simp only [wr, List.mem_cons, List.not_mem_nil, or_false] at hw
  have cl : ∀ {v : AV}, clB v = true → DTy h v := fun c => clB_dty c
  rcases hw with rfl | rfl | rfl | rfl
  · exact ⟨cl rfl, rfl⟩
  · exact ⟨dty_ref.mpr (.inl ⟨_, e⟩), rfl⟩
  · exact ⟨cl (by decide +kernel), np_un (by decide +kernel)⟩
  · exact ⟨d1 (d2 (dS hb) (cl rfl)), ui_un (by decide)⟩
def stF : AV → Option AV := fun x => match x with | .tup [a, .tup [f, .tup []]] => none | .tup [a, b] => some (.tup [a, b]) | _ => none
def stR (S : Sy) : Sy := S.filter fun p => decide (p.2.2 ≠ [])
theorem filt_st : ∀ S : Sy, (S.map (prf uv)).filterMap stF = (stR S).map (prf uv)
  | [] => rfl
  | (b, f, []) :: S => by
    rw [List.map_cons, List.filterMap_cons]
    show (List.filterMap stF (S.map (prf uv))) = _
    rw [filt_st S]
    unfold stR
    rw [List.filter_cons]
    simp
  | (b, f, q :: d) :: S => by
    rw [List.map_cons, List.filterMap_cons]
    show prf uv (b, f, q :: d) :: (List.filterMap stF (S.map (prf uv))) = _
    rw [filt_st S]
    unfold stR
    rw [List.filter_cons]
    simp
theorem refuses_spec {N V : List Str} {S : Sy} {x : Rat} {a : Nat} {d e : Dm} (o : Sok V N S) (hl : S.length ≤ 16) (sx : Sz a x) (ha : 0 < a) (ha2 : a ≤ 6000) (od : Vok S d) (oe : Vok S e) (hq : ∀ h', ALe h h' → Q (.bl true) h') : wpC G (n + 10) 168 [sy S, fr x, dm d, dm e] h Q E := by
  refine call_i k168 rfl ?_
  unfold c168_law_refuses
  have CM := wpC_mono G (n + 9)
  have cl : ∀ {h : AH} {v : AV}, clB v = true → DTy h v := fun c => clB_dty c
  refine wp_cut CM (fun σ h' => σ = [some (sy S), some (fr x), some (dm d), some (dm e), none, none, none, none, none] ∧ h' = h) ?_ ?_
  · bv_omega
    refine told_system (n := n) (cl rfl) rfl ?_
    refine eq_txt (by decide +kernel) ?_
    bv_omega
    refine told_fraction (n := n) o (DTy.tydt (cl (v := .tup [.int 2, .int 4]) (by decide +kernel))) (by decide +kernel) ?_
    refine eq_txt (by decide +kernel) ?_
    bv_omega
  rintro σ h1 ⟨rfl, rfl⟩
  obtain ⟨b, y, S', rfl⟩ : ∃ b y S', S = (b, y) :: S' := by
    have := o.ok.n1
    cases S with
    | nil => simp at this
    | cons p s' => exact ⟨p.1, p.2, s', rfl⟩
  have nb : nameOk b = true := o.nU.ok b (o.ok.sub _ List.mem_cons_self)
  refine wp_cut CM (fun σ h' => ALe h1 h' ∧ ∃ z, σ = [some (sy ((b, y) :: S')), some (fr x), some (dm d), some (dm e), z, none, none, none, none]) ?_ ?_
  · refine for_v CM ?_
    bv_omega
    intro i hi
    refine ⟨_, rfl, ?_⟩
    refine ⟨.str b, rfl, fun p hp => ?_⟩
    have ip : i ≠ p := fun z => by subst z; rw [aupd_same] at hp; cases hp
    refine v_ref (C := wpC G (n + 9)) (T := G.T) aupd_same ?_
    have l5 := ALe.trans (ALe.fresh (o := .lst []) hi) (ALe.fresh (o := .lst (wr b i)) hp)
    generalize hH : aupd (aupd h1 i (.lst [])) p (.lst (wr b i)) = H at l5
    have ei : H i = some (.lst []) := by rw [← hH, aupd_ne ip, aupd_same]
    have e5 : H p = some (.lst (wr b i)) := by rw [← hH, aupd_same]
    refine ⟨fun xs σ h => h = H ∧ (∃ z, σ = [some (sy ((b, y) :: S')), some (fr x), some (dm d), some (dm e), z, none, none, none, none]) ∧ ∀ v ∈ xs, DTy H v ∧ isUn (((b, y) :: S').map (·.1)) v = false, ⟨hH, ⟨_, rfl⟩, wr_ok nb ei⟩, ?_, ?_⟩
    · rintro σ h ⟨rfl, ⟨z, rfl⟩, _⟩
      exact ⟨e5, l5, z, rfl⟩
    · rintro v vs σ h ⟨rfl, ⟨z, rfl⟩, hv⟩
      obtain ⟨dv', bv⟩ := hv v List.mem_cons_self
      refine ⟨e5, ?_⟩
      bv_omega
      refine told_u1 (n := n) o dv' bv ?_
      refine eq_txt (by decide +kernel) ?_
      bv_omega
      refine told_u2 (n := n) o od dv' bv ?_
      refine eq_txt (by decide +kernel) ?_
      bv_omega
      refine told_fraction (n := n) o (DTy.tydt (cl (v := .int 1) rfl)) rfl ?_
      refine eq_txt (by decide +kernel) ?_
      bv_omega
      exact ⟨⟨_, rfl⟩, fun y hy => hv y (List.mem_cons_of_mem _ hy)⟩
  rintro σ h2 ⟨l2, z, rfl⟩
  generalize hS : (b, y) :: S' = S at o od oe hl
  refine wp_cut CM (fun σ h' => ∃ D, h2 D = none ∧ σ = [some (sy S), some (fr x), some (dm d), some (dm e), z, some (.ref D), none, none, none] ∧ h' = aupd h2 D (.lst ((stR S).map (prf uv)))) ?_ ?_
  · bv_omega
    refine comp_pure CM ?_
    bv_omega
    show itR (.tup (S.map (prf uv))) _ _
    rw [v_tup]
    refine ⟨by rw [List.length_map]; exact len_small (by omega), fun _ _ _ => trivial, stF, fun D' hD v hv acc => ?_, fun D' hD => ?_⟩
    · obtain ⟨q, hq', rfl⟩ := List.mem_map.mp hv
      obtain ⟨c, f, dd⟩ := q
      have oq := o.ok.ok _ hq'
      refine g_tupR rfl ?_
      show wpGs (wpC G (n + 9)) G.T _ [.str c, .tup [fr f, dm dd]] _ _ _
      bv_omega
      refine eq_dm (N := N) (M := N) (k := 2) (m := 2) (e := []) o.nN o.nN oq.2.2 DOk.nil ?_
      by_cases e0 : dd = []
      · simp only [e0, decide_true]
        bv_omega
        exact ⟨rfl, ALe.refl⟩
      · simp only [e0, decide_false]
        bv_omega
        refine ⟨?_, ALe.refl⟩
        cases dd with
        | nil => exact absurd rfl e0
        | cons q dd => rfl
    · rw [filt_st]
      exact ⟨D', hD, rfl, rfl⟩
  rintro σ h3 ⟨D, nD, rfl, rfl⟩
  have lD := ALe.trans l2 (ALe.fresh (o := .lst ((stR S).map (prf uv))) nD)
  have eD : aupd h2 D (.lst ((stR S).map (prf uv))) D = some (.lst ((stR S).map (prf uv))) := aupd_same
  generalize aupd h2 D (.lst ((stR S).map (prf uv))) = h3 at lD eD
  cases er : stR S with
  | nil =>
    rw [er] at eD
    bv_omega
    refine n_lst eD ?_
    bv_omega
    exact shr_i (hq _ lD)
  | cons q R =>
    rw [er] at eD
    obtain ⟨c, f, dd⟩ := q
    have hm : (c, f, dd) ∈ stR S := by rw [er]; exact List.mem_cons_self
    unfold stR at hm
    rw [List.mem_filter] at hm
    have hc : c ∈ S.map (·.1) := List.mem_map.mpr ⟨_, hm.1, rfl⟩
    have hd0 : dd ≠ [] := of_decide_eq_true hm.2
    have o1 : Vok S [(c, 1)] := ⟨List.pairwise_singleton _ _, fun p hp => by rw [List.mem_singleton.mp hp]; exact ⟨(by decide : (1 : Int) ≠ 0), (by decide : (1 : Int).natAbs < 2 ^ 2)⟩, fun p hp => by rw [List.mem_singleton.mp hp]; exact hc⟩
    have nl : ∃ b, usum S b [(c, 1)] ≠ 0 := by
      cases dd with
      | nil => exact absurd rfl hd0
      | cons r dd =>
        have od' := (o.ok.ok _ hm.1).2.2
        refine ⟨r.1, ?_⟩
        show 1 * dv (ud S c) r.1 + 0 ≠ 0
        have u1 : ud S c = r :: dd := ud_of o.ok.asc.nks hm.1
        have u2 : dv (r :: dd) r.1 = r.2 := dv_of od'.asc.nks List.mem_cons_self
        have := (od'.nz r List.mem_cons_self).1
        rw [u1, u2]
        omega
    refine wp_cut CM (fun σ h' => σ = [some (sy S), some (fr x), some (dm d), some (dm e), z, some (.ref D), none, none, none] ∧ h' = h3) ?_ ?_
    · bv_omega
      refine n_lst eD ?_
      rw [List.length_map, List.length_cons]
      have e1 : ¬ (((R.length + 1 : Nat) : Int) = 0) := by omega
      bv_omega
      rw [if_neg e1]
      trivial
    rintro σ h4 ⟨rfl, rfl⟩
    refine wp_cut CM (fun σ h' => σ = [some (sy S), some (fr x), some (dm d), some (dm e), z, some (.ref D), some (dm [(c, 1)]), none, none] ∧ h' = h4) ?_ ?_
    · bv_omega
      refine x_lst eD rfl ?_
      refine ⟨.str c, rfl, ?_⟩
      exact ⟨rfl, rfl⟩
    rintro σ h5 ⟨rfl, rfl⟩
    bv_omega
    refine told_unlike (n := n) (e := []) o hl sx ha ha2 o1 DOk.nil (fun hk => ?_) ?_
    · obtain ⟨b, hb⟩ := nl
      exact hb (hk b)
    refine eq_txt (by decide +kernel) ?_
    bv_omega
    refine told_unlike (n := n) (d := []) o hl sx ha ha2 DOk.nil o1 (fun hk => ?_) ?_
    · obtain ⟨b, hb⟩ := nl
      exact hb (hk b).symm
    refine eq_txt (by decide +kernel) ?_
    exact shr_i (hq _ lD)
theorem num_eq (X : Rat) : (X.num : Rat) = X * ((X.den : Int) : Rat) := by
  have dn : ((X.den : Int) : Rat) ≠ 0 := by
    intro z
    have : (X.den : Int) = 0 := by exact_mod_cast z
    have := X.den_pos
    omega
  have e2 : X = (X.num : Rat) / ((X.den : Int) : Rat) := by rw [← Rat.divInt_eq_div]; exact (Rat.num_divInt_den X).symm
  generalize (X.num : Rat) = N1 at e2 ⊢
  generalize ((X.den : Int) : Rat) = N2 at e2 dn ⊢
  subst e2
  grind
theorem den_ne (X : Rat) : ((X.den : Int) : Rat) ≠ 0 := by
  intro z
  have : (X.den : Int) = 0 := by exact_mod_cast z
  have := X.den_pos
  omega
theorem low3 (x m y : Rat) (hy : y ≠ 0) : Rat.divInt (x.num * m.num * y.den) (x.den * m.den * y.num) = x * m / y := by
  rw [Rat.divInt_eq_div, Rat.intCast_mul, Rat.intCast_mul, Rat.intCast_mul, Rat.intCast_mul, num_eq x, num_eq m, num_eq y]
  have h1 := den_ne x
  have h2 := den_ne m
  have h3 := den_ne y
  generalize ((x.den : Int) : Rat) = a at h1 ⊢
  generalize ((m.den : Int) : Rat) = b at h2 ⊢
  generalize ((y.den : Int) : Rat) = c at h3 ⊢
  grind
theorem ix0 {h : AH} {Q : AQ} {x : Rat} (q : Q (.int x.num) h) : ixR (fr x) (.int 0) h Q := ⟨_, rfl, q⟩
theorem ix1 {h : AH} {Q : AQ} {x : Rat} (q : Q (.int x.den) h) : ixR (fr x) (.int 1) h Q := ⟨_, rfl, q⟩
theorem main : ∀ ns : List Int, ns.length ≤ 63 → (∀ z ∈ ns, Builtin.Int.intBits z ≤ 1048576) → wpC L.pg 100 d_law.id [.rl (ns.map .int)] (fun _ => none) (fun v _ => v = .bl true) (fun _ _ => False) := by
  intro ns hl _
  show wpC G (99 + 1) 169 _ _ _ _
  refine call_i klaw rfl ?_
  unfold c169_law
  have CM := wpC_mono G 99
  have f0 : AV.tup [.int 0, .int 1] = fr 0 := rfl
  refine wp_cut CM (fun σ h => ∃ q c, σ = [some (.rl (ns.map .int)), some (.ref q), none, none, none, none, none, none, none, none, none, none, none, none, none, none, none, none, none, none, none] ∧ HandOk h q 0 c) ?_ ?_
  · bv_omega
    exact law_hand_spec (n := 98) k20 hl fun q c h1 _ w => ⟨q, c, rfl, w⟩
  rintro σ h ⟨q, c, rfl, w⟩
  refine wp_cut CM (fun σ h => ∃ (r : Addr) (ys : List Str), σ = [some (.rl (ns.map .int)), some (.ref q), some (.ref r), none, none, none, none, none, none, none, none, none, none, none, none, none, none, none, none, none, none] ∧ HandOk h q 100 c ∧ NmsOk ys ∧ ys.Pairwise sl ∧ ys.length ≤ 6 ∧ h r = some (.lst (ys.map .str)) ∧ r ≠ q) ?_ ?_
  · bv_omega
    refine draw_spec (n := 98) k10 w (by decide) (by decide) (by decide) fun r o r0 r1 w => ?_
    bv_omega
    obtain ⟨k, rfl⟩ := Int.eq_ofNat_of_zero_le r0
    have e : (1 + (k : Int)) = ((1 + k : Nat) : Int) := by omega
    rw [e]
    refine law_names_spec (n := 97) k10 k48 w (by omega) (by omega) (by omega) fun ys r h' g hr hY hp hy1 hy6 er => ?_
    exact ⟨r, ys, rfl, g.w.mono (by omega), hY, hp, by omega, er, (w.new hr).1⟩
  rintro σ h ⟨r, ys, rfl, w, hY, hp, hy6, er, rq⟩
  refine wp_cut CM (fun σ h' => ∃ (U : List Str) (s : Sy), σ = [some (.rl (ns.map .int)), some (.ref q), some (.ref r), some (sy s), none, none, none, none, none, none, none, none, none, none, none, none, none, none, none, none, none] ∧ HandOk h' q 400 c ∧ Sok U ys s ∧ s.length ≤ 8) ?_ ?_
  · bv_omega
    exact law_system_spec (n := 96) k10 k11 k48 k49 k155 w (by decide) hY hp hy6 er rq fun U s h' g o l8 => ⟨U, s, rfl, g.w, o, l8⟩
  rintro σ h1 ⟨U, s, rfl, w, so, hl8⟩
  refine wp_cut CM (fun σ h' => ∃ (V : List Str) (S : Sy) (A : NM Str) (pA : Addr), σ = [some (.rl (ns.map .int)), some (.ref q), some (.ref r), some (sy s), some (sy S), some (.ref pA), none, none, none, none, none, none, none, none, none, none, none, none, none, none, none] ∧ HandOk h' q 420 c ∧ Sok V ys S ∧ Dbl s S A ∧ h' pA = some (.dK (A.map (kvf .str))) ∧ pA ≠ q) ?_ ?_
  · bv_omega
    refine doubled_spec (n := 97) w (by decide) so hl8 fun V S A p h' g o D ep pq => ?_
    refine g_tupR rfl ?_
    bv_omega
    exact ⟨V, S, A, p, rfl, g.w, o, D, ep, pq⟩
  rintro σ h2 ⟨V, S, A, pA, rfl, w, o, D, eA, pAq⟩
  refine wp_cut CM (fun σ h' => ∃ u : Dm, σ = [some (.rl (ns.map .int)), some (.ref q), some (.ref r), some (sy s), some (sy S), some (.ref pA), some (dm u), none, none, none, none, none, none, none, none, none, none, none, none, none, none] ∧ Go h2 h' q c 440 ∧ Vok s u) ?_ ?_
  · bv_omega
    exact law_units_spec (n := 97) k10 k156 w (by decide) so fun d h' g ou => ⟨d, rfl, g.mono (by omega), ou⟩
  rintro σ h3 ⟨u, rfl, g, ou'⟩
  have eA := g.le pA _ pAq eA
  have w := g.w
  refine wp_cut CM (fun σ h' => ∃ e : Dm, σ = [some (.rl (ns.map .int)), some (.ref q), some (.ref r), some (sy s), some (sy S), some (.ref pA), some (dm u), some (dm e), none, none, none, none, none, none, none, none, none, none, none, none, none] ∧ h' = h3 ∧ Vok S e ∧ Like S u e) ?_ ?_
  · bv_omega
    exact named_spec (n := 98) o D ou' hl8 eA fun e oe lk => ⟨e, rfl, rfl, oe, lk⟩
  rintro σ h4 ⟨e, rfl, rfl, oe, lk⟩
  have ou : Vok S u := ⟨ou'.asc, ou'.nz, fun p hp => by
    obtain ⟨q, hq, e⟩ := List.mem_map.mp (ou'.sub p hp)
    exact List.mem_map.mpr ⟨q, D.mem q hq, e⟩⟩
  refine wp_cut CM (fun σ h' => ∃ p8, Go h4 h' q c 440 ∧ h4 p8 = none ∧ h' p8 = some (.lst []) ∧ σ = [some (.rl (ns.map .int)), some (.ref q), some (.ref r), some (sy s), some (sy S), some (.ref pA), some (dm u), some (dm e), some (.ref p8), none, none, none, none, none, none, none, none, none, none, none, none]) ?_ ?_
  · bv_omega
    exact fun p8 n8 => ⟨p8, (Go.refl w).fresh n8, n8, aupd_same, rfl⟩
  rintro σ h5 ⟨p8, g5, n8, e8, rfl⟩
  obtain ⟨p8q, p8c⟩ := w.new n8
  have cp12 : CPow 10 12 := ⟨by decide, by decide, by decide⟩
  have cp11 : CPow 10 11 := ⟨by decide, by decide, by decide⟩
  have cp6 : CPow 10 6 := ⟨by decide, by decide, by decide⟩
  refine wp_cut CM (fun σ h' => ∃ (X Y : Rat) (x9 : Option AV), Sz 40 X ∧ Sz 40 Y ∧ h' p8 = some (.lst [fr X, fr Y]) ∧ h' pA = some (.dK (A.map (kvf .str))) ∧ σ = [some (.rl (ns.map .int)), some (.ref q), some (.ref r), some (sy s), some (sy S), some (.ref pA), some (dm u), some (dm e), some (.ref p8), x9, none, none, none, none, none, none, none, none, none, none, none]) ?_ ?_
  · refine for_r1 CM ?_
    bv_omega
    refine ⟨2, rfl, by decide, fun j σ h => j ≤ 2 ∧ ∃ (Ls : List Rat) (x9 : Option AV), Ls.length = 2 - j ∧ (∀ X ∈ Ls, Sz 40 X) ∧ Go h4 h q c (440 + 2 * (2 - j)) ∧ h p8 = some (.lst (Ls.map fr)) ∧ σ = [some (.rl (ns.map .int)), some (.ref q), some (.ref r), some (sy s), some (sy S), some (.ref pA), some (dm u), some (dm e), some (.ref p8), x9, none, none, none, none, none, none, none, none, none, none, none], ⟨Nat.le_refl _, [], none, rfl, by simp, g5.mono (by decide), e8, rfl⟩, ?_, ?_⟩
    · rintro σ h ⟨_, Ls, x9, hl2, hs, g, e8, rfl⟩
      have eA := g.le pA _ pAq eA
      match Ls, hl2 with
      | [X, Y], _ => exact ⟨X, Y, x9, hs X (by simp), hs Y (by simp), e8, eA, rfl⟩
    · rintro j σ h hj ⟨hj2, Ls, x9, hl2, hs, g, e8, rfl⟩
      bv_omega
      refine ⟨⟨_, e8⟩, ?_⟩
      have p12 : (10 : Int) ^ (12 : Int).toNat = 1000000000000 := by decide
      have p11 : (10 : Int) ^ (11 : Int).toNat = 100000000000 := by decide
      have p6 : (10 : Int) ^ (6 : Int).toNat = 1000000 := by decide
      refine ⟨cp12, ?_⟩
      rw [p12]
      refine draw_spec (n := 98) k10 g.w (by omega) (by decide) (by decide) fun t o1 t0 t1 w2 => ?_
      have g2 := g.draw w2 (M := 440 + 2 * (2 - (j + 1)) + 1) (Nat.le_refl _)
      have e82 : aupd h q o1 p8 = some (.lst (Ls.map fr)) := by rw [aupd_ne p8q]; exact e8
      generalize aupd h q o1 = hh at g2 e82
      bv_omega
      refine ⟨cp11, cp6, ?_⟩
      rw [p11, p6]
      refine draw_spec (n := 98) k10 g2.w (by omega) (by decide) (by decide) fun v o2 v0 v1 w3 => ?_
      have g3 := g2.draw w3 (M := 440 + 2 * (2 - j)) (by omega)
      have e83 : aupd hh q o2 p8 = some (.lst (Ls.map fr)) := by rw [aupd_ne p8q]; exact e82
      generalize aupd hh q o2 = hh2 at g3 e83
      bv_omega
      refine law_low_spec (n := 98) k11 (by omega) (Nat.lt_of_lt_of_le (show (1 + v).natAbs < 2 ^ 40 by omega) (Nat.pow_le_pow_right (by decide) (by decide))) ?_
      refine m_app e83 (by rw [List.length_map]; have := len_small (n := Ls.length + 1) (by omega); omega) ?_
      refine ⟨by omega, Ls ++ [Rat.divInt (t - 100000000000) (1 + v)], _, by rw [List.length_append, hl2]; simp; omega, fun X hX => ?_, g3.set n8 p8q p8c, by rw [aupd_same, List.map_append]; rfl, rfl⟩
      rcases List.mem_append.mp hX with hX | hX
      · exact hs X hX
      · rw [List.mem_singleton.mp hX]
        exact sz_divInt (by omega) (by omega) (by omega)
  rintro σ h6 ⟨X, Y, x9, sX, sY, e8, eA, rfl⟩
  refine wp_cut CM (fun σ h => h = h6 ∧ σ = [some (.rl (ns.map .int)), some (.ref q), some (.ref r), some (sy s), some (sy S), some (.ref pA), some (dm u), some (dm e), some (.ref p8), x9, some (fr X), some (fr Y), none, none, none, none, none, none, none, none, none]) ?_ ?_
  · bv_omega
    refine g_lstR e8 rfl ?_
    bv_omega
  rintro σ h ⟨rfl, rfl⟩
  have l16 := D.len
  have uu := PL.Uok.mk (ou.mono (by decide : 2 ≤ 4)) fun p hp => by have := le3 ou p hp; omega
  have ue := PL.Uok.mk (oe.mono (by decide : 2 ≤ 4)) fun p hp => by have := le3 oe p hp; omega
  refine wp_cut CM (fun σ h' => h' = h ∧ σ = [some (.rl (ns.map .int)), some (.ref q), some (.ref r), some (sy s), some (sy S), some (.ref pA), some (dm u), some (dm e), some (.ref p8), x9, some (fr X), some (fr Y), none, none, none, none, none, none, none, none, none]) ?_ ?_
  · bv_omega
    refine is_system_spec (n := 93) CD CF' CU (dty_sy o.nU o.nN o.ok) ?_
    rw [isSys_sy o.nU o.nN o.N6 o.ok (by decide)]
    bv_omega
    refine dimension_in_spec (n := 91) CD CF' CU o uu fun D1 o1 v1 => ?_
    refine dimension_in_spec (n := 91) CD CF' CU o ue fun D2 o2 v2 => ?_
    refine eq_dm o.nN o.nN o1 o2 ?_
    have : D1 = D2 := ext_dm o1 o2 fun b => by rw [v1, v2, lk b]
    simp only [this, decide_true]
    bv_omega
  rintro σ h' ⟨rfl, rfl⟩
  generalize hF : sprod (facs S) = F
  have sF : ∀ {d : Dm}, Vok S d → Sz 700 (F d) := fun od => by rw [← hF]; exact sz_v o l16 od
  have nF : ∀ d : Dm, F d ≠ 0 := fun d => by rw [← hF]; exact ne_v o d
  have cv : ∀ {n : Nat} {Q : AQ} {E : AXQ} {h : AH} {x : Rat} {a : Nat} {d e : Dm}, Sz a x → 0 < a → a ≤ 6000 → Vok S d → Vok S e → Like S d e → Q (fr (x * F d / F e)) h → wpC G (n + 8) 164 [sy S, fr x, dm d, dm e] h Q E := fun sx ha ha2 od oe lk q => conv o l16 sx ha ha2 od oe lk (by rw [hF]; exact q)
  have sc : ∀ {x : Rat} {a : Nat} {d e : Dm}, Sz a x → Vok S d → Vok S e → Sz (a + 700 + 700) (x * F d / F e) := fun sx od oe => sz_div (nF _) (sz_mul sx (sF od)) (sF oe)
  have kl : Like S e u := fun b => (lk b).symm
  have ll : ∀ d, Like S d d := fun d b => rfl
  refine wp_cut CM (fun σ h => h = h' ∧ σ = [some (.rl (ns.map .int)), some (.ref q), some (.ref r), some (sy s), some (sy S), some (.ref pA), some (dm u), some (dm e), some (.ref p8), x9, some (fr X), some (fr Y), some (fr (F u)), none, none, none, none, none, none, none, none]) ?_ ?_
  · bv_omega
    refine law_factor_spec (n := 97) k11 k157 o uu ?_
    rw [hF]
    exact ⟨rfl, rfl⟩
  rintro σ h ⟨rfl, rfl⟩
  refine wp_cut CM (fun σ h' => h' = h ∧ σ = [some (.rl (ns.map .int)), some (.ref q), some (.ref r), some (sy s), some (sy S), some (.ref pA), some (dm u), some (dm e), some (.ref p8), x9, some (fr X), some (fr Y), some (fr (F u)), some (fr (F e)), none, none, none, none, none, none, none]) ?_ ?_
  · bv_omega
    refine law_factor_spec (n := 97) k11 k157 o ue ?_
    rw [hF]
    exact ⟨rfl, rfl⟩
  rintro σ h' ⟨rfl, rfl⟩
  refine wp_cut CM (fun σ h => ALe h' h ∧ ∃ x14 x15, σ = [some (.rl (ns.map .int)), some (.ref q), some (.ref r), some (sy s), some (sy S), some (.ref pA), some (dm u), some (dm e), some (.ref p8), x9, some (fr X), some (fr Y), some (fr (F u)), some (fr (F e)), x14, x15, none, none, none, none, none]) ?_ ?_
  · refine for_v CM ?_
    bv_omega
    intro p2 n2
    have pp : p8 ≠ p2 := fun z => by subst z; rw [e8] at n2; cases n2
    refine ⟨_, _, by rw [aupd_ne pp]; exact e8, aupd_same, by exact len_small (by simp), fun p3 n3 => ?_⟩
    refine v_ref (C := wpC G 99) (T := G.T) aupd_same ?_
    have l3 := ALe.trans (ALe.fresh (o := .lst [.tup [.int 0, .int 1]]) n2) (ALe.fresh (o := .lst ([fr X, fr Y] ++ [.tup [.int 0, .int 1]])) n3)
    generalize hH : aupd (aupd h' p2 (.lst [.tup [.int 0, .int 1]])) p3 (.lst ([fr X, fr Y] ++ [.tup [.int 0, .int 1]])) = H at l3
    have e3 : H p3 = some (.lst ([fr X, fr Y] ++ [.tup [.int 0, .int 1]])) := by rw [← hH, aupd_same]
    refine ⟨fun xs σ h => h = H ∧ (∃ x14 x15, σ = [some (.rl (ns.map .int)), some (.ref q), some (.ref r), some (sy s), some (sy S), some (.ref pA), some (dm u), some (dm e), some (.ref p8), x9, some (fr X), some (fr Y), some (fr (F u)), some (fr (F e)), x14, x15, none, none, none, none, none]) ∧ ∀ x ∈ xs, ∃ Z, x = fr Z ∧ Sz 40 Z, ⟨rfl, ⟨_, _, rfl⟩, ?_⟩, ?_, ?_⟩
    · intro x hx
      simp only [List.cons_append, List.nil_append, List.mem_cons, List.not_mem_nil, or_false] at hx
      rcases hx with rfl | rfl | rfl
      · exact ⟨X, rfl, sX⟩
      · exact ⟨Y, rfl, sY⟩
      · exact ⟨0, rfl, sz_zero (by decide)⟩
    · rintro σ h ⟨rfl, ⟨x14, x15, rfl⟩, _⟩
      exact ⟨e3, l3, _, _, rfl⟩
    · rintro x xs σ h ⟨rfl, ⟨x14, x15, rfl⟩, hx⟩
      obtain ⟨Z, rfl, sZ⟩ := hx x List.mem_cons_self
      refine ⟨e3, ?_⟩
      have m1 := sF ou
      have m2 := sF oe
      bv_omega
      refine ix0 ?_
      refine ix0 ?_
      bv_omega
      refine ⟨mulW sZ.1 m1.1 (by decide) (by decide) (by decide), ix1 ?_⟩
      bv_omega
      refine ⟨mulW (lt_mul sZ.1 m1.1) (j := ((F e).den : Int)) m2.2 (by decide) (by decide) (by decide), ix1 ?_⟩
      refine ix1 ?_
      bv_omega
      refine ⟨mulW (i := (Z.den : Int)) (j := ((F u).den : Int)) sZ.2 m1.2 (by decide) (by decide) (by decide), ix0 ?_⟩
      bv_omega
      refine ⟨mulW (i := (Z.den : Int) * (F u).den) (lt_mul (i := (Z.den : Int)) (j := ((F u).den : Int)) sZ.2 m1.2) m2.1 (by decide) (by decide) (by decide), ?_⟩
      refine law_low_spec (n := 98) k11 (Int.mul_ne_zero (Int.mul_ne_zero (den_nz _) (den_nz _)) (num_nz (nF e))) (Nat.lt_of_lt_of_le (lt_mul (i := (Z.den : Int) * (F u).den) (lt_mul (i := (Z.den : Int)) (j := ((F u).den : Int)) sZ.2 m1.2) m2.1) (Nat.pow_le_pow_right (by decide) (by decide))) ?_
      rw [low3 _ _ _ (nF e)]
      refine cv (n := 91) sZ (by decide) (by decide) ou oe lk ?_
      refine law_is_fr (n := 97) k9 rfl ?_
      bv_omega
      refine cv (n := 91) (sc sZ ou oe) (by decide) (by decide) oe ou kl ?_
      refine eq_fr ?_
      have : Z * F u / F e * F e / F u = Z := by
        have h1 := nF u
        have h2 := nF e
        generalize F u = a at h1 ⊢
        generalize F e = b at h2 ⊢
        grind
      simp only [this, decide_true]
      bv_omega
      refine cv (n := 91) sZ (by decide) (by decide) ou ou (ll u) ?_
      refine eq_fr ?_
      have : Z * F u / F u = Z := by
        have h1 := nF u
        generalize F u = a at h1 ⊢
        grind
      simp only [this, decide_true]
      bv_omega
      exact ⟨⟨_, _, rfl⟩, fun y hy => hx y (List.mem_cons_of_mem _ hy)⟩
  rintro σ h ⟨l1, x14, x15, rfl⟩
  have eA := l1 pA _ eA
  have sXu := sc sX ou oe
  have sYu := sc sY ou oe
  have pl := fun {n : Nat} {Q : AQ} {E : AXQ} {h : AH} {x y : Rat} {a b : Nat} (hx : Sz a x) (hy : Sz b y) (ha : 0 < a) (hb : 0 < b) (hab : a + b ≤ 8000) (q : Q (fr (x + y)) h) => plus_spec (G := G) (n := n) (E := E) CF'.c0 CF'.c1 CF'.c2 CF'.c3 CF'.c4 k5 k13 hx hy ha hb hab q
  have tm := fun {n : Nat} {Q : AQ} {E : AXQ} {h : AH} {x y : Rat} {a b : Nat} (hx : Sz a x) (hy : Sz b y) (ha : 0 < a) (hb : 0 < b) (hab : a + b ≤ 8000) (q : Q (fr (x * y)) h) => times_spec (G := G) (n := n) (E := E) CF'.c0 CF'.c1 CF'.c2 CF'.c3 CF'.c4 CF'.c7 k15 hx hy ha hb hab q
  refine wp_cut CM (fun σ h' => h' = h ∧ σ = [some (.rl (ns.map .int)), some (.ref q), some (.ref r), some (sy s), some (sy S), some (.ref pA), some (dm u), some (dm e), some (.ref p8), x9, some (fr X), some (fr Y), some (fr (F u)), some (fr (F e)), x14, x15, some (fr ((X + Y) * F u / F e)), none, none, none, none]) ?_ ?_
  · bv_omega
    refine pl (n := 95) sX sY (by decide) (by decide) (by decide) ?_
    exact cv (n := 91) (sz_add sX sY) (by decide) (by decide) ou oe lk ⟨rfl, rfl⟩
  rintro σ h' ⟨rfl, rfl⟩
  have r1 : X * F u / F e + Y * F u / F e = (X + Y) * F u / F e := by
    have h2 := nF e
    generalize F u = a
    generalize F e = b at h2 ⊢
    grind
  have r2 : X * (Y * F u / F e) = X * Y * F u / F e := by
    have h2 := nF e
    generalize F u = a
    generalize F e = b at h2 ⊢
    grind
  have r3 : X * (F u / F e) = X * F u / F e := by
    have h2 := nF e
    generalize F u = a
    generalize F e = b at h2 ⊢
    grind
  generalize hS : ([some (.rl (ns.map .int)), some (.ref q), some (.ref r), some (sy s), some (sy S), some (.ref pA), some (dm u), some (dm e), some (.ref p8), x9, some (fr X), some (fr Y), some (fr (F u)), some (fr (F e)), x14, x15, some (fr ((X + Y) * F u / F e)), none, none, none, none] : AEnv) = SS
  refine wp_cut CM (fun σ h => h = h' ∧ σ = SS) ?_ ?_
  · subst hS
    bv_omega
    refine cv (n := 91) sX (by decide) (by decide) ou oe lk ?_
    refine cv (n := 91) sY (by decide) (by decide) ou oe lk ?_
    refine pl (n := 95) sXu sYu (by decide) (by decide) (by decide) ?_
    refine eq_fr ?_
    simp only [r1, decide_true]
    bv_omega
  rintro σ h ⟨rfl, e1⟩
  rw [e1]
  refine wp_cut CM (fun σ h' => h' = h ∧ σ = SS) ?_ ?_
  · subst hS
    bv_omega
    refine tm (n := 95) sX sY (by decide) (by decide) (by decide) ?_
    refine cv (n := 91) (sz_mul sX sY) (by decide) (by decide) ou oe lk ?_
    refine cv (n := 91) sY (by decide) (by decide) ou oe lk ?_
    refine tm (n := 95) sX sYu (by decide) (by decide) (by decide) ?_
    refine eq_fr ?_
    simp only [r2, decide_true]
    bv_omega
  rintro σ h' ⟨rfl, e1⟩
  rw [e1]
  refine wp_cut CM (fun σ h => h = h' ∧ σ = SS) ?_ ?_
  · subst hS
    bv_omega
    refine cv (n := 91) sX (by decide) (by decide) ou oe lk ?_
    refine factor_of_spec (n := 91) CD CF' CU o uu ?_
    refine factor_of_spec (n := 91) CD CF' CU o ue ?_
    rw [hF]
    refine by_spec (n := 95) CF'.c0 CF'.c1 CF'.c2 CF'.c3 CF'.c4 CU.c8 k16 (sF ou) (sF oe) (nF e) (by decide) (by decide) (by decide) ?_
    refine tm (n := 95) sX (sz_div (nF e) (sF ou) (sF oe)) (by decide) (by decide) (by decide) ?_
    refine eq_fr ?_
    simp only [r3, decide_true]
    bv_omega
  rintro σ h ⟨rfl, e1⟩
  rw [e1]
  subst hS
  refine wp_cut CM (fun σ h' => h' = h ∧ ∃ x17 x18 x19 x20, σ = [some (.rl (ns.map .int)), some (.ref q), some (.ref r), some (sy s), some (sy S), some (.ref pA), some (dm u), some (dm e), some (.ref p8), x9, some (fr X), some (fr Y), some (fr (F u)), some (fr (F e)), x14, x15, some (fr ((X + Y) * F u / F e)), x17, x18, x19, x20]) ?_ ?_
  · refine for_v CM ?_
    bv_omega
    show itR (.tup (u.map (prf AV.int))) _ _
    rw [v_tup]
    refine ⟨fun xs σ h' => h' = h ∧ ∃ (rest : Dm) (x17 x18 x19 x20 : Option AV), xs = rest.map (prf AV.int) ∧ (∀ p ∈ rest, p ∈ u) ∧ σ = [some (.rl (ns.map .int)), some (.ref q), some (.ref r), some (sy s), some (sy S), some (.ref pA), some (dm u), some (dm e), some (.ref p8), x9, some (fr X), some (fr Y), some (fr (F u)), some (fr (F e)), x14, x15, some (fr ((X + Y) * F u / F e)), x17, x18, x19, x20], ⟨rfl, u, none, none, none, none, rfl, fun _ h => h, rfl⟩, ?_, ?_⟩
    · rintro σ h' ⟨rfl, rest, x17, x18, x19, x20, e, _, rfl⟩
      exact ⟨trivial, rfl, _, _, _, _, rfl⟩
    · rintro x xs σ h' ⟨rfl, rest, x17, x18, x19, x20, e', hr, rfl⟩
      cases rest with
      | nil => cases e'
      | cons p rest =>
        obtain ⟨b, m⟩ := p
        rw [List.map_cons] at e'
        obtain ⟨rfl, rfl⟩ := List.cons.inj e'
        have hm := hr (b, m) List.mem_cons_self
        obtain ⟨qs, hqs, eb⟩ := List.mem_map.mp (ou'.sub _ hm)
        have eb : qs.1 = b := eb
        obtain ⟨z, f, hz1, hz2, hz3⟩ := D.an qs hqs
        rw [eb] at hz1
        have hmz := ou.nz _ hm
        have hzu : z ∉ u.map (·.1) := fun hh => by
          obtain ⟨r, hr, e⟩ := List.mem_map.mp hh
          exact hz3 (e ▸ ou'.sub r hr)
        have ob : Vok S [(b, m)] := ⟨List.pairwise_singleton _ _, fun p hp => by rw [List.mem_singleton.mp hp]; exact hmz, fun p hp => by rw [List.mem_singleton.mp hp]; exact ou.sub _ hm⟩
        have oz : Vok S [(z, m)] := ⟨List.pairwise_singleton _ _, fun p hp => by rw [List.mem_singleton.mp hp]; exact hmz, fun p hp => by rw [List.mem_singleton.mp hp]; exact List.mem_map.mpr ⟨_, hz2, rfl⟩⟩
        have zb : z ≠ b := fun e => hzu (e ▸ List.mem_map.mpr ⟨_, hm, rfl⟩)
        have dvb : ∀ x, dv [(b, m)] x = if x = b then m else 0 := fun x => by rw [dv_cons, dv_nil]
        have dvz : ∀ x, dv [(z, m)] x = if x = z then m else 0 := fun x => by rw [dv_cons, dv_nil]
        have dub : dv u b = m := dv_of ou.asc.nks hm
        have duz : dv u z = 0 := dv_none hzu
        have m4 : m.natAbs < 2 ^ 2 := hmz.2
        refine ⟨trivial, g_tupR rfl ?_⟩
        bv_omega
        refine law_added_gen (n := 98) (K := 2) (other := [(b, m)]) k46 o.keys ou ob (fun p hp => pm1_mulW (.inr rfl) (ob.nz p hp).2 (by decide)) (fun x => ?_) fun t1 ot1 vt1 => ?_
        · rw [dvb]
          by_cases xb : x = b
          · rw [if_pos xb, xb, dub]
            have : (m + (0 - 1) * m) = 0 := by omega
            rw [this]; decide
          · rw [if_neg xb, Int.mul_zero, Int.add_zero]
            exact ou.bd x
        refine x_dK (v := .str z) eA (k' := .inr b) rfl (by rw [lookup_map_kv, hz1]; rfl) ?_
        have t1z : dv t1 z = 0 := by rw [vt1, duz, dvb, if_neg zb]; rfl
        refine law_added_gen (n := 98) (K := 2) (other := [(z, m)]) k46 o.keys ot1 oz (fun p hp => pm1_mulW (.inl rfl) (oz.nz p hp).2 (by decide)) (fun x => ?_) fun t2 ot2 vt2 => ?_
        · rw [dvz]
          by_cases xz : x = z
          · rw [if_pos xz, xz, t1z, Int.zero_add, Int.one_mul]
            exact m4
          · rw [if_neg xz, Int.mul_zero, Int.add_zero]
            exact ot1.bd x
        have nd : (S.map (·.1)).Nodup := o.ok.asc.nks
        have lt2 : Like S u t2 := fun x => by
          have h1 := usum_sub (s := S) nd ou ob ot1 (fun b => by rw [vt1]; omega) x
          have h2 := usum_add (s := S) (N := []) nd ot1 oz ot2 (fun b => by rw [vt2]; omega) x
          have e1 : usum S x [(b, m)] = m * dv (ud S b) x + 0 := rfl
          have e2 : usum S x [(z, m)] = m * dv (ud S z) x + 0 := rfl
          have u1 : ud S b = qs.2.2 := by rw [← eb]; exact ud_of o.ok.asc.nks (D.mem _ hqs)
          have u2 : ud S z = qs.2.2 := ud_of o.ok.asc.nks hz2
          rw [e1, u1] at h1
          rw [e2, u2] at h2
          omega
        have lt3 : Like S t2 e := fun x => by rw [← lt2 x, lk x]
        refine cv (n := 91) sX (by decide) (by decide) ou ot2 lt2 ?_
        refine cv (n := 91) (sc sX ou ot2) (by decide) (by decide) ot2 oe lt3 ?_
        refine cv (n := 91) sX (by decide) (by decide) ou oe lk ?_
        refine eq_fr ?_
        have r4 : X * F u / F t2 * F t2 / F e = X * F u / F e := by
          have h2 := nF t2
          generalize F u = a
          generalize F t2 = c at h2 ⊢
          generalize F e = d
          have : X * a / c * c = X * a := by grind
          rw [this]
        simp only [r4, decide_true]
        bv_omega
        exact ⟨rest, _, _, _, _, rfl, fun p hp => hr p (List.mem_cons_of_mem _ hp), rfl⟩
  rintro σ h' ⟨rfl, x17, x18, x19, x20, rfl⟩
  bv_omega
  exact refuses_spec (n := 89) o l16 sX (by decide) (by decide) ou oe fun _ _ => shr_i rfl
end K40

namespace K40
open PySem PySem.Spec PyProof.Rows L2 PL
abbrev R : PySem.W.OpenRow := PySem.W.OpenLaw.row PySem.Challenge.rw_anyunits_k40_whole_conversions
abbrev hk : PySem.W.Hook := hookG 5 L (fnOf L)
def ob (s : PySem.W.SharedT) : AlG := obsGG 5 L (fnOf L) (HandSHeadRun.getT s)
theorem ob_eq (s : PySem.W.SharedT) : ob s = hk.obs s.abs := obsGG_eq (HandSHeadRun.getT_eq s)
def names : List PySem.Str := "__name__" :: "UnitsError" :: "NoFraction" :: "Zero" :: "Unlike" :: "NoSystem" :: "NoUnits" :: "ONE" :: "is_integer" :: "is_within" :: "divisor" :: "is_fraction" :: "made" :: "check_fraction" :: "raw_plus" :: "raw_times" :: "raw_by" :: "plus" :: "times" :: "by" :: "raw_power" :: "LETTERS" :: "MOST_NAME" :: "is_name" :: "are_named_pairs" :: "is_dimension" :: "raw_together" :: "raw_raised" :: "MOST_BASES" :: "MOST_EXPONENT" :: "is_plain_dimension" :: "MOST_UNITS" :: "is_told_unit" :: "is_system" :: "check_system" :: "raw_are_units" :: "check_units" :: "raw_factor" :: "raw_dimension" :: "factor_of" :: "dimension_in" :: "raw_converted" :: "converted" :: "_law_hand" :: "_law_draw" :: "_law_is" :: "_law_low" :: "_law_names" :: "_law_size" :: "_law_added" :: "_law_system" :: "_law_units" :: "_law_factor" :: "_law_doubled" :: "_law_told" :: "_law_named" :: "_law_refuses" :: []
theorem run (w : World) : HandSHeadRun.RunEq R (PySem.W.view R.prog [62]) hk ob 6000 names w := by
  intro os
  kernel_rfl
end K40
open PySem PySem.W PySem.Calls PyProof.Rows
theorem PySem.Challenge.cw_anyunits_k40_whole_conversions_holds : PySem.Challenge.rw_anyunits_k40_whole_conversions.Holds := by
  w_on; o_law
  refine HandSHeadRun.head_any (r := OpenLaw.row PySem.Challenge.rw_anyunits_k40_whole_conversions) (q := view (OpenLaw.row PySem.Challenge.rw_anyunits_k40_whole_conversions).prog [62]) (H := K40.hk) (ob := K40.ob) (M := 6000) (loose := K40.names) (d := HandSHeadRun.topDef (OpenLaw.row PySem.Challenge.rw_anyunits_k40_whole_conversions).prog 62) (kwd := []) K40.ob_eq
    (by kernel_rfl) (fun s => by kernel_rfl) K40.run (by kernel_rfl) (by kernel_rfl) (by kernel_rfl) (by rfl) (by first | assumption | decide +kernel) (by decide +kernel) ⟨rfl, rfl, rfl, rfl, rfl, by decide +kernel⟩ ?hw ?hc
  case hw => w_witness2
  case hc =>
    exact PL.law_end (l := PySem.Challenge.rw_anyunits_k40_whole_conversions) (n := 63) (k := 100) (L := K40.L) (dl := K40.d_law) (x := "script") rfl (by decide) (by kernel_rfl) ⟨rfl, by decide, by decide⟩ (List.mem_of_getElem? (i := 44) rfl) (by kernel_rfl) rfl K40.nd K40.chk K40.bd K40.main
