import PyProof.Rows.All
import Wide.All
import OpenK.AllK
import Wide.FinOn
import KE.KStateDown
import KE.KDictPairs
import Lean
import HandS.Base
import HandS.Call
import HandS.List
import HandS.Comp
import HandS.Ends
import HandS.Dict
import HandS.Iter
import HandS.Text
import HandS.More
import HandS.Words
import HandS.WordsList
import HandS.WordsDict
import HandS.Exc
import HandS.ExcOwn
import HandS.WordsExc
import HandS.Defaults
import HandS.TryMany
import HandS.IsInst
import HandS.Wide
import HandS.Zip
import HandS.NoneIn
import HandS.TryOnly
import HandS.Style
import HandS.Small
import HandS.Strs
import HandS.TupAny
import HandS.TupMul
import HandS.TupLe
import HandS.SortInts
import HandS.SortRule
import HandS.EndBits
import HandS.Head0
import HandS.Head1
import HandS.Head2
import HandS.HeadEnd
import HandS.HeadHook1
import HandS.HeadHook2
import HandS.HeadHook3
import HandS.Deep
import PyProof.Rows.SortKeyStr
import KE.DatumOrd
import KE.GoesMore
import KE.GoesEnum
import PySem.Challenge.RW_anyunits_k04_whole_books_right_and_spoil
set_option Elab.async false
set_option linter.all false
set_option maxRecDepth 100000
set_option maxHeartbeats 0
namespace PL
open PySem PySem.Spec PyProof.Rows L2

inductive AV where
  | non | bl (b : Bool) | int (i : Int) | str (x : Str) | tup (xs : List AV) | wt (xs : List AV) | rl (xs : List AV) | ref (a : Addr)

def SqF (K : PySem.W.Frag) (H : Hp) (a : Addr) (xs : List V) : Prop :=
  (∃ o, H a = some (.frz o (.lst xs))) ∨
    ∃ (o : Obj) (its : Array Value) (n : Nat), K.lookup a = some o ∧ o.cls = .type "list" ∧ o.dict = none ∧ o.data = .seq its n ∧ its.size ≤ sizeLine ∧ Vals xs its.toList
theorem SqF.sq {K : PySem.W.Frag} {H : Hp} {a : Addr} {xs : List V} (h : SqF K H a xs) : SqL K H a xs := by
  rcases h with ⟨o, h⟩ | h
  · exact .inl (.inr ⟨o, h⟩)
  · exact .inr h

def SqP (K : PySem.W.Frag) (H : Hp) (a : Addr) (xs : List V) : Prop :=
  (∃ o : Obj, o.dict = none ∧ H a = some (.frz o (.tup xs))) ∨
    ∃ (o : Obj) (its : Array Value) (n : Nat), K.lookup a = some o ∧ o.dict = none ∧ o.cls = .type "tuple" ∧ o.data = .seq its n ∧ its.size ≤ sizeLine ∧ Vals xs its.toList
theorem SqP.sq {K : PySem.W.Frag} {H : Hp} {a : Addr} {xs : List V} (h : SqP K H a xs) : SqT K H a xs := by
  rcases h with ⟨o, _, h⟩ | ⟨o, its, n, e, _, r⟩
  · exact .inl (.inr ⟨o, h⟩)
  · exact .inr ⟨o, its, n, e, r⟩

instance : Inhabited AV := ⟨.non⟩

mutual
def Rep (K : PySem.W.Frag) (H : Hp) : AV → V → Prop
  | .non, v => v = .non
  | .bl b, v => v = .bl b
  | .int i, v => v = .int i
  | .str x, v => v = .str x
  | .tup xs, v => ∃ a vs, v = .ref a ∧ SqP K H a vs ∧ Reps K H xs vs
  | .wt xs, v => ∃ a vs, v = .ref a ∧ SqT K H a vs ∧ Reps K H xs vs
  | .rl xs, v => ∃ a vs, v = .ref a ∧ SqF K H a vs ∧ Reps K H xs vs
  | .ref a, v => v = .ref a
def Reps (K : PySem.W.Frag) (H : Hp) : List AV → List V → Prop
  | [], vs => vs = []
  | x :: xs, vs => ∃ v r, vs = v :: r ∧ Rep K H x v ∧ Reps K H xs r
end

structure TLe (K : PySem.W.Frag) (H H' : Hp) : Prop where
  t : ∀ a vs, SqT K H a vs → SqT K H' a vs
  f : ∀ a vs, SqF K H a vs → SqF K H' a vs
  p : ∀ a vs, SqP K H a vs → SqP K H' a vs
theorem TLe.refl {K : PySem.W.Frag} {H : Hp} : TLe K H H := ⟨fun _ _ h => h, fun _ _ h => h, fun _ _ h => h⟩
theorem TLe.trans {K : PySem.W.Frag} {H H1 H2 : Hp} (a : TLe K H H1) (b : TLe K H1 H2) : TLe K H H2 := ⟨fun x vs h => b.t x vs (a.t x vs h), fun x vs h => b.f x vs (a.f x vs h), fun x vs h => b.p x vs (a.p x vs h)⟩
theorem TLe.off {K : PySem.W.Frag} {H : Hp} {p : Addr} {o : HO} (h1 : ∀ xs, H p ≠ some (.tup xs)) (h2 : ∀ o xs, H p ≠ some (.frz o xs)) : TLe K H (upd H p o) := by
  refine ⟨fun a vs h => ?_, fun a vs h => ?_, fun a vs h => ?_⟩
  · rcases h with h | h
    · have ne : a ≠ p := by
        rintro rfl
        rcases h with h | ⟨ob, h⟩
        · exact h1 _ h
        · exact h2 _ _ h
      rcases h with h | ⟨ob, h⟩
      · exact .inl (.inl (by rw [upd_ne ne]; exact h))
      · exact .inl (.inr ⟨ob, by rw [upd_ne ne]; exact h⟩)
    · exact .inr h
  · rcases h with ⟨ob, h⟩ | h
    · have ne : a ≠ p := by
        rintro rfl
        exact h2 _ _ h
      exact .inl ⟨ob, by rw [upd_ne ne]; exact h⟩
    · exact .inr h
  · rcases h with ⟨ob, hd, h⟩ | h
    · have ne : a ≠ p := by
        rintro rfl
        exact h2 _ _ h
      exact .inl ⟨ob, hd, by rw [upd_ne ne]; exact h⟩
    · exact .inr h
theorem TLe.fresh {K : PySem.W.Frag} {H : Hp} {p : Addr} {o : HO} (hp : H p = none) : TLe K H (upd H p o) := TLe.off (fun _ e => by rw [hp] at e; cases e) fun _ _ e => by rw [hp] at e; cases e
def NoTup : HO → Prop
  | .tup _ => False
  | .frz _ _ => False
  | _ => True
theorem TLe.write {K : PySem.W.Frag} {H : Hp} {p : Addr} {o o' : HO} (hp : H p = some o) (hn : NoTup o) : TLe K H (upd H p o') :=
  TLe.off (fun _ e => by rw [hp] at e; cases e; exact hn) fun _ _ e => by rw [hp] at e; cases e; exact hn

mutual
theorem Rep.mono {K : PySem.W.Frag} {H H' : Hp} (t : TLe K H H') : ∀ {x : AV} {v : V}, Rep K H x v → Rep K H' x v
  | .non, _, h => h
  | .bl _, _, h => h
  | .int _, _, h => h
  | .str _, _, h => h
  | .ref _, _, h => h
  | .tup xs, v, h => by
    unfold Rep at h ⊢
    obtain ⟨a, vs, e, q, r⟩ := h
    exact ⟨a, vs, e, t.p a vs q, Reps.mono t r⟩
  | .wt xs, v, h => by
    unfold Rep at h ⊢
    obtain ⟨a, vs, e, q, r⟩ := h
    exact ⟨a, vs, e, t.t a vs q, Reps.mono t r⟩
  | .rl xs, v, h => by
    unfold Rep at h ⊢
    obtain ⟨a, vs, e, q, r⟩ := h
    exact ⟨a, vs, e, t.f a vs q, Reps.mono t r⟩
theorem Reps.mono {K : PySem.W.Frag} {H H' : Hp} (t : TLe K H H') : ∀ {xs : List AV} {vs : List V}, Reps K H xs vs → Reps K H' xs vs
  | [], _, h => h
  | x :: xs, vs, h => by
    unfold Reps at h ⊢
    obtain ⟨v, r, e, a, b⟩ := h
    exact ⟨v, r, e, Rep.mono t a, Reps.mono t b⟩
end
section
variable {K : PySem.W.Frag} {H H' : Hp}
theorem rep_non {v : V} : Rep K H .non v ↔ v = .non := by unfold Rep; exact Iff.rfl
theorem rep_bl {b : Bool} {v : V} : Rep K H (.bl b) v ↔ v = .bl b := by unfold Rep; exact Iff.rfl
theorem rep_int {i : Int} {v : V} : Rep K H (.int i) v ↔ v = .int i := by unfold Rep; exact Iff.rfl
theorem rep_str {x : Str} {v : V} : Rep K H (.str x) v ↔ v = .str x := by unfold Rep; exact Iff.rfl
theorem rep_ref {a : Addr} {v : V} : Rep K H (.ref a) v ↔ v = .ref a := by unfold Rep; exact Iff.rfl
theorem rep_tup {xs : List AV} {v : V} : Rep K H (.tup xs) v ↔ ∃ a vs, v = .ref a ∧ SqP K H a vs ∧ Reps K H xs vs := by unfold Rep; exact Iff.rfl
theorem rep_wt {xs : List AV} {v : V} : Rep K H (.wt xs) v ↔ ∃ a vs, v = .ref a ∧ SqT K H a vs ∧ Reps K H xs vs := by unfold Rep; exact Iff.rfl
theorem rep_tupT {xs : List AV} {v : V} (h : Rep K H (.tup xs) v) : ∃ a vs, v = .ref a ∧ SqT K H a vs ∧ Reps K H xs vs :=
  let ⟨a, vs, e, q, r⟩ := rep_tup.mp h
  ⟨a, vs, e, q.sq, r⟩
theorem rep_rl {xs : List AV} {v : V} : Rep K H (.rl xs) v ↔ ∃ a vs, v = .ref a ∧ SqF K H a vs ∧ Reps K H xs vs := by unfold Rep; exact Iff.rfl
theorem reps_nil {vs : List V} : Reps K H [] vs ↔ vs = [] := by unfold Reps; exact Iff.rfl
theorem reps_cons {x : AV} {xs : List AV} {vs : List V} : Reps K H (x :: xs) vs ↔ ∃ v r, vs = v :: r ∧ Rep K H x v ∧ Reps K H xs r := by
  constructor
  · intro h; unfold Reps at h; exact h
  · intro h; unfold Reps; exact h
theorem Reps.length : ∀ {xs : List AV} {vs : List V}, Reps K H xs vs → vs.length = xs.length
  | [], _, h => by rw [reps_nil.mp h]; rfl
  | x :: xs, vs, h => by
    obtain ⟨v, r, rfl, _, q⟩ := reps_cons.mp h
    rw [List.length_cons, List.length_cons, Reps.length q]
theorem Reps.get : ∀ {xs : List AV} {vs : List V} {i : Nat} {x : AV}, Reps K H xs vs → xs[i]? = some x → ∃ v, vs[i]? = some v ∧ Rep K H x v
  | [], _, _, _, _, e => by simp at e
  | y :: xs, vs, 0, x, h, e => by
    obtain ⟨v, r, rfl, a, _⟩ := reps_cons.mp h
    simp at e; subst e
    exact ⟨v, rfl, a⟩
  | y :: xs, vs, i + 1, x, h, e => by
    obtain ⟨v, r, rfl, _, q⟩ := reps_cons.mp h
    obtain ⟨w, e2, a⟩ := Reps.get (i := i) q (by simpa using e)
    exact ⟨w, by simpa using e2, a⟩
theorem Reps.back : ∀ {xs : List AV} {vs : List V} {i : Nat} {v : V}, Reps K H xs vs → vs[i]? = some v → ∃ x, xs[i]? = some x ∧ Rep K H x v
  | [], _, _, _, h, e => by rw [reps_nil.mp h] at e; simp at e
  | y :: xs, vs, 0, v, h, e => by
    obtain ⟨w, r, rfl, a, _⟩ := reps_cons.mp h
    simp at e; subst e
    exact ⟨y, rfl, a⟩
  | y :: xs, vs, i + 1, v, h, e => by
    obtain ⟨w, r, rfl, _, q⟩ := reps_cons.mp h
    obtain ⟨x, e2, a⟩ := Reps.back (i := i) q (by simpa using e)
    exact ⟨x, by simpa using e2, a⟩
theorem Reps.append : ∀ {xs ys : List AV} {vs ws : List V}, Reps K H xs vs → Reps K H ys ws → Reps K H (xs ++ ys) (vs ++ ws)
  | [], ys, vs, ws, h, k => by rw [reps_nil.mp h]; exact k
  | x :: xs, ys, vs, ws, h, k => by
    obtain ⟨v, r, rfl, a, q⟩ := reps_cons.mp h
    exact reps_cons.mpr ⟨v, r ++ ws, rfl, a, Reps.append q k⟩
theorem Reps.one {x : AV} {v : V} (h : Rep K H x v) : Reps K H [x] [v] := reps_cons.mpr ⟨v, [], rfl, h, reps_nil.mpr rfl⟩
theorem Reps.set : ∀ {xs : List AV} {vs : List V} {x : AV} {v : V} (i : Nat), Reps K H xs vs → Rep K H x v → Reps K H (xs.set i x) (vs.set i v)
  | [], vs, _, _, _, h, _ => by rw [reps_nil.mp h]; exact reps_nil.mpr rfl
  | y :: xs, vs, x, v, 0, h, k => by
    obtain ⟨w, r, rfl, a, q⟩ := reps_cons.mp h
    exact reps_cons.mpr ⟨v, r, rfl, k, q⟩
  | y :: xs, vs, x, v, i + 1, h, k => by
    obtain ⟨w, r, rfl, a, q⟩ := reps_cons.mp h
    exact reps_cons.mpr ⟨w, r.set i v, rfl, a, Reps.set i q k⟩
theorem Reps.take : ∀ {xs : List AV} {vs : List V} (n : Nat), Reps K H xs vs → Reps K H (xs.take n) (vs.take n)
  | [], vs, n, h => by rw [reps_nil.mp h]; simp [reps_nil]
  | y :: xs, vs, 0, h => by simp [reps_nil]
  | y :: xs, vs, n + 1, h => by
    obtain ⟨w, r, rfl, a, q⟩ := reps_cons.mp h
    exact reps_cons.mpr ⟨w, r.take n, rfl, a, Reps.take n q⟩
theorem Reps.drop : ∀ {xs : List AV} {vs : List V} (n : Nat), Reps K H xs vs → Reps K H (xs.drop n) (vs.drop n)
  | [], vs, n, h => by rw [reps_nil.mp h]; simp [reps_nil]
  | y :: xs, vs, 0, h => h
  | y :: xs, vs, n + 1, h => by
    obtain ⟨w, r, rfl, a, q⟩ := reps_cons.mp h
    exact Reps.drop n q
theorem Reps.reverse : ∀ {xs : List AV} {vs : List V}, Reps K H xs vs → Reps K H xs.reverse vs.reverse
  | [], vs, h => by rw [reps_nil.mp h]; exact reps_nil.mpr rfl
  | y :: xs, vs, h => by
    obtain ⟨w, r, rfl, a, q⟩ := reps_cons.mp h
    rw [List.reverse_cons, List.reverse_cons]
    exact (Reps.reverse q).append (Reps.one a)
theorem Reps.ints : ∀ {ns : List Int} {vs : List V}, Reps K H (ns.map AV.int) vs ↔ vs = ns.map V.int
  | [], vs => reps_nil
  | n :: ns, vs => by
    rw [List.map_cons, reps_cons, List.map_cons]
    constructor
    · rintro ⟨v, r, rfl, a, q⟩
      rw [rep_int.mp a, Reps.ints.mp q]
    · rintro rfl
      exact ⟨_, _, rfl, rep_int.mpr rfl, Reps.ints.mpr rfl⟩
theorem Reps.strs : ∀ {ns : List Str} {vs : List V}, Reps K H (ns.map AV.str) vs ↔ vs = ns.map V.str
  | [], vs => reps_nil
  | n :: ns, vs => by
    rw [List.map_cons, reps_cons, List.map_cons]
    constructor
    · rintro ⟨v, r, rfl, a, q⟩
      rw [rep_str.mp a, Reps.strs.mp q]
    · rintro rfl
      exact ⟨_, _, rfl, rep_str.mpr rfl, Reps.strs.mpr rfl⟩
theorem Reps.bls : ∀ {ns : List Bool} {vs : List V}, Reps K H (ns.map AV.bl) vs ↔ vs = ns.map V.bl
  | [], vs => reps_nil
  | n :: ns, vs => by
    rw [List.map_cons, reps_cons, List.map_cons]
    constructor
    · rintro ⟨v, r, rfl, a, q⟩
      rw [rep_bl.mp a, Reps.bls.mp q]
    · rintro rfl
      exact ⟨_, _, rfl, rep_bl.mpr rfl, Reps.bls.mpr rfl⟩
end

inductive AO where
  | lst (xs : List AV)
  | dK (kvs : List (Key × AV))
  | ins (c : Nat) (fs : List (Nat × AV))

abbrev AH := Addr → Option AO
def aupd (h : AH) (a : Addr) (o : AO) : AH := fun b => if b = a then some o else h b
@[simp] theorem aupd_same {h : AH} {a : Addr} {o : AO} : aupd h a o a = some o := by unfold aupd; rw [if_pos rfl]
theorem aupd_ne {h : AH} {a b : Addr} {o : AO} (e : b ≠ a) : aupd h a o b = h b := by unfold aupd; rw [if_neg e]
theorem aupd_aupd {h : AH} {a : Addr} {o u : AO} : aupd (aupd h a o) a u = aupd h a u := by
  funext b; unfold aupd; split <;> rfl
def ALe (h h' : AH) : Prop := ∀ a o, h a = some o → h' a = some o
theorem ALe.refl {h : AH} : ALe h h := fun _ _ e => e
theorem ALe.trans {h h1 h2 : AH} (a : ALe h h1) (b : ALe h1 h2) : ALe h h2 := fun x o e => b x o (a x o e)
theorem ALe.fresh {h : AH} {p : Addr} {o : AO} (hp : h p = none) : ALe h (aupd h p o) := fun a u e => by
  rw [aupd_ne (by rintro rfl; rw [hp] at e; cases e)]; exact e

structure Tb where
  nm : Nat → Option Str
  mt : Nat → Option Str
  cn : Nat → Option Str
  fl : Nat → Option Str
  gn : Nat → Option Str
  gv : Nat → Option AV
  free : List Str
  kc : Nat → Option Str
  ki : Nat → Option Nat
  mf : Nat → Nat → Option Nat
  dt : Nat → Option (Str × List (Str × AV))

structure Wd where
  P : Program
  w : World
  K : PySem.W.Frag
  mg : Str → Option Value
  base : Heap
  T : Tb

def fldName (T : Tb) (i : Nat) : Str := (T.fl i).getD ""
def clsAddr (W : Wd) (c : Nat) : Addr := He.ga W.K ((W.T.cn c).getD "")
def kAddr (W : Wd) (c : Nat) : Addr := He.ga W.K ((W.T.kc c).getD "")

def RO (W : Wd) (H : Hp) (a : Addr) : AO → Prop
  | .lst xs => ∃ vs, H a = some (.lst vs) ∧ Reps W.K H xs vs
  | .dK kvs => ∃ vs, H a = some (.dK ((kvs.map (·.1)).zip vs)) ∧ Reps W.K H (kvs.map (·.2)) vs
  | .ins c fs => ∃ dx vs, H a = some (.ins (kAddr W c) dx ((fs.map fun f => fldName W.T f.1).zip vs)) ∧ Reps W.K H (fs.map (·.2)) vs ∧ (W.T.kc c).isSome = true

theorem RO.there {W : Wd} {H : Hp} {a : Addr} {o : AO} (r : RO W H a o) : ∃ u, H a = some u ∧ NoTup u := by
  cases o with
  | lst xs => obtain ⟨vs, q, _⟩ := r; exact ⟨_, q, trivial⟩
  | dK kvs => obtain ⟨vs, q, _⟩ := r; exact ⟨_, q, trivial⟩
  | ins c fs => obtain ⟨dx, vs, q, _⟩ := r; exact ⟨_, q, trivial⟩
theorem RO.stay {W : Wd} {H H' : Hp} {a : Addr} {o : AO} (r : RO W H a o) (t : TLe W.K H H') (e : H' a = H a) : RO W H' a o := by
  cases o with
  | lst xs => obtain ⟨vs, q, s⟩ := r; exact ⟨vs, e.trans q, s.mono t⟩
  | dK kvs => obtain ⟨vs, q, s⟩ := r; exact ⟨vs, e.trans q, s.mono t⟩
  | ins c fs => obtain ⟨dx, vs, q, s, z⟩ := r; exact ⟨dx, vs, e.trans q, s.mono t, z⟩

def RH (W : Wd) (h : AH) (H : Hp) : Prop := ∀ a o, h a = some o → RO W H a o
theorem RH.sub {W : Wd} {h h' : AH} {H : Hp} (r : RH W h' H) (l : ALe h h') : RH W h H := fun a o e => r a o (l a o e)
theorem RH.isNone {W : Wd} {h : AH} {H : Hp} (r : RH W h H) {p : Addr} (hp : H p = none) : h p = none := by
  cases e : h p with
  | none => rfl
  | some o =>
    obtain ⟨u, q, _⟩ := (r p o e).there
    rw [hp] at q; cases q
theorem RH.fresh {W : Wd} {h : AH} {H : Hp} {p : Addr} {u : HO} (r : RH W h H) (hp : H p = none) : RH W h (upd H p u) := fun a o e => by
  obtain ⟨v, q, _⟩ := (r a o e).there
  exact (r a o e).stay (TLe.fresh hp) (upd_ne (ne_of_none q hp))
theorem RH.new {W : Wd} {h : AH} {H : Hp} {p : Addr} {u : HO} {o : AO} (r : RH W h H) (hp : H p = none) (n : RO W (upd H p u) p o) : RH W (aupd h p o) (upd H p u) := fun a o' e => by
  by_cases ha : a = p
  · subst ha; rw [aupd_same] at e; cases e; exact n
  · rw [aupd_ne ha] at e
    exact (r a o' e).stay (TLe.fresh hp) (upd_ne ha)
theorem RH.write {W : Wd} {h : AH} {H : Hp} {p : Addr} {u v : HO} {o : AO} (r : RH W h H) (hp : H p = some v) (hn : NoTup v) (n : RO W (upd H p u) p o) : RH W (aupd h p o) (upd H p u) := fun a o' e => by
  by_cases ha : a = p
  · subst ha; rw [aupd_same] at e; cases e; exact n
  · rw [aupd_ne ha] at e
    exact (r a o' e).stay (TLe.write hp hn) (upd_ne ha)
end PL

namespace PL
open PySem PySem.Spec PyProof.Rows L2
abbrev tuO (us : List Value) : Obj := { cls := .type "tuple", data := .seq us.toArray }
section
variable {X : Cx}
theorem lay_tup {pins : List (Addr × Obj)} {σ : L2.St} {H : Hp} {s : Shared} {vs : List V} {us : List Value} {Q : VK} (J : Inv X pins σ H s) (rv : Vals vs us) (hz : vs.length ≤ sizeLine)
    (q : ∀ (p : Addr) (o : Obj), H p = none → o.dict = none → Q (.ref p) (upd H p (.frz o (.tup vs)))) : EP X pins σ Q (.ref s.heap.objs.size) { s with heap := s.heap.push (tuO us) } := by
  have hn : H s.heap.objs.size = none := J.hok.fresh (Nat.le_refl _)
  have look : (s.heap.push (tuO us)).get? s.heap.objs.size = some (tuO us) := Heap.get?_push_size _ rfl
  exact ⟨V.ref s.heap.objs.size, upd H s.heap.objs.size (.frz (tuO us) (.tup vs)), J.laid (t' := s.toks) (fun _ _ e => Heap.get?_push_of_some _ e) (Nat.le_refl _) ⟨look, hz, us, rv, IsTup.new _ _⟩, rfl, q _ _ hn rfl⟩
def tTupP (t : TA) : TE := fun σ H Q => t σ H fun xs H1 => xs.length ≤ sizeLine ∧ ∀ (p : Addr) (o : Obj), H1 p = none → o.dict = none → Q (.ref p) (upd H1 p (.frz o (.tup xs)))
theorem pe_tupP {es : List Expr} {t : TA} {pos : Pos} {k : Nat} (h : PA X es t) : PE X (.Tuple es k pos) (tTupP t) := by
  refine ⟨fun pins s σ H Q J w => wpAny_Tuple_spliced (thn (h.run pos pins s σ H _ J w) ?_)⟩
  rintro us s1 ⟨xs, H1, J1, rv, hz, q⟩
  exact ⟨by rw [← rv.length]; exact hz, lay_tup J1 rv hz q⟩
theorem call_tupleP : CallR X (.type "tuple") (fun xs H Q => ∃ p ys, xs = [.ref p] ∧ SqL X.K H p ys ∧ ∀ (l : Addr) (o : Obj), H l = none → o.dict = none → Q (.ref l) (upd H l (.frz o (.tup ys)))) := by
  intro pins s σ H xs us Q J r w
  obtain ⟨p, ys, rfl, hq, q⟩ := w
  obtain ⟨u, rfl, rx⟩ := vals1 r
  cases rx
  obtain ⟨its, rv, pl, hz⟩ := J.list hq
  have hlen := rv.length
  refine call_tuple_list pl.isList (fun h' kp => ?_) (by simp only [List.size_toArray] <;> omega)
  exact lay_tup (J.kept (t' := s.toks) (h' := h') kp) rv hz q
theorem op_catP : OpR X (binaryOp .Add) (fun x y H Q => ∃ a b xs ys, x = V.ref a ∧ y = V.ref b ∧ SqT X.K H a xs ∧ SqT X.K H b ys ∧ xs.length + ys.length ≤ sizeLine ∧
    (xs = [] → Q (.ref b) H) ∧ (xs ≠ [] → ys = [] → Q (.ref a) H) ∧ (xs ≠ [] → ys ≠ [] → ∀ (p : Addr) (o : Obj), H p = none → o.dict = none → Q (.ref p) (upd H p (.frz o (.tup (xs ++ ys)))))) := by
  intro pins s σ H x y v u Q J rx ry w
  obtain ⟨a, b, xs, ys, rfl, rfl, ta, tb, hz, q0, q1, q2⟩ := w
  by_cases hx : xs = []
  · exact op_catA pins s σ H _ _ v u Q J rx ry ⟨a, b, xs, ys, rfl, rfl, ta, tb, hz, q0, q1, fun n => absurd hx n⟩
  · by_cases hy : ys = []
    · exact op_catA pins s σ H _ _ v u Q J rx ry ⟨a, b, xs, ys, rfl, rfl, ta, tb, hz, q0, q1, fun _ n => absurd hy n⟩
    · cases rx
      cases ry
      obtain ⟨us, r1, p1, _⟩ := J.tuple ta
      obtain ⟨ws, r2, p2, _⟩ := J.tuple tb
      refine HT.cat_tup p1 p2 (fun z => hx (r1.nil_iff.mp z)) (fun z => absurd (r2.nil_iff.mp z) hy) (fun _ => ?_) (by rw [← r1.length, ← r2.length]; exact hz)
      exact lay_tup J (r1.append r2) (by rw [List.length_append]; exact hz) (q2 hx hy)
theorem op_repTP : OpR X (binaryOp .Mult) (fun x y H Q => ∃ l k xs, x = V.ref l ∧ y = V.int k ∧ SqT X.K H l xs ∧ xs ≠ [] ∧ 2 ≤ k ∧ k ≤ 1000 ∧ xs.length ≤ 1000 ∧ ∀ (p : Addr) (o : Obj), H p = none → o.dict = none → Q (.ref p) (upd H p (.frz o (.tup (List.replicate k.toNat xs).flatten)))) := by
  intro pins s σ H x y v u Q I rx ry h
  obtain ⟨l, k, xs, rfl, rfl, hT, hne, h1, h2, hz, q⟩ := h
  cases rx
  obtain ⟨t, rfl⟩ := ry
  obtain ⟨its, r, ⟨⟨cls, dd, data, sl⟩, ho, hc, n, hd⟩, hs⟩ := I.tuple hT
  simp only at hc hd
  subst hc hd
  have hle : its.length = xs.length := r.length.symm
  have hn : its ≠ [] := fun e => hne (by
    rw [e] at hle
    exact List.eq_nil_of_length_eq_zero hle.symm)
  have hi : its.toArray.isEmpty = false := by
    cases its with
    | nil => exact absurd rfl hn
    | cons a b => rfl
  have hsz0 : its.toArray.size = xs.length := by rw [List.size_toArray, hle]
  have hm : ((its.toArray.size : Nat) : Int) * k ≤ 1000000 := by
    rw [hsz0]
    have a1 : ((xs.length : Nat) : Int) * k ≤ 1000 * k := Int.mul_le_mul_of_nonneg_right (by omega) (by omega)
    omega
  have flen : (List.replicate k.toNat its).flatten.length ≤ sizeLine := by
    rw [PyProof.Rows.lm_len_rep_flat, hle, sizeLine_eq]
    have a1 : k.toNat * xs.length ≤ 1000 * 1000 := Nat.mul_le_mul (by omega) hz
    omega
  have c0 : (decide (k < -(2 ^ 63)) || decide (k ≥ 2 ^ 63)) = false := by
    rw [decide_eq_false (by omega), decide_eq_false (by omega)] <;> rfl
  have c1 : (its.toArray.isEmpty || k == 1) = false := by
    rw [hi, Bool.false_or]
    exact beq_eq_false_iff_ne.mpr (by omega)
  have c2 : (decide (k ≤ 0) || its.toArray.isEmpty) = false := by
    rw [hi, Bool.or_false]
    exact decide_eq_false (by omega)
  have c4 : Builtin.Tuple.tupleTooMany (((its.toArray.size : Nat) : Int) * k) = false := by
    unfold Builtin.Tuple.tupleTooMany
    rw [sizeLine_eq]
    exact decide_eq_false (by omega)
  refine wpAny_binaryOp_repeat_ref (T := "tuple") (U := "int") (by decide) ⟨_, ho, rfl⟩ (fun s' => typeIs_int s' k t) noFill_tuple_mul F.fills_int_mul F.slot_int_rmul repeat_tuple F.slot_int_index.lookup
    (call_meets F.slot_int_rmul (typeIs_int s k t) F.entry_int_rmul (F.args_int_rmul_2 _ _) (int_rmul_tuple k t l its.toArray n dd sl)
      ⟨ho, rfl, ⟨_, ho, rfl⟩, call_meets F.slot_tuple_mul ⟨_, ho, rfl⟩ F.entry_tuple_mul (F.args_tuple_mul_2 _ _) (tuple_mulW l its.toArray n dd sl k t c0 c1 c2 (by omega) c4 (by rw [size_rep, List.size_toArray]; exact flen)) ⟨ho, ?_⟩⟩)
  rw [size_rep]
  exact lay_tup I (r.rep k.toNat) (by rw [PyProof.Rows.lm_len_rep_flat, sizeLine_eq]; have a1 : k.toNat * xs.length ≤ 1000 * 1000 := Nat.mul_le_mul (by omega) hz; omega) fun p o hp ho => q p o hp ho
theorem sl_tupP : SlR X (fun x lo hi H Q => ∃ a xs, x = V.ref a ∧ SqT X.K H a xs ∧ (HT.sIx xs.length 0 lo = 0 ∧ HT.sIx xs.length xs.length hi = xs.length → Q (.ref a) H) ∧
    (¬ (HT.sIx xs.length 0 lo = 0 ∧ HT.sIx xs.length xs.length hi = xs.length) → ∀ (p : Addr) (o : Obj), H p = none → o.dict = none → Q (.ref p) (upd H p (.frz o (.tup (cutV xs lo hi)))))) := by
  intro pins s σ H x v vl vu lo hi sl Q J rx hs pl pu w
  obtain ⟨a, xs, rfl, ta, q1, q2⟩ := w
  by_cases hw : HT.sIx xs.length 0 lo = 0 ∧ HT.sIx xs.length xs.length hi = xs.length
  · exact sl_tupA pins s σ H _ v vl vu lo hi sl Q J rx hs pl pu ⟨a, xs, rfl, ta, q1, fun n => absurd hw n⟩
  · cases rx
    obtain ⟨us, r, tt, hz⟩ := J.tuple ta
    have hlen : us.toArray.size = xs.length := by rw [List.size_toArray, ← r.length]
    refine ⟨"tuple", _, PyProof.Rows.slot_tuple_getitem.lookup, tt.typeIs, HT.getItem_tuple_cut tt hs pl pu (by rw [hlen]; exact hw) ?_ (by rw [hlen]; exact hz)⟩
    rw [hlen]
    exact lay_tup J ((r.drop (HT.sIx xs.length 0 lo)).take (HT.sIx xs.length xs.length hi - HT.sIx xs.length 0 lo)) (Nat.le_trans (cutV_length xs lo hi) hz) (q2 hw)
theorem pairs3 {pins : List (Addr × Obj)} {σ : L2.St} {H : Hp} {s : Shared} (J : Inv X pins σ H s) : ∀ {ps : List Addr} {kvs : List (Key × V)}, Paired (fun p kv => SqT X.K H p [kV kv.1, kv.2]) ps kvs →
    ∃ l : List (Key × Value × Value), KV kvs (l.map fun q => (q.1, q.2.2)) ∧ l.length = ps.length ∧ ∀ (j : Nat) (q : Key × Value × Value), l[j]? = some q → ∃ b : Addr, ps[j]? = some b ∧ IsTup s.heap b #[q.2.1, q.2.2] ∧ keyIs q.1 q.2.1 = true
  | _, _, .nil => ⟨[], .nil, rfl, fun _ _ e => by simp at e⟩
  | _, _, .cons (a := p) (b := kv) hd tl => by
    obtain ⟨l, r, hl, hp⟩ := pairs3 J tl
    obtain ⟨us, rv, ht, _⟩ := J.tuple hd
    obtain ⟨u, y, eu, ru, ry⟩ := vals2 rv
    subst eu
    refine ⟨(kv.1, u, y) :: l, .cons ⟨rfl, ry⟩ r, by simp [hl], fun j q e => ?_⟩
    cases j with
    | zero =>
      cases (show some (kv.1, u, y) = some q from e)
      exact ⟨p, rfl, ht, kV_is (P := X.prog) (w := X.w) ru⟩
    | succ j =>
      obtain ⟨b, e1, e2, e3⟩ := hp j q (by simpa using e)
      exact ⟨b, by simpa using e1, e2, e3⟩
theorem call_dictTP (hcalm : X.calm = true) : CallR X (.type "dict") (fun xs H Q => ∃ (a : Addr) (ps : List Addr) (kvs : List (Key × V)), xs = [.ref a] ∧ SqP X.K H a (ps.map V.ref) ∧ Paired (fun p kv => SqT X.K H p [kV kv.1, kv.2]) ps kvs ∧
    ∀ p, H p = none → Q (.ref p) (upd H p (.dK (mergeK [] kvs)))) := by
  intro pins s σ H xs us Q J r w
  obtain ⟨a, ps, kvs, rfl, hq, hp, q⟩ := w
  obtain ⟨u, rfl, rx⟩ := vals1 r
  cases rx
  have plain : ∃ (o : Obj) (n : Nat) (its : List Value), s.heap.get? a = some o ∧ o.cls = .type "tuple" ∧ o.dict = none ∧ o.data = .seq its.toArray n ∧ Vals (ps.map V.ref) its ∧ its.length ≤ sizeLine := by
    rcases hq with ⟨o, ho, e⟩ | ⟨o, its, n, e, hd, hc, hdat, hz, rv⟩
    · obtain ⟨g, hz, its, rv, o', g', hc, n, hdat⟩ := J.hok a _ e
      rw [g] at g'
      cases g'
      exact ⟨o, n, its, g, hc, ho, hdat, rv, by rw [← rv.length]; exact hz⟩
    · exact ⟨o, n, its.toList, J.kIn _ _ e, hc, hd, by simpa using hdat, rv, by simpa using hz⟩
  obtain ⟨o, n, its, g, hc, hd, hdat, rv, hz⟩ := plain
  have ei := refs_at rv
  subst ei
  rw [List.length_map] at hz
  obtain ⟨l, rel, hl, hpr⟩ := pairs3 J hp
  have P := PairArg.tuple (prog := X.prog) (w := X.w) a (ps.map Value.ref).toArray (fun j => ps.getD j 0) (l.map (·.2))
  refine PySem.call_dict_pairs (A := X.A) (knd := mixKind X.prog X.w) (kvs := l.map fun q => (q.1, q.2.2)) P (J.ok.hd hcalm) ⟨⟨o, n, g, hc, hd, hdat⟩, by simp [hl], fun j k v e => ?_⟩ ⟨by simp, fun j k v e => ?_⟩ (by simp [hl, hz]) fun h' tk hd' kp => ?_
  · rw [List.getElem?_map] at e
    cases eq : l[j]? with
    | none => rw [eq] at e; cases e
    | some q =>
      obtain ⟨qk, qu, qv⟩ := q
      rw [eq] at e
      cases e
      obtain ⟨b, e1, e2, e3⟩ := hpr j _ eq
      have eb : ps.getD j 0 = b := by simp [e1]
      show _ = some (Value.ref (ps.getD j 0)) ∧ PairAt s.heap (ps.getD j 0) _ _
      rw [eb]
      exact ⟨by simp [e1], .inl e2⟩
  · have e : (l.map (·.2))[j]? = some (k, v) := e
    rw [List.getElem?_map] at e
    cases eq : l[j]? with
    | none => rw [eq] at e; cases e
    | some q =>
      obtain ⟨qk, qu, qv⟩ := q
      rw [eq] at e
      cases e
      obtain ⟨b, e1, e2, e3⟩ := hpr j _ eq
      exact ⟨qk, by simp [eq], e3⟩
  · have hm : (s.heap.objs.size == sysModules) = false := beq_eq_false_iff_ne.mpr (Nat.ne_of_gt J.big)
    have hlen : (mergeK [] kvs).length ≤ sizeLine := by
      have h1 := length_mergeK kvs []
      have h2 := rel.length
      rw [List.length_map] at h2
      rw [List.length_nil] at h1
      omega
    exact ⟨.ref s.heap.objs.size, upd H s.heap.objs.size (.dK (mergeK [] kvs)), J.laid (t' := tk) (fun b ob => kp b ob (by simp)) (Nat.le_refl _) (show ObjOk X.prog X.w _ _ _ (.dK (mergeK [] kvs)) from ⟨hlen, hm, _, KV.merge rel .nil, hd'⟩), rfl, q _ (J.hok.fresh (Nat.le_refl _))⟩
end
end PL

namespace PL
open PySem PySem.Spec PyProof.Rows L2

inductive BOp where | add | sub | mul | fdiv | mod | pow
  deriving DecidableEq
inductive COp where | eq | ne | lt | le | gt | ge | is | isnot | inn | notin
  deriving DecidableEq
inductive Blt where | len | abs | int | str | tuple | list | dict | sorted | sum | max | min | all | any | bool | repr | set
  deriving DecidableEq
inductive Ty where | int | bool | str | tuple | list | dict | set
  deriving DecidableEq
inductive Mth where | append | extend | pop | get | items | index | insert | join | split | lstrip | clear | upper | replace | count | startswith
  deriving DecidableEq

inductive CE where
  | non | bl (b : Bool) | int (i : Int) | str (x : Str)
  | var (i : Nat) | glob (g : Nat)
  | nil | cons (e es : CE)
  | tup (es : CE) | lst (es : CE) | dct0
  | bin (op : BOp) (a b : CE) | neg (a : CE) | not (a : CE)
  | cmp (op : COp) (a b : CE) | chain (o1 o2 : COp) (a b c : CE)
  | and (es : CE) | or (es : CE) | ifx (c a b : CE)
  | call (f : Nat) (es : CE)
  | blt (f : Blt) (es : CE)
  | isin (e : CE) (ts : List Ty)
  | idx (a i : CE) | slc (a lo hi : CE) | rev (a : CE)
  | mth (m : Mth) (o es : CE)
  | attr (o : CE) (f : Nat) | umth (m : Nat) (o es : CE) | new (c : Nat) (es : CE)
  | comp (own : List Nat) (g it ifs elt : CE)
  | tru (a : CE) | val (a : CE)
  | inD (a : CE) (g : Nat) (neg : Bool) | ixD (g : Nat) (a : CE)
  | range1 (a : CE) | range2 (a b : CE) | range3 (a b c : CE) | enum (a : CE) | zip (a b : CE) | ditems (a : CE)

def CE.len : CE → Nat
  | .cons _ es => es.len + 1
  | _ => 0
inductive CS where
  | asg (g e : CE) | slc (i : Nat) (e : CE) | par (i j : Nat) (a b : CE) | par3 (i j k : Nat) (a b c : CE)
  | aug (i : Nat) (op : BOp) (e : CE)
  | expr (e : CE) | ret (e : CE) | retN
  | iff (c : CE) (t f : CS) | whl (c : CE) (b : CS) | forr (g it : CE) (b : CS)
  | raise (c : Nat) (es : CE)
  | tri (b hs : CS) | hnil | hcons (c : Nat) (b r : CS)
  | pass | brk | cont
  | sat (o : CE) (f : Nat) (e : CE)
  | nil | cons (s r : CS)

abbrev AEnv := List (Option AV)
abbrev AQ := AV → AH → Prop
structure AX where
  cls : Nat
  args : List AV
abbrev AXQ := AX → AH → Prop
abbrev ACall := Nat → List AV → AH → AQ → AXQ → Prop

mutual
def AV.eqv : AV → AV → Bool
  | .non, y => match y with | .non => true | _ => false
  | .bl a, y => match y with | .bl b => a == b | .int j => (if a then 1 else 0) == j | _ => false
  | .int i, y => match y with | .bl b => i == (if b then 1 else 0) | .int j => i == j | _ => false
  | .str a, y => match y with | .str b => a == b | _ => false
  | .tup xs, y => match y with | .tup ys => AV.eqvs xs ys | _ => false
  | .wt _, _ => false
  | .rl _, _ => false
  | .ref _, _ => false
def AV.eqvs : List AV → List AV → Bool
  | [], ys => match ys with | [] => true | _ :: _ => false
  | x :: xs, ys => match ys with | [] => false | y :: ys => AV.eqv x y && AV.eqvs xs ys
end
mutual
def AV.flat : Nat → AV → Bool
  | _, .non => true
  | _, .bl _ => true
  | _, .int _ => true
  | _, .str x => PyData.strOk x
  | 0, .tup _ => false
  | n + 1, .tup xs => AV.flats n xs
  | _, .wt _ => false
  | _, .rl _ => false
  | _, .ref _ => false
def AV.flats : Nat → List AV → Bool
  | _, [] => true
  | n, x :: xs => AV.flat n x && AV.flats n xs
end
def AV.toKey : AV → Option Key
  | .int i => some (.inl i)
  | .str x => some (.inr x)
  | _ => none
def AV.scal : AV → Bool
  | .non | .bl _ | .int _ | .str _ => true
  | _ => false

def dget (kvs : List (Key × AV)) (k : Key) : Option AV := (kvs.find? fun kv => decide (kv.1 = k)).map (·.2)
def dput (kvs : List (Key × AV)) (k : Key) (v : AV) : List (Key × AV) :=
  if (kvs.any fun kv => decide (kv.1 = k)) = true then kvs.map (fun kv => if kv.1 = k then (kv.1, v) else kv) else kvs ++ [(k, v)]
def keyV : Key → AV
  | .inl i => .int i
  | .inr x => .str x

def addR : AV → AV → AH → AQ → Prop
  | .int i, .int j, h, Q => Q (.int (i + j)) h
  | .str a, .str b, h, Q => a.length + b.length ≤ sizeLine ∧ Q (.str (a ++ b)) h
  | .tup xs, .tup ys, h, Q => xs.length + ys.length ≤ sizeLine ∧ Q (.tup (xs ++ ys)) h
  | .ref a, .ref b, h, Q => ∃ xs ys, h a = some (.lst xs) ∧ h b = some (.lst ys) ∧ xs.length + ys.length ≤ sizeLine ∧ ∀ p, h p = none → Q (.ref p) (aupd h p (.lst (xs ++ ys)))
  | _, _, _, _ => False
def subR : AV → AV → AH → AQ → Prop
  | .int i, .int j, h, Q => Q (.int (i - j)) h
  | _, _, _, _ => False
def mulR : AV → AV → AH → AQ → Prop
  | .int i, .int j, h, Q => CMulW i j ∧ Q (.int (i * j)) h
  | .tup xs, .int k, h, Q => xs ≠ [] ∧ 2 ≤ k ∧ k ≤ 1000 ∧ xs.length ≤ 1000 ∧ Q (.tup (List.replicate k.toNat xs).flatten) h
  | .ref a, .int k, h, Q => ∃ xs, h a = some (.lst xs) ∧ -(2 ^ 63) ≤ k ∧ k < 2 ^ 63 ∧ xs.length * k.toNat ≤ sizeLine ∧ ∀ p, h p = none → Q (.ref p) (aupd h p (.lst (List.replicate k.toNat xs).flatten))
  | _, _, _, _ => False
def fdivR : AV → AV → AH → AQ → Prop
  | .int i, .int j, h, Q => (j ≠ 0 ∧ j.natAbs.log2 < 9000) ∧ Q (.int (i.fdiv j)) h
  | _, _, _, _ => False
def modR : AV → AV → AH → AQ → Prop
  | .int i, .int j, h, Q => 0 < j ∧ Q (.int (i % j)) h
  | _, _, _, _ => False
def powR : AV → AV → AH → AQ → Prop
  | .int i, .int j, h, Q => CPow i j ∧ Q (.int (i ^ j.toNat)) h
  | _, _, _, _ => False
def binR : BOp → AV → AV → AH → AQ → Prop
  | .add => addR | .sub => subR | .mul => mulR | .fdiv => fdivR | .mod => modR | .pow => powR

def eqR (x y : AV) (h : AH) (Q : Bool → Prop) : Prop :=
  match x, y with
  | .ref a, .ref b => ∃ xs ys, h a = some (.lst xs) ∧ h b = some (.lst ys) ∧ AV.flats 50 xs = true ∧ AV.flats 50 ys = true ∧ Q (AV.eqvs xs ys)
  | x, y => AV.flat 50 x = true ∧ AV.flat 50 y = true ∧ Q (AV.eqv x y)
def ltR : AV → AV → (Bool → Prop) → Prop
  | .int i, .int j, Q => Q (decide (i < j))
  | .str a, .str b, Q => Q (decide (a.cps.toList < b.cps.toList))
  | _, _, _ => False
def leR : AV → AV → (Bool → Prop) → Prop
  | .int i, .int j, Q => Q (decide (i ≤ j))
  | _, _, _ => False
def gtR : AV → AV → (Bool → Prop) → Prop
  | .int i, .int j, Q => Q (decide (j < i))
  | _, _, _ => False
def geR : AV → AV → (Bool → Prop) → Prop
  | .int i, .int j, Q => Q (decide (j ≤ i))
  | _, _, _ => False
def isR : AV → AV → (Bool → Prop) → Prop
  | x, .non, Q => Q (match x with | .non => true | _ => false)
  | .bl a, .bl b, Q => Q (decide (a = b))
  | _, _, _ => False
def anyEq (x : AV) : List AV → Bool
  | [] => false
  | y :: ys => AV.eqv y x || anyEq x ys
def inR (x y : AV) (h : AH) (Q : Bool → Prop) : Prop :=
  match y with
  | .tup ys => x.scal = true ∧ ys.all AV.scal = true ∧ Q (anyEq x ys)
  | .str z => match x with | .str y => ∃ c, y = ⟨#[c]⟩ ∧ Q (decide (c ∈ z.cps.toList)) | _ => False
  | .ref a => (∃ ys, h a = some (.lst ys) ∧ x.scal = true ∧ ys.all AV.scal = true ∧ Q (anyEq x ys)) ∨ (∃ kvs k, h a = some (.dK kvs) ∧ x.toKey = some k ∧ Q (dget kvs k).isSome) ∨ (∃ ys, h a = some (.lst ys) ∧ AV.flat 50 x = true ∧ AV.flats 50 ys = true ∧ Q (anyEq x ys))
  | _ => False
def cmpR : COp → AV → AV → AH → (Bool → Prop) → Prop
  | .eq, x, y, h, Q => eqR x y h Q
  | .ne, x, y, h, Q => eqR x y h fun b => Q (!b)
  | .lt, x, y, _, Q => ltR x y Q
  | .le, x, y, _, Q => leR x y Q
  | .gt, x, y, _, Q => gtR x y Q
  | .ge, x, y, _, Q => geR x y Q
  | .is, x, y, _, Q => isR x y Q
  | .isnot, x, y, _, Q => isR x y fun b => Q (!b)
  | .inn, x, y, h, Q => inR x y h Q
  | .notin, x, y, h, Q => inR x y h fun b => Q (!b)

def truR (x : AV) (h : AH) (Q : Bool → Prop) : Prop :=
  match x with
  | .bl b => Q b
  | .non => Q false
  | .int i => Q (i != 0)
  | .tup xs => Q (!xs.isEmpty)
  | .ref a => ∃ xs, h a = some (.lst xs) ∧ Q (!xs.isEmpty)
  | _ => False

def atI (xs : List AV) (i : Int) : Option AV := if 0 ≤ i then xs[i.toNat]? else if -(xs.length : Int) ≤ i then xs[(xs.length + i).toNat]? else none
def ixR : AV → AV → AH → AQ → Prop
  | .tup xs, .int i, h, Q => ∃ v, atI xs i = some v ∧ Q v h
  | .rl xs, .int i, h, Q => ∃ v, atI xs i = some v ∧ Q v h
  | .str z, .int i, h, Q => z.length ≤ sizeLine ∧ ∃ c, L2.atI z.cps.toList i = some c ∧ Q (.str ⟨#[c]⟩) h
  | .ref a, y, h, Q => (∃ xs i v, y = .int i ∧ h a = some (.lst xs) ∧ atI xs i = some v ∧ Q v h) ∨ (∃ kvs k v, y.toKey = some k ∧ h a = some (.dK kvs) ∧ dget kvs k = some v ∧ Q v h)
  | _, _, _, _ => False
def acut (xs : List AV) (lo hi : Option Int) : List AV := (xs.drop (HT.sIx xs.length 0 lo)).take (HT.sIx xs.length xs.length hi - HT.sIx xs.length 0 lo)
def slR (x : AV) (lo hi : Option Int) (h : AH) (Q : AQ) : Prop :=
  match x with
  | .tup xs => Q (.tup (acut xs lo hi)) h
  | .rl xs => ∀ p, h p = none → Q (.ref p) (aupd h p (.lst (acut xs lo hi)))
  | .ref a => ∃ xs, h a = some (.lst xs) ∧ ∀ p, h p = none → Q (.ref p) (aupd h p (.lst (acut xs lo hi)))
  | _ => False
def revR (x : AV) (h : AH) (Q : AQ) : Prop :=
  match x with
  | .ref a => ∃ xs, h a = some (.lst xs) ∧ ∀ p, h p = none → Q (.ref p) (aupd h p (.lst xs.reverse))
  | _ => False

def hasTy (ts : List Ty) (t : Ty) : Bool := decide (t ∈ ts)
def tyR (ts : List Ty) (x : AV) (h : AH) (Q : Bool → Prop) : Prop :=
  match x with
  | .non => Q false
  | .bl _ => Q (hasTy ts .bool || hasTy ts .int)
  | .int _ => Q (hasTy ts .int)
  | .str _ => Q (hasTy ts .str)
  | .tup _ => Q (hasTy ts .tuple)
  | .wt _ => False
  | .rl _ => Q (hasTy ts .list)
  | .ref a => (∃ xs, h a = some (.lst xs) ∧ Q (hasTy ts .list)) ∨ (∃ kvs, h a = some (.dK kvs) ∧ Q (hasTy ts .dict))

def ltS (a b : Str) : Bool := decide (a.cps.toList < b.cps.toList)
def insS (x : Str) : List Str → List Str
  | [] => [x]
  | y :: ys => if ltS y x then y :: insS x ys else x :: y :: ys
def sortS : List Str → List Str
  | [] => []
  | x :: xs => insS x (sortS xs)
def insI (x : Int) : List Int → List Int
  | [] => [x]
  | y :: ys => if y < x then y :: insI x ys else x :: y :: ys
def sortI : List Int → List Int
  | [] => []
  | x :: xs => insI x (sortI xs)

def newL (h : AH) (xs : List AV) (Q : AQ) : Prop := ∀ p, h p = none → Q (.ref p) (aupd h p (.lst xs))
def pairs? : List AV → Option (List (Key × AV))
  | [] => some []
  | .tup [k, v] :: r => match k.toKey, pairs? r with
    | some k, some r => some ((k, v) :: r)
    | _, _ => none
  | _ :: _ => none
def merge (kvs : List (Key × AV)) : List (Key × AV) → List (Key × AV)
  | [] => kvs
  | (k, v) :: r => merge (dput kvs k v) r
def bls? : List AV → Option (List Bool)
  | [] => some []
  | .bl b :: r => (bls? r).map (b :: ·)
  | _ :: _ => none
def ints? : List AV → Option (List Int)
  | [] => some []
  | .int b :: r => (ints? r).map (b :: ·)
  | _ :: _ => none
def strs? : List AV → Option (List Str)
  | [] => some []
  | .str b :: r => (strs? r).map (b :: ·)
  | _ :: _ => none
def lenR (x : AV) (h : AH) (Q : AQ) : Prop :=
  match x with
  | .tup xs => Q (.int xs.length) h
  | .rl xs => Q (.int xs.length) h
  | .str z => z.length ≤ sizeLine ∧ Q (.int z.length) h
  | .ref a => (∃ xs, h a = some (.lst xs) ∧ Q (.int xs.length) h) ∨ (∃ kvs, h a = some (.dK kvs) ∧ Q (.int kvs.length) h)
  | _ => False
def one (vs : List AV) (K : AV → Prop) : Prop := match vs with | [x] => K x | _ => False
def two (vs : List AV) (K : AV → AV → Prop) : Prop := match vs with | [x, y] => K x y | _ => False
theorem one_ex {vs : List AV} {K : AV → Prop} (h : one vs K) : ∃ x, vs = [x] ∧ K x := by
  match vs, h with
  | [x], h => exact ⟨x, rfl, h⟩
  | [], h => exact h.elim
  | _ :: _ :: _, h => exact False.elim h
theorem two_ex {vs : List AV} {K : AV → AV → Prop} (h : two vs K) : ∃ x y, vs = [x, y] ∧ K x y := by
  match vs, h with
  | [x, y], h => exact ⟨x, y, rfl, h⟩
  | [], h => exact h.elim
  | [_], h => exact False.elim h
  | _ :: _ :: _ :: _, h => exact False.elim h
def absR (x : AV) (h : AH) (Q : AQ) : Prop := match x with
  | .int i => Q (.int (if i < 0 then -i else i)) h
  | _ => False
def intR (x : AV) (h : AH) (Q : AQ) : Prop := match x with
  | .int i => Q (.int i) h
  | .bl b => Q (.int (if b then 1 else 0)) h
  | _ => False
def tupleR (x : AV) (h : AH) (Q : AQ) : Prop := match x with
  | .ref a => ∃ xs, h a = some (.lst xs) ∧ Q (.tup xs) h
  | .tup xs => Q (.tup xs) h
  | _ => False
def listR (x : AV) (h : AH) (Q : AQ) : Prop := match x with
  | .ref a => ∃ xs, h a = some (.lst xs) ∧ newL h xs Q
  | .tup xs => newL h xs Q
  | _ => False
def allR (x : AV) (h : AH) (Q : AQ) : Prop := match x with
  | .ref a => ∃ xs bs, h a = some (.lst xs) ∧ bls? xs = some bs ∧ Q (.bl (bs.all id)) h
  | _ => False
def anyR (x : AV) (h : AH) (Q : AQ) : Prop := match x with
  | .ref a => ∃ xs bs, h a = some (.lst xs) ∧ bls? xs = some bs ∧ Q (.bl (bs.any id)) h
  | _ => False
def sumR (x : AV) (h : AH) (Q : AQ) : Prop := match x with
  | .ref a => ∃ xs ns, h a = some (.lst xs) ∧ ints? xs = some ns ∧ Q (.int ns.sum) h
  | _ => False
def maxR (x y : AV) (h : AH) (Q : AQ) : Prop := ∃ i j, x = .int i ∧ y = .int j ∧ Q (.int (if j > i then j else i)) h
def minR (x y : AV) (h : AH) (Q : AQ) : Prop := ∃ i j, x = .int i ∧ y = .int j ∧ Q (.int (if j < i then j else i)) h
def newD (h : AH) (kvs : List (Key × AV)) (Q : AQ) : Prop := ∀ p, h p = none → Q (.ref p) (aupd h p (.dK kvs))
def srtS (ns : List Str) (h : AH) (Q : AQ) : Prop := ns.length < 64 ∧ ∀ ys : List Str, ys.Perm ns → sortedS ys = true → newL h (ys.map .str) Q
def srtI (ns : List Int) (h : AH) (Q : AQ) : Prop := ∀ ys : List Int, ys.Perm ns → ys.Pairwise (· ≤ ·) → newL h (ys.map .int) Q
def keyA : AV → Str | .tup (.str s :: _) => s | _ => ⟨#[]⟩
def pairA : AV → Prop | .tup [.str _, _] => True | _ => False
def sortedR (x : AV) (h : AH) (Q : AQ) : Prop := match x with
  | .ref a => (∃ xs ns, h a = some (.lst xs) ∧ strs? xs = some ns ∧ srtS ns h Q) ∨ (∃ xs ns, h a = some (.lst xs) ∧ ints? xs = some ns ∧ srtI ns h Q) ∨
      (∃ (kvs : List (Key × AV)) (ns : List Str), h a = some (.dK kvs) ∧ kvs.map (·.1) = ns.map Sum.inr ∧ srtS ns h Q) ∨
      (∃ (kvs : List (Key × AV)) (ns : List Int), h a = some (.dK kvs) ∧ kvs.map (·.1) = ns.map Sum.inl ∧ ns.length < 64 ∧ srtI ns h Q) ∨
      (∃ xs : List AV, h a = some (.lst xs) ∧ (∀ x ∈ xs, pairA x) ∧ (xs.map keyA).Nodup ∧ ∀ ys : List AV, ys.Perm xs → ys.Pairwise (fun x y => (keyA x).cps.toList < (keyA y).cps.toList) → newL h ys Q)
  | _ => False
def dictR (x : AV) (h : AH) (Q : AQ) : Prop := match x with
  | .ref a => (∃ xs ps, h a = some (.lst xs) ∧ pairs? xs = some ps ∧ newD h (merge [] ps) Q) ∨ (∃ kvs, h a = some (.dK kvs) ∧ newD h kvs Q)
  | .tup xs => ∃ ps, pairs? xs = some ps ∧ newD h (merge [] ps) Q
  | _ => False
def prI (p : Int × Int) : AV := .tup [.int p.1, .int p.2]
def minPR (x : AV) (h : AH) (Q : AQ) : Prop := match x with
  | .ref a => ∃ ps : List (Int × Int), ps ≠ [] ∧ h a = some (.lst (ps.map prI)) ∧ ∀ m, m ∈ ps → (∀ q ∈ ps, m.1 ≤ q.1) → Q (prI m) h
  | _ => False
def maxLR (x : AV) (h : AH) (Q : AQ) : Prop := match x with
  | .ref a => ∃ ns : List Int, ns ≠ [] ∧ h a = some (.lst (ns.map .int)) ∧ ∀ m, m ∈ ns → (∀ y ∈ ns, y ≤ m) → Q (.int m) h
  | _ => False
def maxsR (vs : List AV) (h : AH) (Q : AQ) : Prop := match vs with
  | [x] => maxLR x h Q
  | [x, y] => maxR x y h Q
  | _ => False
def minsR (vs : List AV) (h : AH) (Q : AQ) : Prop := match vs with
  | [x] => minPR x h Q
  | [x, y] => minR x y h Q
  | _ => False
def bltR (f : Blt) (vs : List AV) (h : AH) (Q : AQ) : Prop :=
  match f with
  | .len => one vs fun x => lenR x h Q
  | .abs => one vs fun x => absR x h Q
  | .int => one vs fun x => intR x h Q
  | .tuple => one vs fun x => tupleR x h Q
  | .list => one vs fun x => listR x h Q
  | .all => one vs fun x => allR x h Q
  | .any => one vs fun x => anyR x h Q
  | .sum => one vs fun x => sumR x h Q
  | .max => maxsR vs h Q
  | .min => minsR vs h Q
  | .sorted => one vs fun x => sortedR x h Q
  | .dict => one vs fun x => dictR x h Q
  | .str | .bool | .repr | .set => False

def appendR (x y : AV) (h : AH) (Q : AQ) : Prop := match x with
  | .ref a => ∃ xs, h a = some (.lst xs) ∧ xs.length < sizeLine ∧ Q .non (aupd h a (.lst (xs ++ [y])))
  | _ => False
def extendR (x y : AV) (h : AH) (Q : AQ) : Prop := ∃ a b xs ys, x = .ref a ∧ y = .ref b ∧ h a = some (.lst xs) ∧ h b = some (.lst ys) ∧ xs.length + ys.length ≤ sizeLine ∧ Q .non (aupd h a (.lst (xs ++ ys)))
def popR (x : AV) (h : AH) (Q : AQ) : Prop := match x with
  | .ref a => ∃ xs y, h a = some (.lst (xs ++ [y])) ∧ Q y (aupd h a (.lst xs))
  | _ => False
def pop0R (x : AV) (h : AH) (Q : AQ) : Prop := match x with
  | .ref a => ∃ xs y, h a = some (.lst (y :: xs)) ∧ Q y (aupd h a (.lst xs))
  | _ => False
def getR (x k : AV) (d : AV) (h : AH) (Q : AQ) : Prop := match x with
  | .ref a => ∃ kvs k', k.toKey = some k' ∧ h a = some (.dK kvs) ∧ Q ((dget kvs k').getD d) h
  | _ => False
def insertR (x i y : AV) (h : AH) (Q : AQ) : Prop := match x, i with
  | .ref a, .int i => ∃ xs, h a = some (.lst xs) ∧ xs.length < sizeLine ∧ 0 ≤ i ∧ i < 2 ^ 63 ∧ Q .non (aupd h a (.lst (xs.take i.toNat ++ [y] ++ xs.drop i.toNat)))
  | _, _ => False
def indexR (x y : AV) (h : AH) (Q : AQ) : Prop := match x with
  | .ref a => ∃ ys j z, h a = some (.lst ys) ∧ y.scal = true ∧ ys.all AV.scal = true ∧ ys[j]? = some z ∧ AV.eqv z y = true ∧ (∀ (m : Nat) (z' : AV), m < j → ys[m]? = some z' → AV.eqv z' y = false) ∧ Q (.int (j : Nat)) h
  | _ => False
def isL (x : AV) (h : AH) : Prop := match x with | .ref a => ∃ xs, h a = some (.lst xs) | _ => False
def isD (x : AV) (h : AH) : Prop := match x with | .ref a => ∃ kvs, h a = some (.dK kvs) | _ => False
def mthTy (m : Mth) (x : AV) (h : AH) : Prop := match m with
  | .append | .extend | .pop | .insert | .index => isL x h
  | .get => isD x h
  | _ => False
def mthR (m : Mth) (x : AV) (vs : List AV) (h : AH) (Q : AQ) : Prop :=
  match m with
  | .append => one vs fun y => appendR x y h Q
  | .extend => one vs fun y => extendR x y h Q
  | .pop => (vs = [] ∧ popR x h Q) ∨ (vs = [.int 0] ∧ pop0R x h Q)
  | .get => match vs with | [k] => getR x k .non h Q | [k, d] => getR x k d h Q | _ => False
  | .insert => two vs fun i y => insertR x i y h Q
  | .index => one vs fun y => indexR x y h Q
  | _ => False

def Shr (P : AH → Prop) (h : AH) : Prop := ∃ h', ALe h' h ∧ P h'
def fieldOf (fs : List (Nat × AV)) (f : Nat) : Option AV := fs.lookup f
def awipe (σ : AEnv) : List Nat → AEnv
  | [] => σ
  | v :: vs => (awipe σ vs).set v none

def itR (x : AV) (h : AH) (K : List AV → (AH → Prop) → Prop) : Prop :=
  match x with
  | .tup xs => K xs fun _ => True
  | .rl xs => K xs fun _ => True
  | .str z => K (z.cps.toList.map fun c => .str ⟨#[c]⟩) fun _ => True
  | .ref a => ∃ xs, h a = some (.lst xs) ∧ K xs fun h' => h' a = some (.lst xs)
  | _ => False
def rangeL (lo : Int) : Nat → List AV
  | 0 => []
  | n + 1 => .int lo :: rangeL (lo + 1) n
def enumL (i : Nat) : List AV → List AV
  | [] => []
  | x :: xs => .wt [.int i, x] :: enumL (i + 1) xs
def zipL : List AV → List AV → List AV
  | x :: xs, y :: ys => .wt [x, y] :: zipL xs ys
  | _, _ => []

def lcL (D : Addr) (own : List Nat) (tgt : AV → AEnv → AH → (AEnv → AH → Prop) → Prop) (tst : AEnv → AH → (Bool → AH → Prop) → Prop) (elt : AEnv → AH → AQ → Prop) (chk : AH → Prop) (fin : AH → Prop) (σ : AEnv) : List AV → AH → Prop
  | [], h => chk h ∧ fin h
  | x :: xs, h => chk h ∧ tgt x (awipe σ own) h fun σ2 h2 => tst σ2 h2 fun b h3 =>
      if b = true then elt σ2 h3 fun y h4 => ∃ acc, h4 D = some (.lst acc) ∧ acc.length < sizeLine ∧ Shr (lcL D own tgt tst elt chk fin σ xs) (aupd h4 D (.lst (acc ++ [y])))
      else Shr (lcL D own tgt tst elt chk fin σ xs) h3

def fldR (x : AV) (f : Nat) (h : AH) (Q : AQ) : Prop := match x with
  | .ref a => ∃ c fs v, h a = some (.ins c fs) ∧ fs.lookup f = some v ∧ Q v h
  | _ => False
def fput (f : Nat) (v : AV) : List (Nat × AV) → List (Nat × AV)
  | [] => [(f, v)]
  | (g, x) :: r => if g = f then (g, v) :: r else (g, x) :: fput f v r
def setF (x : AV) (f : Nat) (v : AV) (h : AH) (K : AH → Prop) : Prop := match x with
  | .ref a => ∃ c fs, h a = some (.ins c fs) ∧ fs.length < 1000 ∧ K (aupd h a (.ins c (fput f v fs)))
  | _ => False
def mthF (T : Tb) (x : AV) (m : Nat) (h : AH) (K : Nat → Prop) : Prop := match x with
  | .ref a => ∃ c fs f, h a = some (.ins c fs) ∧ T.mf c m = some f ∧ K f
  | _ => False
def dtR (kvs : List (Str × AV)) (x : AV) (K : Option AV → Prop) : Prop := match x with
  | .str s => K (kvs.lookup s)
  | _ => False
mutual
def wpE (C : ACall) (T : Tb) : CE → AEnv → AH → AQ → AXQ → Prop
  | .non, _, h, Q, _ => Q .non h
  | .bl b, _, h, Q, _ => Q (.bl b) h
  | .int i, _, h, Q, _ => Q (.int i) h
  | .str x, _, h, Q, _ => Q (.str x) h
  | .var i, σ, h, Q, _ => ∃ v, σ[i]? = some (some v) ∧ Q v h
  | .glob g, _, h, Q, _ => ∃ v, T.gv g = some v ∧ Q v h
  | .tup es, σ, h, Q, E => wpEs C T es σ h (fun vs h' => vs.length ≤ sizeLine ∧ Q (.tup vs) h') E
  | .lst es, σ, h, Q, E => wpEs C T es σ h (fun vs h' => vs.length ≤ sizeLine ∧ newL h' vs Q) E
  | .dct0, _, h, Q, _ => ∀ p, h p = none → Q (.ref p) (aupd h p (.dK []))
  | .bin op a b, σ, h, Q, E => wpE C T a σ h (fun x h1 => wpE C T b σ h1 (fun y h2 => binR op x y h2 Q) E) E
  | .neg a, σ, h, Q, E => wpE C T a σ h (fun x h1 => ∃ i, x = .int i ∧ Q (.int (-i)) h1) E
  | .not a, σ, h, Q, E => wpE C T a σ h (fun x h1 => ∃ b, x = .bl b ∧ Q (.bl (!b)) h1) E
  | .cmp op a b, σ, h, Q, E => wpE C T a σ h (fun x h1 => wpE C T b σ h1 (fun y h2 => cmpR op x y h2 fun r => Q (.bl r) h2) E) E
  | .chain o1 o2 a b c, σ, h, Q, E => wpE C T a σ h (fun x h1 => wpE C T b σ h1 (fun y h2 => cmpR o1 x y h2 fun r =>
      if r = true then wpE C T c σ h2 (fun z h3 => cmpR o2 y z h3 fun r' => Q (.bl r') h3) E else Q (.bl false) h2) E) E
  | .and es, σ, h, Q, E => wpAndV C T es σ h Q E
  | .or es, σ, h, Q, E => wpOrV C T es σ h Q E
  | .ifx c a b, σ, h, Q, E => wpT C T c σ h (fun r h1 => if r = true then wpE C T a σ h1 Q E else wpE C T b σ h1 Q E) E
  | .call f es, σ, h, Q, E => wpEs C T es σ h (fun vs h1 => C f vs h1 Q E) E
  | .blt f es, σ, h, Q, E => wpEs C T es σ h (fun vs h1 => bltR f vs h1 Q) E
  | .isin e ts, σ, h, Q, E => wpE C T e σ h (fun x h1 => tyR ts x h1 fun r => Q (.bl r) h1) E
  | .idx a i, σ, h, Q, E => wpE C T a σ h (fun x h1 => wpE C T i σ h1 (fun y h2 => ixR x y h2 Q) E) E
  | .slc a lo hi, σ, h, Q, E => wpE C T a σ h (fun x h1 => wpP C T lo σ h1 (fun l h2 => wpP C T hi σ h2 (fun u h3 => slR x l u h3 Q) E) E) E
  | .rev a, σ, h, Q, E => wpE C T a σ h (fun x h1 => revR x h1 Q) E
  | .mth m o es, σ, h, Q, E => wpE C T o σ h (fun x h1 => mthTy m x h1 ∧ wpEs C T es σ h1 (fun vs h2 => mthR m x vs h2 Q) E) E
  | .comp own g it ifs elt, σ, h, Q, E => wpI C T it σ h (fun xs chk h1 => ∀ D, h1 D = none →
      lcL D own (fun x σ h k => wpG C T g x σ h k) (fun σ h k => wpTs C T ifs σ h k fun _ _ => False) (fun σ h k => wpE C T elt σ h k fun _ _ => False) chk (fun h' => Q (.ref D) h') σ xs (aupd h1 D (.lst []))) E
  | .attr o f, σ, h, Q, E => wpE C T o σ h (fun x h1 => fldR x f h1 Q) E
  | .umth m o es, σ, h, Q, E => wpE C T o σ h (fun x h1 => mthF T x m h1 fun f => wpEs C T es σ h1 (fun vs h2 => C f (x :: vs) h2 Q E) E) E
  | .new c es, σ, h, Q, E => wpEs C T es σ h (fun vs h1 => ∃ f, T.ki c = some f ∧ ∀ p, h1 p = none → C f (.ref p :: vs) (aupd h1 p (.ins c [])) (fun v h2 => v = .non ∧ Q (.ref p) h2) E) E
  | .inD a g neg, σ, h, Q, E => wpE C T a σ h (fun x h1 => ∃ t, T.dt g = some t ∧ dtR t.2 x fun r => Q (.bl (if neg = true then !r.isSome else r.isSome)) h1) E
  | .ixD g a, σ, h, Q, E => wpE C T a σ h (fun x h1 => ∃ t, T.dt g = some t ∧ dtR t.2 x fun r => ∃ v, r = some v ∧ Q v h1) E
  | _, _, _, _, _ => False
def wpEs (C : ACall) (T : Tb) : CE → AEnv → AH → (List AV → AH → Prop) → AXQ → Prop
  | .nil, _, h, Q, _ => Q [] h
  | .cons e es, σ, h, Q, E => wpE C T e σ h (fun x h1 => wpEs C T es σ h1 (fun xs h2 => Q (x :: xs) h2) E) E
  | _, _, _, _, _ => False
def wpP (C : ACall) (T : Tb) : CE → AEnv → AH → (Option Int → AH → Prop) → AXQ → Prop
  | .nil, _, h, K, _ => K none h
  | .cons e _, σ, h, K, E => wpE C T e σ h (fun x h1 => ∃ i, x = .int i ∧ K (some i) h1) E
  | _, _, _, _, _ => False
def wpAndV (C : ACall) (T : Tb) : CE → AEnv → AH → AQ → AXQ → Prop
  | .cons e es, σ, h, Q, E => match es with
    | .nil => wpE C T e σ h Q E
    | _ => wpE C T e σ h (fun x h1 => ∃ c, x = .bl c ∧ if c = true then wpAndV C T es σ h1 Q E else Q (.bl false) h1) E
  | _, _, _, _, _ => False
def wpOrV (C : ACall) (T : Tb) : CE → AEnv → AH → AQ → AXQ → Prop
  | .cons e es, σ, h, Q, E => match es with
    | .nil => wpE C T e σ h Q E
    | _ => wpE C T e σ h (fun x h1 => ∃ c, x = .bl c ∧ if c = true then Q (.bl true) h1 else wpOrV C T es σ h1 Q E) E
  | _, _, _, _, _ => False
def wpT (C : ACall) (T : Tb) : CE → AEnv → AH → (Bool → AH → Prop) → AXQ → Prop
  | .cmp op a b, σ, h, Q, E => wpE C T a σ h (fun x h1 => wpE C T b σ h1 (fun y h2 => cmpR op x y h2 fun r => Q r h2) E) E
  | .chain o1 o2 a b c, σ, h, Q, E => wpE C T a σ h (fun x h1 => wpE C T b σ h1 (fun y h2 => cmpR o1 x y h2 fun r =>
      if r = true then wpE C T c σ h2 (fun z h3 => cmpR o2 y z h3 fun r' => Q r' h3) E else Q false h2) E) E
  | .not a, σ, h, Q, E => wpT C T a σ h (fun r h1 => Q (!r) h1) E
  | .and es, σ, h, Q, E => wpAnd C T es σ h Q E
  | .or es, σ, h, Q, E => wpOr C T es σ h Q E
  | .tru e, σ, h, Q, E => wpE C T e σ h (fun x h1 => truR x h1 fun r => Q r h1) E
  | .inD a g neg, σ, h, Q, E => wpE C T a σ h (fun x h1 => ∃ t, T.dt g = some t ∧ dtR t.2 x fun r => Q (if neg = true then !r.isSome else r.isSome) h1) E
  | _, _, _, _, _ => False
def wpAnd (C : ACall) (T : Tb) : CE → AEnv → AH → (Bool → AH → Prop) → AXQ → Prop
  | .nil, _, h, Q, _ => Q true h
  | .cons e es, σ, h, Q, E => wpT C T e σ h (fun r h1 => if r = true then wpAnd C T es σ h1 Q E else Q false h1) E
  | _, _, _, _, _ => False
def wpOr (C : ACall) (T : Tb) : CE → AEnv → AH → (Bool → AH → Prop) → AXQ → Prop
  | .nil, _, h, Q, _ => Q false h
  | .cons e es, σ, h, Q, E => wpT C T e σ h (fun r h1 => if r = true then Q true h1 else wpOr C T es σ h1 Q E) E
  | _, _, _, _, _ => False
def wpTs (C : ACall) (T : Tb) : CE → AEnv → AH → (Bool → AH → Prop) → AXQ → Prop
  | .nil, _, h, Q, _ => Q true h
  | .cons e es, σ, h, Q, E => match es with
    | .nil => wpT C T e σ h Q E
    | _ => False
  | _, _, _, _, _ => False
def wpI (C : ACall) (T : Tb) : CE → AEnv → AH → (List AV → (AH → Prop) → AH → Prop) → AXQ → Prop
  | .range1 a, σ, h, K, E => wpE C T a σ h (fun x h1 => ∃ n : Int, x = .int n ∧ -(2 ^ 62) ≤ n ∧ n < 2 ^ 62 ∧ K (rangeL 0 n.toNat) (fun _ => True) h1) E
  | .range2 a b, σ, h, K, E => wpE C T a σ h (fun x h1 => wpE C T b σ h1 (fun y h2 => ∃ m n : Int, x = .int m ∧ y = .int n ∧ (-(2 ^ 62) ≤ m ∧ m < 2 ^ 62 ∧ -(2 ^ 62) ≤ n ∧ n < 2 ^ 62) ∧ K (rangeL m (n - m).toNat) (fun _ => True) h2) E) E
  | .zip a b, σ, h, K, E => wpE C T a σ h (fun x h1 => wpE C T b σ h1 (fun y h2 => itR x h2 fun xs c1 => itR y h2 fun ys c2 => K (zipL xs ys) (fun h' => c1 h' ∧ c2 h') h2) E) E
  | .enum a, σ, h, K, E => wpE C T a σ h (fun x h1 => itR x h1 fun xs chk => K (enumL 0 xs) chk h1) E
  | .val e, σ, h, K, E => wpE C T e σ h (fun x h1 => itR x h1 fun xs chk => K xs chk h1) E
  | _, _, _, _, _ => False
def wpG (C : ACall) (T : Tb) : CE → AV → AEnv → AH → (AEnv → AH → Prop) → Prop
  | .var i, v, σ, h, K => K (σ.set i (some v)) h
  | .tup gs, v, σ, h, K => ((∃ vs, (v = .tup vs ∨ v = .wt vs) ∧ vs.length = gs.len ∧ wpGs C T gs vs σ h K)) ∨ (∃ a vs, v = .ref a ∧ h a = some (.lst vs) ∧ vs.length = gs.len ∧ wpGs C T gs vs σ h K)
  | .idx o i, v, σ, h, K => wpE C T o σ h (fun x h1 => wpE C T i σ h1 (fun y h2 => ∃ a, x = .ref a ∧
      ((∃ xs i j, y = .int i ∧ ixN xs.length i = some j ∧ h2 a = some (.lst xs) ∧ K σ (aupd h2 a (.lst (xs.set j v)))) ∨
       (∃ kvs k, y.toKey = some k ∧ h2 a = some (.dK kvs) ∧ kvs.length < sizeLine ∧ K σ (aupd h2 a (.dK (dput kvs k v)))))) fun _ _ => False) fun _ _ => False
  | _, _, _, _, _ => False
def wpGs (C : ACall) (T : Tb) : CE → List AV → AEnv → AH → (AEnv → AH → Prop) → Prop
  | .nil, vs, σ, h, K => vs = [] ∧ K σ h
  | .cons g gs, vs, σ, h, K => ∃ v r, vs = v :: r ∧ wpG C T g v σ h (fun σ1 h1 => wpGs C T gs r σ1 h1 K)
  | _, _, _, _, _ => False
end

structure AEnds where
  nx : AEnv → AH → Prop
  rt : AQ
  bk : AEnv → AH → Prop
  ct : AEnv → AH → Prop
  ex : AX → AEnv → AH → Prop

def SLe (σ σ' : AEnv) : Prop := σ.length = σ'.length ∧ ∀ (i : Nat) (v : AV), σ[i]? = some (some v) → σ'[i]? = some (some v)
def Shs (P : AEnv → AH → Prop) (σ : AEnv) (h : AH) : Prop := ∃ σ' h', SLe σ' σ ∧ ALe h' h ∧ P σ' h'

def forL (step : AV → (AEnv → AH → Prop) → AEnv → AH → Prop) (chk : AH → Prop) (fin : AEnv → AH → Prop) : List AV → AEnv → AH → Prop
  | [], σ, h => chk h ∧ fin σ h
  | x :: xs, σ, h => chk h ∧ step x (Shs (forL step chk fin xs)) σ h
def whlL (tst : AEnv → AH → (Bool → AH → Prop) → Prop) (body : (AEnv → AH → Prop) → AEnv → AH → Prop) (fin : AEnv → AH → Prop) : Nat → AEnv → AH → Prop
  | 0, _, _ => False
  | n + 1, σ, h => tst σ h fun b h1 => if b = true then body (Shs (whlL tst body fin n)) σ h1 else fin σ h1

mutual
def wpS (C : ACall) (T : Tb) (sub : Nat → Nat → Bool) : CS → AEnds → AEnv → AH → Prop
  | .asg g e, D, σ, h => wpE C T e σ h (fun v h1 => wpG C T g v σ h1 D.nx) (fun x h' => D.ex x σ h')
  | .slc i e, D, σ, h => wpE C T e σ h (fun v h1 => D.nx (σ.set i (some v)) h1) (fun x h' => D.ex x σ h')
  | .par i j a b, D, σ, h => wpE C T a σ h (fun v h1 => wpE C T b σ h1 (fun w h2 => D.nx ((σ.set i (some v)).set j (some w)) h2) (fun x h' => D.ex x σ h')) (fun x h' => D.ex x σ h')
  | .par3 i j k a b c, D, σ, h => wpE C T a σ h (fun v h1 => wpE C T b σ h1 (fun w h2 => wpE C T c σ h2 (fun u h3 => D.nx (((σ.set i (some v)).set j (some w)).set k (some u)) h3) (fun x h' => D.ex x σ h')) (fun x h' => D.ex x σ h')) (fun x h' => D.ex x σ h')
  | .aug i op e, D, σ, h => ∃ x, σ[i]? = some (some x) ∧ wpE C T e σ h (fun y h1 => ∃ m n, x = .int m ∧ y = .int n ∧
      ((op = .add ∧ D.nx (σ.set i (some (.int (m + n)))) h1) ∨ (op = .sub ∧ D.nx (σ.set i (some (.int (m - n)))) h1))) (fun x h' => D.ex x σ h')
  | .expr e, D, σ, h => wpE C T e σ h (fun _ h1 => D.nx σ h1) (fun x h' => D.ex x σ h')
  | .ret e, D, σ, h => wpE C T e σ h D.rt (fun x h' => D.ex x σ h')
  | .retN, D, σ, h => D.rt .non h
  | .iff c t f, D, σ, h => wpT C T c σ h (fun b h1 => if b = true then wpB C T sub t D σ h1 else wpB C T sub f D σ h1) (fun x h' => D.ex x σ h')
  | .whl c b, D, σ, h => ∃ n, whlL (fun σ h k => wpT C T c σ h k (fun x h' => D.ex x σ h')) (fun nx σ h => wpB C T sub b { D with nx := nx, ct := nx, bk := D.nx } σ h) D.nx n σ h
  | .forr g it b, D, σ, h => wpI C T it σ h (fun xs chk h1 => forL (fun x nx σ h => wpG C T g x σ h (fun σ2 h2 => wpB C T sub b { D with nx := nx, ct := nx, bk := D.nx } σ2 h2)) chk D.nx xs σ h1) (fun x h' => D.ex x σ h')
  | .raise c es, D, σ, h => wpEs C T es σ h (fun vs h1 => D.ex ⟨c, vs⟩ σ h1) (fun x h' => D.ex x σ h')
  | .tri b hs, D, σ, h => wpB C T sub b { D with ex := fun x σ' h' => wpH C T sub hs x D σ' h' } σ h
  | .sat o f e, D, σ, h => wpE C T e σ h (fun v h1 => wpE C T o σ h1 (fun x h2 => setF x f v h2 fun h3 => D.nx σ h3) (fun x h' => D.ex x σ h')) (fun x h' => D.ex x σ h')
  | .pass, D, σ, h => D.nx σ h
  | .brk, D, σ, h => D.bk σ h
  | .cont, D, σ, h => D.ct σ h
  | _, _, _, _ => False
def wpB (C : ACall) (T : Tb) (sub : Nat → Nat → Bool) : CS → AEnds → AEnv → AH → Prop
  | .nil, D, σ, h => D.nx σ h
  | .cons s r, D, σ, h => wpS C T sub s { D with nx := fun σ1 h1 => wpB C T sub r D σ1 h1 } σ h
  | _, _, _, _ => False
def wpH (C : ACall) (T : Tb) (sub : Nat → Nat → Bool) : CS → AX → AEnds → AEnv → AH → Prop
  | .hnil, x, D, σ, h => D.ex x σ h
  | .hcons c b r, x, D, σ, h => if sub x.cls c = true then wpB C T sub b { D with ex := fun _ _ _ => False } σ h else wpH C T sub r x D σ h
  | _, _, _, _, _ => False
end

structure CF where
  np : Nat
  nn : Nat
  body : CS

structure Pg where
  T : Tb
  code : Nat → Option CF
  sub : Nat → Nat → Bool

def astart (n : Nat) (vs : List AV) : AEnv := vs.map some ++ List.replicate (n - vs.length) none
def wpC (G : Pg) : Nat → ACall
  | 0 => fun _ _ _ _ _ => False
  | n + 1 => fun f vs h Q E => ∃ cf, G.code f = some cf ∧ vs.length = cf.np ∧
      wpB (wpC G n) G.T G.sub cf.body { nx := fun _ h' => Shr (Q .non) h', rt := fun v h' => Shr (Q v) h', bk := fun _ _ => False, ct := fun _ _ => False, ex := fun x _ h' => Shr (E x) h' } (astart cf.nn vs) h
end PL

namespace PL
open PySem PySem.Spec PyProof.Rows L2
def QLe (Q Q' : AQ) : Prop := ∀ v h, Q v h → Q' v h
def XLe (E E' : AXQ) : Prop := ∀ v h, E v h → E' v h
section
variable {Q Q' : AQ} (hQ : QLe Q Q')
include hQ
theorem newL_mono {h : AH} {xs : List AV} (q : newL h xs Q) : newL h xs Q' := fun p hp => hQ _ _ (q p hp)
theorem binR_mono {op : BOp} {x y : AV} {h : AH} (q : binR op x y h Q) : binR op x y h Q' := by
  cases op <;> cases x <;> cases y <;> first
    | exact False.elim q
    | exact hQ _ _ q
    | exact ⟨q.1, hQ _ _ q.2⟩
    | (obtain ⟨xs, ys, e1, e2, hl, q⟩ := q; exact ⟨xs, ys, e1, e2, hl, newL_mono hQ q⟩)
    | (obtain ⟨xs, e1, e2, e3, hl, q⟩ := q; exact ⟨xs, e1, e2, e3, hl, newL_mono hQ q⟩)
    | (obtain ⟨e1, e2, e3, hl, q⟩ := q; exact ⟨e1, e2, e3, hl, hQ _ _ q⟩)
theorem ixR_mono {x y : AV} {h : AH} (q : ixR x y h Q) : ixR x y h Q' := by
  cases x with
  | ref a =>
    rcases q with ⟨xs, i, v, e, e1, e2, q⟩ | ⟨kvs, k, v, e, e1, e2, q⟩
    · exact .inl ⟨xs, i, v, e, e1, e2, hQ _ _ q⟩
    · exact .inr ⟨kvs, k, v, e, e1, e2, hQ _ _ q⟩
  | _ =>
    cases y <;> first
      | exact False.elim q
      | (obtain ⟨v, e, q⟩ := q; exact ⟨v, e, hQ _ _ q⟩)
      | (obtain ⟨hl, v, e, q⟩ := q; exact ⟨hl, v, e, hQ _ _ q⟩)
theorem slR_mono {x : AV} {lo hi : Option Int} {h : AH} (q : slR x lo hi h Q) : slR x lo hi h Q' := by
  cases x <;> first
    | exact False.elim q
    | exact hQ _ _ q
    | exact fun p hp => hQ _ _ (q p hp)
    | (obtain ⟨xs, e, q⟩ := q; exact ⟨xs, e, fun p hp => hQ _ _ (q p hp)⟩)
theorem revR_mono {x : AV} {h : AH} (q : revR x h Q) : revR x h Q' := by
  cases x <;> first
    | exact False.elim q
    | (obtain ⟨xs, e, q⟩ := q; exact ⟨xs, e, fun p hp => hQ _ _ (q p hp)⟩)
theorem one_mono {vs : List AV} {K K' : AV → Prop} (hk : ∀ x, K x → K' x) (q : one vs K) : one vs K' := by
  obtain ⟨x, rfl, q⟩ := one_ex q
  exact hk x q
theorem two_mono {vs : List AV} {K K' : AV → AV → Prop} (hk : ∀ x y, K x y → K' x y) (q : two vs K) : two vs K' := by
  obtain ⟨x, y, rfl, q⟩ := two_ex q
  exact hk x y q
theorem bltR_mono {f : Blt} {vs : List AV} {h : AH} (q : bltR f vs h Q) : bltR f vs h Q' := by
  cases f
  case len =>
    refine one_mono hQ (fun x q => ?_) q
    cases x <;> first
      | exact False.elim q
      | exact hQ _ _ q
      | exact ⟨q.1, hQ _ _ q.2⟩
      | (rcases q with ⟨xs, e, q⟩ | ⟨xs, e, q⟩
         · exact .inl ⟨xs, e, hQ _ _ q⟩
         · exact .inr ⟨xs, e, hQ _ _ q⟩)
  case abs => refine one_mono hQ (fun x q => ?_) q; cases x <;> first | exact False.elim q | exact hQ _ _ q
  case int => refine one_mono hQ (fun x q => ?_) q; cases x <;> first | exact False.elim q | exact hQ _ _ q
  case tuple => refine one_mono hQ (fun x q => ?_) q; cases x <;> first | exact False.elim q | exact hQ _ _ q | (obtain ⟨xs, e, q⟩ := q; exact ⟨xs, e, hQ _ _ q⟩)
  case list => refine one_mono hQ (fun x q => ?_) q; cases x <;> first | exact False.elim q | exact newL_mono hQ q | (obtain ⟨xs, e, q⟩ := q; exact ⟨xs, e, newL_mono hQ q⟩)
  case all => refine one_mono hQ (fun x q => ?_) q; cases x <;> first | exact False.elim q | (obtain ⟨xs, b, e, e2, q⟩ := q; exact ⟨xs, b, e, e2, hQ _ _ q⟩)
  case any => refine one_mono hQ (fun x q => ?_) q; cases x <;> first | exact False.elim q | (obtain ⟨xs, b, e, e2, q⟩ := q; exact ⟨xs, b, e, e2, hQ _ _ q⟩)
  case sum => refine one_mono hQ (fun x q => ?_) q; cases x <;> first | exact False.elim q | (obtain ⟨xs, b, e, e2, q⟩ := q; exact ⟨xs, b, e, e2, hQ _ _ q⟩)
  case sorted =>
    refine one_mono hQ (fun x q => ?_) q
    cases x with
    | ref a =>
      rcases q with ⟨xs, ns, e, e2, l, q⟩ | ⟨xs, ns, e, e2, q⟩ | ⟨kvs, ns, e, e2, l, q⟩ | ⟨kvs, ns, e, e2, l, q⟩ | ⟨xs, e, e2, e3, q⟩
      · exact .inl ⟨xs, ns, e, e2, l, fun ys p s => newL_mono hQ (q ys p s)⟩
      · exact .inr (.inl ⟨xs, ns, e, e2, fun ys p s => newL_mono hQ (q ys p s)⟩)
      · exact .inr (.inr (.inl ⟨kvs, ns, e, e2, l, fun ys p s => newL_mono hQ (q ys p s)⟩))
      · exact .inr (.inr (.inr (.inl ⟨kvs, ns, e, e2, l, fun ys p s => newL_mono hQ (q ys p s)⟩)))
      · exact .inr (.inr (.inr (.inr ⟨xs, e, e2, e3, fun ys p s => newL_mono hQ (q ys p s)⟩)))
    | _ => exact False.elim q
  case dict =>
    refine one_mono hQ (fun x q => ?_) q
    cases x with
    | ref a =>
      rcases q with ⟨xs, ps, e, e2, q⟩ | ⟨kvs, e, q⟩
      · exact .inl ⟨xs, ps, e, e2, fun p hp => hQ _ _ (q p hp)⟩
      · exact .inr ⟨kvs, e, fun p hp => hQ _ _ (q p hp)⟩
    | tup xs =>
      obtain ⟨ps, e, q⟩ := q
      exact ⟨ps, e, fun p hp => hQ _ _ (q p hp)⟩
    | _ => exact False.elim q
  case max =>
    match vs, q with
    | [x], q => cases x <;> first | exact False.elim q | (obtain ⟨ns, e, e2, q⟩ := q; exact ⟨ns, e, e2, fun m hm hy => hQ _ _ (q m hm hy)⟩)
    | [x, y], q => obtain ⟨i, j, e, e2, q⟩ := q; exact ⟨i, j, e, e2, hQ _ _ q⟩
  case min =>
    match vs, q with
    | [x], q =>
      cases x with
      | ref a =>
        obtain ⟨ps, e, e2, q⟩ := q
        exact ⟨ps, e, e2, fun m h1 h2 => hQ _ _ (q m h1 h2)⟩
      | _ => exact False.elim q
    | [x, y], q =>
      obtain ⟨i, j, e, e2, q⟩ := q
      exact ⟨i, j, e, e2, hQ _ _ q⟩
  all_goals exact False.elim q
theorem mthR_mono {m : Mth} {x : AV} {vs : List AV} {h : AH} (q : mthR m x vs h Q) : mthR m x vs h Q' := by
  cases m
  case append => refine one_mono hQ (fun y q => ?_) q; cases x <;> first | exact False.elim q | (obtain ⟨xs, e, e2, q⟩ := q; exact ⟨xs, e, e2, hQ _ _ q⟩)
  case extend => refine one_mono hQ (fun y q => ?_) q; obtain ⟨a, b, xs, ys, e1, e2, e3, e4, e5, q⟩ := q; exact ⟨a, b, xs, ys, e1, e2, e3, e4, e5, hQ _ _ q⟩
  case pop =>
    rcases q with ⟨e0, q⟩ | ⟨e0, q⟩
    · refine .inl ⟨e0, ?_⟩; cases x <;> first | exact False.elim q | (obtain ⟨xs, y, e, q⟩ := q; exact ⟨xs, y, e, hQ _ _ q⟩)
    · refine .inr ⟨e0, ?_⟩; cases x <;> first | exact False.elim q | (obtain ⟨xs, y, e, q⟩ := q; exact ⟨xs, y, e, hQ _ _ q⟩)
  case get =>
    match vs, q with
    | [k], q => cases x <;> first | exact False.elim q | (obtain ⟨kvs, k', e, e2, q⟩ := q; exact ⟨kvs, k', e, e2, hQ _ _ q⟩)
    | [k, d], q => cases x <;> first | exact False.elim q | (obtain ⟨kvs, k', e, e2, q⟩ := q; exact ⟨kvs, k', e, e2, hQ _ _ q⟩)
  case insert => refine two_mono hQ (fun i y q => ?_) q; cases x <;> cases i <;> first | exact False.elim q | (obtain ⟨xs, e1, e2, e3, e4, q⟩ := q; exact ⟨xs, e1, e2, e3, e4, hQ _ _ q⟩)
  case index => refine one_mono hQ (fun y q => ?_) q; cases x <;> first | exact False.elim q | (obtain ⟨ys, j, z, e1, e2, e3, e4, e5, e6, q⟩ := q; exact ⟨ys, j, z, e1, e2, e3, e4, e5, e6, hQ _ _ q⟩)
  all_goals exact False.elim q
end
section
variable {Q Q' : Bool → Prop} (hQ : ∀ b, Q b → Q' b)
include hQ
theorem eqR_mono {x y : AV} {h : AH} (q : eqR x y h Q) : eqR x y h Q' := by
  cases x <;> cases y <;> first
    | exact ⟨q.1, q.2.1, hQ _ q.2.2⟩
    | (obtain ⟨xs, ys, e1, e2, e3, e4, q⟩ := q; exact ⟨xs, ys, e1, e2, e3, e4, hQ _ q⟩)
theorem isR_mono {x y : AV} (q : isR x y Q) : isR x y Q' := by
  cases x <;> cases y <;> first | exact hQ _ q | exact False.elim q
theorem inR_mono {x y : AV} {h : AH} (q : inR x y h Q) : inR x y h Q' := by
  cases y with
  | tup ys => exact ⟨q.1, q.2.1, hQ _ q.2.2⟩
  | str z => cases x <;> first | exact False.elim q | (obtain ⟨c, e, q⟩ := q; exact ⟨c, e, hQ _ q⟩)
  | ref a =>
    rcases q with ⟨ys, e, f, g, q⟩ | ⟨kvs, k, e, ek, q⟩ | ⟨ys, e, f, g, q⟩
    · exact .inl ⟨ys, e, f, g, hQ _ q⟩
    · exact .inr (.inl ⟨kvs, k, e, ek, hQ _ q⟩)
    · exact .inr (.inr ⟨ys, e, f, g, hQ _ q⟩)
  | _ => exact False.elim q
theorem truR_mono {x : AV} {h : AH} (q : truR x h Q) : truR x h Q' := by
  cases x <;> first | exact False.elim q | exact hQ _ q | (obtain ⟨xs, e, q⟩ := q; exact ⟨xs, e, hQ _ q⟩)
theorem tyR_mono {ts : List Ty} {x : AV} {h : AH} (q : tyR ts x h Q) : tyR ts x h Q' := by
  cases x <;> first
    | exact False.elim q
    | exact hQ _ q
    | (rcases q with ⟨xs, e, q⟩ | ⟨xs, e, q⟩
       · exact .inl ⟨xs, e, hQ _ q⟩
       · exact .inr ⟨xs, e, hQ _ q⟩)
end
theorem cmpR_mono {Q Q' : Bool → Prop} (hQ : ∀ b, Q b → Q' b) {op : COp} {x y : AV} {h : AH} (q : cmpR op x y h Q) : cmpR op x y h Q' := by
  cases op
  · exact eqR_mono hQ q
  · exact eqR_mono (fun b z => hQ _ z) q
  · cases x <;> cases y <;> first | exact False.elim q | exact hQ _ q
  · cases x <;> cases y <;> first | exact False.elim q | exact hQ _ q
  · cases x <;> cases y <;> first | exact False.elim q | exact hQ _ q
  · cases x <;> cases y <;> first | exact False.elim q | exact hQ _ q
  · exact isR_mono hQ q
  · exact isR_mono (fun b z => hQ _ z) q
  · exact inR_mono hQ q
  · exact inR_mono (fun b z => hQ _ z) q
theorem itR_mono {x : AV} {h : AH} {K K' : List AV → (AH → Prop) → Prop} (hK : ∀ xs c, K xs c → K' xs c) (q : itR x h K) : itR x h K' := by
  cases x <;> first | exact False.elim q | exact hK _ _ q | (obtain ⟨xs, e, q⟩ := q; exact ⟨xs, e, hK _ _ q⟩)
theorem Shr.mono {P P' : AH → Prop} (hP : ∀ h, P h → P' h) {h : AH} (q : Shr P h) : Shr P' h := let ⟨h', l, p⟩ := q; ⟨h', l, hP _ p⟩
theorem Shs.mono {P P' : AEnv → AH → Prop} (hP : ∀ σ h, P σ h → P' σ h) {σ : AEnv} {h : AH} (q : Shs P σ h) : Shs P' σ h := let ⟨σ', h', l, m, p⟩ := q; ⟨σ', h', l, m, hP _ _ p⟩
theorem lcL_mono {D : Addr} {own : List Nat} {tgt : AV → AEnv → AH → (AEnv → AH → Prop) → Prop} {tst : AEnv → AH → (Bool → AH → Prop) → Prop} {elt : AEnv → AH → AQ → Prop} {chk : AH → Prop} {fin fin' : AH → Prop} {σ : AEnv}
    (ht : ∀ x σ h (k k' : AEnv → AH → Prop), (∀ σ h, k σ h → k' σ h) → tgt x σ h k → tgt x σ h k') (hs : ∀ σ h (k k' : Bool → AH → Prop), (∀ b h, k b h → k' b h) → tst σ h k → tst σ h k') (he : ∀ σ h (k k' : AQ), QLe k k' → elt σ h k → elt σ h k')
    (hf : ∀ h, fin h → fin' h) : ∀ {xs : List AV} {h : AH}, lcL D own tgt tst elt chk fin σ xs h → lcL D own tgt tst elt chk fin' σ xs h
  | [], h, q => ⟨q.1, hf _ q.2⟩
  | x :: xs, h, q => by
    refine ⟨q.1, ht _ _ _ _ _ (fun σ2 h2 q => hs _ _ _ _ (fun b h3 q => ?_) q) q.2⟩
    cases b with
    | true => exact he _ _ _ _ (fun y h4 ⟨acc, e, l, s⟩ => ⟨acc, e, l, s.mono fun h q => lcL_mono ht hs he hf q⟩) q
    | false => exact Shr.mono (P := lcL D own tgt tst elt chk fin σ xs) (fun h q => lcL_mono ht hs he hf q) q
theorem fldR_mono {x : AV} {f : Nat} {h : AH} {Q Q' : AQ} (hQ : QLe Q Q') (q : fldR x f h Q) : fldR x f h Q' := by
  cases x <;> first | exact False.elim q | (obtain ⟨c, fs, v, e, l, q⟩ := q; exact ⟨c, fs, v, e, l, hQ _ _ q⟩)
theorem mthF_mono {T : Tb} {x : AV} {m : Nat} {h : AH} {K K' : Nat → Prop} (hK : ∀ f, K f → K' f) (q : mthF T x m h K) : mthF T x m h K' := by
  cases x <;> first | exact False.elim q | (obtain ⟨c, fs, f, e, l, q⟩ := q; exact ⟨c, fs, f, e, l, hK _ q⟩)
theorem setF_mono {x : AV} {f : Nat} {v : AV} {h : AH} {K K' : AH → Prop} (hK : ∀ f, K f → K' f) (q : setF x f v h K) : setF x f v h K' := by
  cases x <;> first | exact False.elim q | (obtain ⟨c, fs, e, l, q⟩ := q; exact ⟨c, fs, e, l, hK _ q⟩)
theorem dtR_mono {kvs : List (Str × AV)} {x : AV} {K K' : Option AV → Prop} (hK : ∀ r, K r → K' r) (q : dtR kvs x K) : dtR kvs x K' := by
  cases x <;> first | exact False.elim q | exact hK _ q
def CMono (C : ACall) : Prop := ∀ f vs h Q Q' E E', QLe Q Q' → XLe E E' → C f vs h Q E → C f vs h Q' E'
section
variable {C : ACall} (hC : CMono C) {T : Tb}
include hC
mutual
theorem wpE_mono : ∀ (e : CE) {σ : AEnv} {h : AH} {Q Q' : AQ} {E E' : AXQ}, QLe Q Q' → XLe E E' → wpE C T e σ h Q E → wpE C T e σ h Q' E'
  | .non, _, _, _, _, _, _, hQ, hE, q => hQ _ _ q
  | .bl _, _, _, _, _, _, _, hQ, hE, q => hQ _ _ q
  | .int _, _, _, _, _, _, _, hQ, hE, q => hQ _ _ q
  | .str _, _, _, _, _, _, _, hQ, hE, q => hQ _ _ q
  | .var _, _, _, _, _, _, _, hQ, hE, q => let ⟨v, e, q⟩ := q; ⟨v, e, hQ _ _ q⟩
  | .glob _, _, _, _, _, _, _, hQ, hE, q => let ⟨v, e, q⟩ := q; ⟨v, e, hQ _ _ q⟩
  | .tup es, _, _, _, _, _, _, hQ, hE, q => wpEs_mono es (fun _ _ q => ⟨q.1, hQ _ _ q.2⟩) hE q
  | .lst es, _, _, _, _, _, _, hQ, hE, q => wpEs_mono es (fun _ _ q => ⟨q.1, newL_mono hQ q.2⟩) hE q
  | .dct0, _, _, _, _, _, _, hQ, hE, q => fun p hp => hQ _ _ (q p hp)
  | .bin op a b, _, _, _, _, _, _, hQ, hE, q => wpE_mono a (fun _ _ q => wpE_mono b (fun _ _ q => binR_mono hQ q) hE q) hE q
  | .neg a, _, _, _, _, _, _, hQ, hE, q => wpE_mono a (fun _ _ ⟨i, e, q⟩ => ⟨i, e, hQ _ _ q⟩) hE q
  | .not a, _, _, _, _, _, _, hQ, hE, q => wpE_mono a (fun _ _ ⟨i, e, q⟩ => ⟨i, e, hQ _ _ q⟩) hE q
  | .cmp op a b, _, _, _, _, _, _, hQ, hE, q => wpE_mono a (fun _ _ q => wpE_mono b (fun _ _ q => cmpR_mono (fun _ q => hQ _ _ q) q) hE q) hE q
  | .chain o1 o2 a b c, _, _, _, _, _, _, hQ, hE, q => wpE_mono a (fun _ _ q => wpE_mono b (fun _ _ q => cmpR_mono (fun r q => by
      cases r with
      | true => exact wpE_mono c (fun _ _ q => cmpR_mono (fun _ q => hQ _ _ q) q) hE q
      | false => exact hQ _ _ q) q) hE q) hE q
  | .and es, _, _, _, _, _, _, hQ, hE, q => wpAndV_mono es hQ hE q
  | .or es, _, _, _, _, _, _, hQ, hE, q => wpOrV_mono es hQ hE q
  | .ifx c a b, _, _, _, _, _, _, hQ, hE, q => wpT_mono c (fun r _ q => by
      cases r with
      | true => exact wpE_mono a hQ hE q
      | false => exact wpE_mono b hQ hE q) hE q
  | .call f es, _, _, _, _, _, _, hQ, hE, q => wpEs_mono es (fun _ _ q => hC _ _ _ _ _ _ _ hQ hE q) hE q
  | .blt f es, _, _, _, _, _, _, hQ, hE, q => wpEs_mono es (fun _ _ q => bltR_mono hQ q) hE q
  | .isin e ts, _, _, _, _, _, _, hQ, hE, q => wpE_mono e (fun _ _ q => tyR_mono (fun _ q => hQ _ _ q) q) hE q
  | .idx a i, _, _, _, _, _, _, hQ, hE, q => wpE_mono a (fun _ _ q => wpE_mono i (fun _ _ q => ixR_mono hQ q) hE q) hE q
  | .slc a lo hi, _, _, _, _, _, _, hQ, hE, q => wpE_mono a (fun _ _ q => wpP_mono lo (fun _ _ q => wpP_mono hi (fun _ _ q => slR_mono hQ q) hE q) hE q) hE q
  | .rev a, _, _, _, _, _, _, hQ, hE, q => wpE_mono a (fun _ _ q => revR_mono hQ q) hE q
  | .mth m o es, _, _, _, _, _, _, hQ, hE, q => wpE_mono o (fun _ _ q => ⟨q.1, wpEs_mono es (fun _ _ q => mthR_mono hQ q) hE q.2⟩) hE q
  | .comp own g it ifs elt, _, _, _, _, _, _, hQ, hE, q => wpI_mono it (fun _ _ _ q => fun D hD => lcL_mono (tgt := fun x σ h k => wpG C T g x σ h k) (tst := fun σ h k => wpTs C T ifs σ h k fun _ _ => False) (elt := fun σ h k => wpE C T elt σ h k fun _ _ => False) (fun _ _ _ _ _ hk q => wpG_mono g hk q) (fun _ _ _ _ hk q => wpTs_mono ifs hk (fun _ _ z => z) q) (fun _ _ _ _ hk q => wpE_mono elt hk (fun _ _ z => z) q) (fun _ q => hQ _ _ q) (q D hD)) hE q
  | .nil, _, _, _, _, _, _, _, _, q => q.elim
  | .cons _ _, _, _, _, _, _, _, _, _, q => q.elim
  | .attr o f, _, _, _, _, _, _, hQ, hE, q => wpE_mono o (fun _ _ q => fldR_mono hQ q) hE q
  | .umth m o es, _, _, _, _, _, _, hQ, hE, q => wpE_mono o (fun _ _ q => mthF_mono (fun _ q => wpEs_mono es (fun _ _ q => hC _ _ _ _ _ _ _ hQ hE q) hE q) q) hE q
  | .new c es, _, _, _, _, _, _, hQ, hE, q => wpEs_mono es (fun _ _ q => let ⟨f, e, q⟩ := q; ⟨f, e, fun p hp => hC _ _ _ _ _ _ _ (fun _ _ z => ⟨z.1, hQ _ _ z.2⟩) hE (q p hp)⟩) hE q
  | .inD a g neg, _, _, _, _, _, _, hQ, hE, q => wpE_mono a (fun _ _ q => let ⟨t, e, q⟩ := q; ⟨t, e, dtR_mono (fun _ q => hQ _ _ q) q⟩) hE q
  | .ixD g a, _, _, _, _, _, _, hQ, hE, q => wpE_mono a (fun _ _ q => let ⟨t, e, q⟩ := q; ⟨t, e, dtR_mono (fun _ q => let ⟨v, e, q⟩ := q; ⟨v, e, hQ _ _ q⟩) q⟩) hE q
  | .tru _, _, _, _, _, _, _, _, _, q => q.elim
  | .val _, _, _, _, _, _, _, _, _, q => q.elim
  | .range1 _, _, _, _, _, _, _, _, _, q => q.elim
  | .range2 _ _, _, _, _, _, _, _, _, _, q => q.elim
  | .range3 _ _ _, _, _, _, _, _, _, _, _, q => q.elim
  | .enum _, _, _, _, _, _, _, _, _, q => q.elim
  | .zip _ _, _, _, _, _, _, _, _, _, q => q.elim
  | .ditems _, _, _, _, _, _, _, _, _, q => q.elim
theorem wpEs_mono : ∀ (e : CE) {σ : AEnv} {h : AH} {Q Q' : List AV → AH → Prop} {E E' : AXQ}, (∀ vs h, Q vs h → Q' vs h) → XLe E E' → wpEs C T e σ h Q E → wpEs C T e σ h Q' E'
  | .nil, _, _, _, _, _, _, hQ, hE, q => hQ _ _ q
  | .cons e es, _, _, _, _, _, _, hQ, hE, q => wpE_mono e (fun _ _ q => wpEs_mono es (fun _ _ q => hQ _ _ q) hE q) hE q
  | .non, _, _, _, _, _, _, _, _, q => q.elim
  | .bl _, _, _, _, _, _, _, _, _, q => q.elim
  | .int _, _, _, _, _, _, _, _, _, q => q.elim
  | .str _, _, _, _, _, _, _, _, _, q => q.elim
  | .var _, _, _, _, _, _, _, _, _, q => q.elim
  | .glob _, _, _, _, _, _, _, _, _, q => q.elim
  | .tup _, _, _, _, _, _, _, _, _, q => q.elim
  | .lst _, _, _, _, _, _, _, _, _, q => q.elim
  | .dct0, _, _, _, _, _, _, _, _, q => q.elim
  | .bin _ _ _, _, _, _, _, _, _, _, _, q => q.elim
  | .neg _, _, _, _, _, _, _, _, _, q => q.elim
  | .not _, _, _, _, _, _, _, _, _, q => q.elim
  | .cmp _ _ _, _, _, _, _, _, _, _, _, q => q.elim
  | .chain _ _ _ _ _, _, _, _, _, _, _, _, _, q => q.elim
  | .and _, _, _, _, _, _, _, _, _, q => q.elim
  | .or _, _, _, _, _, _, _, _, _, q => q.elim
  | .ifx _ _ _, _, _, _, _, _, _, _, _, q => q.elim
  | .call _ _, _, _, _, _, _, _, _, _, q => q.elim
  | .blt _ _, _, _, _, _, _, _, _, _, q => q.elim
  | .isin _ _, _, _, _, _, _, _, _, _, q => q.elim
  | .idx _ _, _, _, _, _, _, _, _, _, q => q.elim
  | .slc _ _ _, _, _, _, _, _, _, _, _, q => q.elim
  | .rev _, _, _, _, _, _, _, _, _, q => q.elim
  | .mth _ _ _, _, _, _, _, _, _, _, _, q => q.elim
  | .attr _ _, _, _, _, _, _, _, _, _, q => q.elim
  | .umth _ _ _, _, _, _, _, _, _, _, _, q => q.elim
  | .new _ _, _, _, _, _, _, _, _, _, q => q.elim
  | .inD _ _ _, _, _, _, _, _, _, _, _, q => q.elim
  | .ixD _ _, _, _, _, _, _, _, _, _, q => q.elim
  | .comp _ _ _ _ _, _, _, _, _, _, _, _, _, q => q.elim
  | .tru _, _, _, _, _, _, _, _, _, q => q.elim
  | .val _, _, _, _, _, _, _, _, _, q => q.elim
  | .range1 _, _, _, _, _, _, _, _, _, q => q.elim
  | .range2 _ _, _, _, _, _, _, _, _, _, q => q.elim
  | .range3 _ _ _, _, _, _, _, _, _, _, _, q => q.elim
  | .enum _, _, _, _, _, _, _, _, _, q => q.elim
  | .zip _ _, _, _, _, _, _, _, _, _, q => q.elim
  | .ditems _, _, _, _, _, _, _, _, _, q => q.elim
theorem wpP_mono : ∀ (e : CE) {σ : AEnv} {h : AH} {Q Q' : Option Int → AH → Prop} {E E' : AXQ}, (∀ vs h, Q vs h → Q' vs h) → XLe E E' → wpP C T e σ h Q E → wpP C T e σ h Q' E'
  | .nil, _, _, _, _, _, _, hQ, hE, q => hQ _ _ q
  | .cons e es, _, _, _, _, _, _, hQ, hE, q => wpE_mono e (fun _ _ ⟨i, e, q⟩ => ⟨i, e, hQ _ _ q⟩) hE q
  | .non, _, _, _, _, _, _, _, _, q => q.elim
  | .bl _, _, _, _, _, _, _, _, _, q => q.elim
  | .int _, _, _, _, _, _, _, _, _, q => q.elim
  | .str _, _, _, _, _, _, _, _, _, q => q.elim
  | .var _, _, _, _, _, _, _, _, _, q => q.elim
  | .glob _, _, _, _, _, _, _, _, _, q => q.elim
  | .tup _, _, _, _, _, _, _, _, _, q => q.elim
  | .lst _, _, _, _, _, _, _, _, _, q => q.elim
  | .dct0, _, _, _, _, _, _, _, _, q => q.elim
  | .bin _ _ _, _, _, _, _, _, _, _, _, q => q.elim
  | .neg _, _, _, _, _, _, _, _, _, q => q.elim
  | .not _, _, _, _, _, _, _, _, _, q => q.elim
  | .cmp _ _ _, _, _, _, _, _, _, _, _, q => q.elim
  | .chain _ _ _ _ _, _, _, _, _, _, _, _, _, q => q.elim
  | .and _, _, _, _, _, _, _, _, _, q => q.elim
  | .or _, _, _, _, _, _, _, _, _, q => q.elim
  | .ifx _ _ _, _, _, _, _, _, _, _, _, q => q.elim
  | .call _ _, _, _, _, _, _, _, _, _, q => q.elim
  | .blt _ _, _, _, _, _, _, _, _, _, q => q.elim
  | .isin _ _, _, _, _, _, _, _, _, _, q => q.elim
  | .idx _ _, _, _, _, _, _, _, _, _, q => q.elim
  | .slc _ _ _, _, _, _, _, _, _, _, _, q => q.elim
  | .rev _, _, _, _, _, _, _, _, _, q => q.elim
  | .mth _ _ _, _, _, _, _, _, _, _, _, q => q.elim
  | .attr _ _, _, _, _, _, _, _, _, _, q => q.elim
  | .umth _ _ _, _, _, _, _, _, _, _, _, q => q.elim
  | .new _ _, _, _, _, _, _, _, _, _, q => q.elim
  | .inD _ _ _, _, _, _, _, _, _, _, _, q => q.elim
  | .ixD _ _, _, _, _, _, _, _, _, _, q => q.elim
  | .comp _ _ _ _ _, _, _, _, _, _, _, _, _, q => q.elim
  | .tru _, _, _, _, _, _, _, _, _, q => q.elim
  | .val _, _, _, _, _, _, _, _, _, q => q.elim
  | .range1 _, _, _, _, _, _, _, _, _, q => q.elim
  | .range2 _ _, _, _, _, _, _, _, _, _, q => q.elim
  | .range3 _ _ _, _, _, _, _, _, _, _, _, q => q.elim
  | .enum _, _, _, _, _, _, _, _, _, q => q.elim
  | .zip _ _, _, _, _, _, _, _, _, _, q => q.elim
  | .ditems _, _, _, _, _, _, _, _, _, q => q.elim
theorem wpAndV_mono : ∀ (e : CE) {σ : AEnv} {h : AH} {Q Q' : AQ} {E E' : AXQ}, QLe Q Q' → XLe E E' → wpAndV C T e σ h Q E → wpAndV C T e σ h Q' E'
  | .cons e es, _, _, _, _, _, _, hQ, hE, q => by
    unfold wpAndV at q ⊢
    split at q
    · exact wpE_mono e hQ hE q
    · refine wpE_mono e (fun x _ q => ?_) hE q
      obtain ⟨c, ec, q⟩ := q
      refine ⟨c, ec, ?_⟩
      cases c with
      | true => exact wpAndV_mono es hQ hE q
      | false => exact hQ _ _ q
  | .non, _, _, _, _, _, _, _, _, q => q.elim
  | .bl _, _, _, _, _, _, _, _, _, q => q.elim
  | .int _, _, _, _, _, _, _, _, _, q => q.elim
  | .str _, _, _, _, _, _, _, _, _, q => q.elim
  | .var _, _, _, _, _, _, _, _, _, q => q.elim
  | .glob _, _, _, _, _, _, _, _, _, q => q.elim
  | .nil, _, _, _, _, _, _, _, _, q => q.elim
  | .tup _, _, _, _, _, _, _, _, _, q => q.elim
  | .lst _, _, _, _, _, _, _, _, _, q => q.elim
  | .dct0, _, _, _, _, _, _, _, _, q => q.elim
  | .bin _ _ _, _, _, _, _, _, _, _, _, q => q.elim
  | .neg _, _, _, _, _, _, _, _, _, q => q.elim
  | .not _, _, _, _, _, _, _, _, _, q => q.elim
  | .cmp _ _ _, _, _, _, _, _, _, _, _, q => q.elim
  | .chain _ _ _ _ _, _, _, _, _, _, _, _, _, q => q.elim
  | .and _, _, _, _, _, _, _, _, _, q => q.elim
  | .or _, _, _, _, _, _, _, _, _, q => q.elim
  | .ifx _ _ _, _, _, _, _, _, _, _, _, q => q.elim
  | .call _ _, _, _, _, _, _, _, _, _, q => q.elim
  | .blt _ _, _, _, _, _, _, _, _, _, q => q.elim
  | .isin _ _, _, _, _, _, _, _, _, _, q => q.elim
  | .idx _ _, _, _, _, _, _, _, _, _, q => q.elim
  | .slc _ _ _, _, _, _, _, _, _, _, _, q => q.elim
  | .rev _, _, _, _, _, _, _, _, _, q => q.elim
  | .mth _ _ _, _, _, _, _, _, _, _, _, q => q.elim
  | .attr _ _, _, _, _, _, _, _, _, _, q => q.elim
  | .umth _ _ _, _, _, _, _, _, _, _, _, q => q.elim
  | .new _ _, _, _, _, _, _, _, _, _, q => q.elim
  | .inD _ _ _, _, _, _, _, _, _, _, _, q => q.elim
  | .ixD _ _, _, _, _, _, _, _, _, _, q => q.elim
  | .comp _ _ _ _ _, _, _, _, _, _, _, _, _, q => q.elim
  | .tru _, _, _, _, _, _, _, _, _, q => q.elim
  | .val _, _, _, _, _, _, _, _, _, q => q.elim
  | .range1 _, _, _, _, _, _, _, _, _, q => q.elim
  | .range2 _ _, _, _, _, _, _, _, _, _, q => q.elim
  | .range3 _ _ _, _, _, _, _, _, _, _, _, q => q.elim
  | .enum _, _, _, _, _, _, _, _, _, q => q.elim
  | .zip _ _, _, _, _, _, _, _, _, _, q => q.elim
  | .ditems _, _, _, _, _, _, _, _, _, q => q.elim
theorem wpOrV_mono : ∀ (e : CE) {σ : AEnv} {h : AH} {Q Q' : AQ} {E E' : AXQ}, QLe Q Q' → XLe E E' → wpOrV C T e σ h Q E → wpOrV C T e σ h Q' E'
  | .cons e es, _, _, _, _, _, _, hQ, hE, q => by
    unfold wpOrV at q ⊢
    split at q
    · exact wpE_mono e hQ hE q
    · refine wpE_mono e (fun x _ q => ?_) hE q
      obtain ⟨c, ec, q⟩ := q
      refine ⟨c, ec, ?_⟩
      cases c with
      | true => exact hQ _ _ q
      | false => exact wpOrV_mono es hQ hE q
  | .non, _, _, _, _, _, _, _, _, q => q.elim
  | .bl _, _, _, _, _, _, _, _, _, q => q.elim
  | .int _, _, _, _, _, _, _, _, _, q => q.elim
  | .str _, _, _, _, _, _, _, _, _, q => q.elim
  | .var _, _, _, _, _, _, _, _, _, q => q.elim
  | .glob _, _, _, _, _, _, _, _, _, q => q.elim
  | .nil, _, _, _, _, _, _, _, _, q => q.elim
  | .tup _, _, _, _, _, _, _, _, _, q => q.elim
  | .lst _, _, _, _, _, _, _, _, _, q => q.elim
  | .dct0, _, _, _, _, _, _, _, _, q => q.elim
  | .bin _ _ _, _, _, _, _, _, _, _, _, q => q.elim
  | .neg _, _, _, _, _, _, _, _, _, q => q.elim
  | .not _, _, _, _, _, _, _, _, _, q => q.elim
  | .cmp _ _ _, _, _, _, _, _, _, _, _, q => q.elim
  | .chain _ _ _ _ _, _, _, _, _, _, _, _, _, q => q.elim
  | .and _, _, _, _, _, _, _, _, _, q => q.elim
  | .or _, _, _, _, _, _, _, _, _, q => q.elim
  | .ifx _ _ _, _, _, _, _, _, _, _, _, q => q.elim
  | .call _ _, _, _, _, _, _, _, _, _, q => q.elim
  | .blt _ _, _, _, _, _, _, _, _, _, q => q.elim
  | .isin _ _, _, _, _, _, _, _, _, _, q => q.elim
  | .idx _ _, _, _, _, _, _, _, _, _, q => q.elim
  | .slc _ _ _, _, _, _, _, _, _, _, _, q => q.elim
  | .rev _, _, _, _, _, _, _, _, _, q => q.elim
  | .mth _ _ _, _, _, _, _, _, _, _, _, q => q.elim
  | .attr _ _, _, _, _, _, _, _, _, _, q => q.elim
  | .umth _ _ _, _, _, _, _, _, _, _, _, q => q.elim
  | .new _ _, _, _, _, _, _, _, _, _, q => q.elim
  | .inD _ _ _, _, _, _, _, _, _, _, _, q => q.elim
  | .ixD _ _, _, _, _, _, _, _, _, _, q => q.elim
  | .comp _ _ _ _ _, _, _, _, _, _, _, _, _, q => q.elim
  | .tru _, _, _, _, _, _, _, _, _, q => q.elim
  | .val _, _, _, _, _, _, _, _, _, q => q.elim
  | .range1 _, _, _, _, _, _, _, _, _, q => q.elim
  | .range2 _ _, _, _, _, _, _, _, _, _, q => q.elim
  | .range3 _ _ _, _, _, _, _, _, _, _, _, q => q.elim
  | .enum _, _, _, _, _, _, _, _, _, q => q.elim
  | .zip _ _, _, _, _, _, _, _, _, _, q => q.elim
  | .ditems _, _, _, _, _, _, _, _, _, q => q.elim
theorem wpT_mono : ∀ (e : CE) {σ : AEnv} {h : AH} {Q Q' : Bool → AH → Prop} {E E' : AXQ}, (∀ b h, Q b h → Q' b h) → XLe E E' → wpT C T e σ h Q E → wpT C T e σ h Q' E'
  | .cmp op a b, _, _, _, _, _, _, hQ, hE, q => wpE_mono a (fun _ _ q => wpE_mono b (fun _ _ q => cmpR_mono (fun _ q => hQ _ _ q) q) hE q) hE q
  | .chain o1 o2 a b c, _, _, _, _, _, _, hQ, hE, q => wpE_mono a (fun _ _ q => wpE_mono b (fun _ _ q => cmpR_mono (fun r q => by
      cases r with
      | true => exact wpE_mono c (fun _ _ q => cmpR_mono (fun _ q => hQ _ _ q) q) hE q
      | false => exact hQ _ _ q) q) hE q) hE q
  | .not a, _, _, _, _, _, _, hQ, hE, q => wpT_mono a (fun _ _ q => hQ _ _ q) hE q
  | .and es, _, _, _, _, _, _, hQ, hE, q => wpAnd_mono es hQ hE q
  | .or es, _, _, _, _, _, _, hQ, hE, q => wpOr_mono es hQ hE q
  | .tru e, _, _, _, _, _, _, hQ, hE, q => wpE_mono e (fun _ _ q => truR_mono (fun _ q => hQ _ _ q) q) hE q
  | .non, _, _, _, _, _, _, _, _, q => q.elim
  | .bl _, _, _, _, _, _, _, _, _, q => q.elim
  | .int _, _, _, _, _, _, _, _, _, q => q.elim
  | .str _, _, _, _, _, _, _, _, _, q => q.elim
  | .var _, _, _, _, _, _, _, _, _, q => q.elim
  | .glob _, _, _, _, _, _, _, _, _, q => q.elim
  | .nil, _, _, _, _, _, _, _, _, q => q.elim
  | .cons _ _, _, _, _, _, _, _, _, _, q => q.elim
  | .tup _, _, _, _, _, _, _, _, _, q => q.elim
  | .lst _, _, _, _, _, _, _, _, _, q => q.elim
  | .dct0, _, _, _, _, _, _, _, _, q => q.elim
  | .bin _ _ _, _, _, _, _, _, _, _, _, q => q.elim
  | .neg _, _, _, _, _, _, _, _, _, q => q.elim
  | .ifx _ _ _, _, _, _, _, _, _, _, _, q => q.elim
  | .call _ _, _, _, _, _, _, _, _, _, q => q.elim
  | .blt _ _, _, _, _, _, _, _, _, _, q => q.elim
  | .isin _ _, _, _, _, _, _, _, _, _, q => q.elim
  | .idx _ _, _, _, _, _, _, _, _, _, q => q.elim
  | .slc _ _ _, _, _, _, _, _, _, _, _, q => q.elim
  | .rev _, _, _, _, _, _, _, _, _, q => q.elim
  | .mth _ _ _, _, _, _, _, _, _, _, _, q => q.elim
  | .attr _ _, _, _, _, _, _, _, _, _, q => q.elim
  | .umth _ _ _, _, _, _, _, _, _, _, _, q => q.elim
  | .new _ _, _, _, _, _, _, _, _, _, q => q.elim
  | .inD a g neg, _, _, _, _, _, _, hQ, hE, q => wpE_mono a (fun _ _ q => let ⟨t, e, q⟩ := q; ⟨t, e, dtR_mono (fun _ q => hQ _ _ q) q⟩) hE q
  | .ixD _ _, _, _, _, _, _, _, _, _, q => q.elim
  | .comp _ _ _ _ _, _, _, _, _, _, _, _, _, q => q.elim
  | .val _, _, _, _, _, _, _, _, _, q => q.elim
  | .range1 _, _, _, _, _, _, _, _, _, q => q.elim
  | .range2 _ _, _, _, _, _, _, _, _, _, q => q.elim
  | .range3 _ _ _, _, _, _, _, _, _, _, _, q => q.elim
  | .enum _, _, _, _, _, _, _, _, _, q => q.elim
  | .zip _ _, _, _, _, _, _, _, _, _, q => q.elim
  | .ditems _, _, _, _, _, _, _, _, _, q => q.elim
theorem wpAnd_mono : ∀ (e : CE) {σ : AEnv} {h : AH} {Q Q' : Bool → AH → Prop} {E E' : AXQ}, (∀ b h, Q b h → Q' b h) → XLe E E' → wpAnd C T e σ h Q E → wpAnd C T e σ h Q' E'
  | .nil, _, _, _, _, _, _, hQ, hE, q => hQ _ _ q
  | .cons e es, _, _, _, _, _, _, hQ, hE, q => wpT_mono e (fun r _ q => by
      cases r with
      | true => exact wpAnd_mono es hQ hE q
      | false => exact hQ _ _ q) hE q
  | .non, _, _, _, _, _, _, _, _, q => q.elim
  | .bl _, _, _, _, _, _, _, _, _, q => q.elim
  | .int _, _, _, _, _, _, _, _, _, q => q.elim
  | .str _, _, _, _, _, _, _, _, _, q => q.elim
  | .var _, _, _, _, _, _, _, _, _, q => q.elim
  | .glob _, _, _, _, _, _, _, _, _, q => q.elim
  | .tup _, _, _, _, _, _, _, _, _, q => q.elim
  | .lst _, _, _, _, _, _, _, _, _, q => q.elim
  | .dct0, _, _, _, _, _, _, _, _, q => q.elim
  | .bin _ _ _, _, _, _, _, _, _, _, _, q => q.elim
  | .neg _, _, _, _, _, _, _, _, _, q => q.elim
  | .not _, _, _, _, _, _, _, _, _, q => q.elim
  | .cmp _ _ _, _, _, _, _, _, _, _, _, q => q.elim
  | .chain _ _ _ _ _, _, _, _, _, _, _, _, _, q => q.elim
  | .and _, _, _, _, _, _, _, _, _, q => q.elim
  | .or _, _, _, _, _, _, _, _, _, q => q.elim
  | .ifx _ _ _, _, _, _, _, _, _, _, _, q => q.elim
  | .call _ _, _, _, _, _, _, _, _, _, q => q.elim
  | .blt _ _, _, _, _, _, _, _, _, _, q => q.elim
  | .isin _ _, _, _, _, _, _, _, _, _, q => q.elim
  | .idx _ _, _, _, _, _, _, _, _, _, q => q.elim
  | .slc _ _ _, _, _, _, _, _, _, _, _, q => q.elim
  | .rev _, _, _, _, _, _, _, _, _, q => q.elim
  | .mth _ _ _, _, _, _, _, _, _, _, _, q => q.elim
  | .attr _ _, _, _, _, _, _, _, _, _, q => q.elim
  | .umth _ _ _, _, _, _, _, _, _, _, _, q => q.elim
  | .new _ _, _, _, _, _, _, _, _, _, q => q.elim
  | .inD _ _ _, _, _, _, _, _, _, _, _, q => q.elim
  | .ixD _ _, _, _, _, _, _, _, _, _, q => q.elim
  | .comp _ _ _ _ _, _, _, _, _, _, _, _, _, q => q.elim
  | .tru _, _, _, _, _, _, _, _, _, q => q.elim
  | .val _, _, _, _, _, _, _, _, _, q => q.elim
  | .range1 _, _, _, _, _, _, _, _, _, q => q.elim
  | .range2 _ _, _, _, _, _, _, _, _, _, q => q.elim
  | .range3 _ _ _, _, _, _, _, _, _, _, _, q => q.elim
  | .enum _, _, _, _, _, _, _, _, _, q => q.elim
  | .zip _ _, _, _, _, _, _, _, _, _, q => q.elim
  | .ditems _, _, _, _, _, _, _, _, _, q => q.elim
theorem wpOr_mono : ∀ (e : CE) {σ : AEnv} {h : AH} {Q Q' : Bool → AH → Prop} {E E' : AXQ}, (∀ b h, Q b h → Q' b h) → XLe E E' → wpOr C T e σ h Q E → wpOr C T e σ h Q' E'
  | .nil, _, _, _, _, _, _, hQ, hE, q => hQ _ _ q
  | .cons e es, _, _, _, _, _, _, hQ, hE, q => wpT_mono e (fun r _ q => by
      cases r with
      | false => exact wpOr_mono es hQ hE q
      | true => exact hQ _ _ q) hE q
  | .non, _, _, _, _, _, _, _, _, q => q.elim
  | .bl _, _, _, _, _, _, _, _, _, q => q.elim
  | .int _, _, _, _, _, _, _, _, _, q => q.elim
  | .str _, _, _, _, _, _, _, _, _, q => q.elim
  | .var _, _, _, _, _, _, _, _, _, q => q.elim
  | .glob _, _, _, _, _, _, _, _, _, q => q.elim
  | .tup _, _, _, _, _, _, _, _, _, q => q.elim
  | .lst _, _, _, _, _, _, _, _, _, q => q.elim
  | .dct0, _, _, _, _, _, _, _, _, q => q.elim
  | .bin _ _ _, _, _, _, _, _, _, _, _, q => q.elim
  | .neg _, _, _, _, _, _, _, _, _, q => q.elim
  | .not _, _, _, _, _, _, _, _, _, q => q.elim
  | .cmp _ _ _, _, _, _, _, _, _, _, _, q => q.elim
  | .chain _ _ _ _ _, _, _, _, _, _, _, _, _, q => q.elim
  | .and _, _, _, _, _, _, _, _, _, q => q.elim
  | .or _, _, _, _, _, _, _, _, _, q => q.elim
  | .ifx _ _ _, _, _, _, _, _, _, _, _, q => q.elim
  | .call _ _, _, _, _, _, _, _, _, _, q => q.elim
  | .blt _ _, _, _, _, _, _, _, _, _, q => q.elim
  | .isin _ _, _, _, _, _, _, _, _, _, q => q.elim
  | .idx _ _, _, _, _, _, _, _, _, _, q => q.elim
  | .slc _ _ _, _, _, _, _, _, _, _, _, q => q.elim
  | .rev _, _, _, _, _, _, _, _, _, q => q.elim
  | .mth _ _ _, _, _, _, _, _, _, _, _, q => q.elim
  | .attr _ _, _, _, _, _, _, _, _, _, q => q.elim
  | .umth _ _ _, _, _, _, _, _, _, _, _, q => q.elim
  | .new _ _, _, _, _, _, _, _, _, _, q => q.elim
  | .inD _ _ _, _, _, _, _, _, _, _, _, q => q.elim
  | .ixD _ _, _, _, _, _, _, _, _, _, q => q.elim
  | .comp _ _ _ _ _, _, _, _, _, _, _, _, _, q => q.elim
  | .tru _, _, _, _, _, _, _, _, _, q => q.elim
  | .val _, _, _, _, _, _, _, _, _, q => q.elim
  | .range1 _, _, _, _, _, _, _, _, _, q => q.elim
  | .range2 _ _, _, _, _, _, _, _, _, _, q => q.elim
  | .range3 _ _ _, _, _, _, _, _, _, _, _, q => q.elim
  | .enum _, _, _, _, _, _, _, _, _, q => q.elim
  | .zip _ _, _, _, _, _, _, _, _, _, q => q.elim
  | .ditems _, _, _, _, _, _, _, _, _, q => q.elim
theorem wpTs_mono : ∀ (e : CE) {σ : AEnv} {h : AH} {Q Q' : Bool → AH → Prop} {E E' : AXQ}, (∀ b h, Q b h → Q' b h) → XLe E E' → wpTs C T e σ h Q E → wpTs C T e σ h Q' E'
  | .nil, _, _, _, _, _, _, hQ, hE, q => hQ _ _ q
  | .cons e es, _, _, _, _, _, _, hQ, hE, q => by
    unfold wpTs at q ⊢
    split at q
    · exact wpT_mono e hQ hE q
    · exact q.elim
  | .non, _, _, _, _, _, _, _, _, q => q.elim
  | .bl _, _, _, _, _, _, _, _, _, q => q.elim
  | .int _, _, _, _, _, _, _, _, _, q => q.elim
  | .str _, _, _, _, _, _, _, _, _, q => q.elim
  | .var _, _, _, _, _, _, _, _, _, q => q.elim
  | .glob _, _, _, _, _, _, _, _, _, q => q.elim
  | .tup _, _, _, _, _, _, _, _, _, q => q.elim
  | .lst _, _, _, _, _, _, _, _, _, q => q.elim
  | .dct0, _, _, _, _, _, _, _, _, q => q.elim
  | .bin _ _ _, _, _, _, _, _, _, _, _, q => q.elim
  | .neg _, _, _, _, _, _, _, _, _, q => q.elim
  | .not _, _, _, _, _, _, _, _, _, q => q.elim
  | .cmp _ _ _, _, _, _, _, _, _, _, _, q => q.elim
  | .chain _ _ _ _ _, _, _, _, _, _, _, _, _, q => q.elim
  | .and _, _, _, _, _, _, _, _, _, q => q.elim
  | .or _, _, _, _, _, _, _, _, _, q => q.elim
  | .ifx _ _ _, _, _, _, _, _, _, _, _, q => q.elim
  | .call _ _, _, _, _, _, _, _, _, _, q => q.elim
  | .blt _ _, _, _, _, _, _, _, _, _, q => q.elim
  | .isin _ _, _, _, _, _, _, _, _, _, q => q.elim
  | .idx _ _, _, _, _, _, _, _, _, _, q => q.elim
  | .slc _ _ _, _, _, _, _, _, _, _, _, q => q.elim
  | .rev _, _, _, _, _, _, _, _, _, q => q.elim
  | .mth _ _ _, _, _, _, _, _, _, _, _, q => q.elim
  | .attr _ _, _, _, _, _, _, _, _, _, q => q.elim
  | .umth _ _ _, _, _, _, _, _, _, _, _, q => q.elim
  | .new _ _, _, _, _, _, _, _, _, _, q => q.elim
  | .inD _ _ _, _, _, _, _, _, _, _, _, q => q.elim
  | .ixD _ _, _, _, _, _, _, _, _, _, q => q.elim
  | .comp _ _ _ _ _, _, _, _, _, _, _, _, _, q => q.elim
  | .tru _, _, _, _, _, _, _, _, _, q => q.elim
  | .val _, _, _, _, _, _, _, _, _, q => q.elim
  | .range1 _, _, _, _, _, _, _, _, _, q => q.elim
  | .range2 _ _, _, _, _, _, _, _, _, _, q => q.elim
  | .range3 _ _ _, _, _, _, _, _, _, _, _, q => q.elim
  | .enum _, _, _, _, _, _, _, _, _, q => q.elim
  | .zip _ _, _, _, _, _, _, _, _, _, q => q.elim
  | .ditems _, _, _, _, _, _, _, _, _, q => q.elim
theorem wpI_mono : ∀ (e : CE) {σ : AEnv} {h : AH} {Q Q' : List AV → (AH → Prop) → AH → Prop} {E E' : AXQ}, (∀ xs c h, Q xs c h → Q' xs c h) → XLe E E' → wpI C T e σ h Q E → wpI C T e σ h Q' E'
  | .range1 a, _, _, _, _, _, _, hQ, hE, q => wpE_mono a (fun _ _ ⟨n, e, a, b, q⟩ => ⟨n, e, a, b, hQ _ _ _ q⟩) hE q
  | .range2 a b, _, _, _, _, _, _, hQ, hE, q => wpE_mono a (fun _ _ q => wpE_mono b (fun _ _ ⟨m, n, e, e2, a, q⟩ => ⟨m, n, e, e2, a, hQ _ _ _ q⟩) hE q) hE q
  | .zip a b, _, _, _, _, _, _, hQ, hE, q => wpE_mono a (fun _ _ q => wpE_mono b (fun _ _ q => itR_mono (fun _ _ q => itR_mono (fun _ _ q => hQ _ _ _ q) q) q) hE q) hE q
  | .enum a, _, _, _, _, _, _, hQ, hE, q => wpE_mono a (fun _ _ q => itR_mono (fun _ _ q => hQ _ _ _ q) q) hE q
  | .val a, _, _, _, _, _, _, hQ, hE, q => wpE_mono a (fun _ _ q => itR_mono (fun _ _ q => hQ _ _ _ q) q) hE q
  | .non, _, _, _, _, _, _, _, _, q => q.elim
  | .bl _, _, _, _, _, _, _, _, _, q => q.elim
  | .int _, _, _, _, _, _, _, _, _, q => q.elim
  | .str _, _, _, _, _, _, _, _, _, q => q.elim
  | .var _, _, _, _, _, _, _, _, _, q => q.elim
  | .glob _, _, _, _, _, _, _, _, _, q => q.elim
  | .nil, _, _, _, _, _, _, _, _, q => q.elim
  | .cons _ _, _, _, _, _, _, _, _, _, q => q.elim
  | .tup _, _, _, _, _, _, _, _, _, q => q.elim
  | .lst _, _, _, _, _, _, _, _, _, q => q.elim
  | .dct0, _, _, _, _, _, _, _, _, q => q.elim
  | .bin _ _ _, _, _, _, _, _, _, _, _, q => q.elim
  | .neg _, _, _, _, _, _, _, _, _, q => q.elim
  | .not _, _, _, _, _, _, _, _, _, q => q.elim
  | .cmp _ _ _, _, _, _, _, _, _, _, _, q => q.elim
  | .chain _ _ _ _ _, _, _, _, _, _, _, _, _, q => q.elim
  | .and _, _, _, _, _, _, _, _, _, q => q.elim
  | .or _, _, _, _, _, _, _, _, _, q => q.elim
  | .ifx _ _ _, _, _, _, _, _, _, _, _, q => q.elim
  | .call _ _, _, _, _, _, _, _, _, _, q => q.elim
  | .blt _ _, _, _, _, _, _, _, _, _, q => q.elim
  | .isin _ _, _, _, _, _, _, _, _, _, q => q.elim
  | .idx _ _, _, _, _, _, _, _, _, _, q => q.elim
  | .slc _ _ _, _, _, _, _, _, _, _, _, q => q.elim
  | .rev _, _, _, _, _, _, _, _, _, q => q.elim
  | .mth _ _ _, _, _, _, _, _, _, _, _, q => q.elim
  | .attr _ _, _, _, _, _, _, _, _, _, q => q.elim
  | .umth _ _ _, _, _, _, _, _, _, _, _, q => q.elim
  | .new _ _, _, _, _, _, _, _, _, _, q => q.elim
  | .inD _ _ _, _, _, _, _, _, _, _, _, q => q.elim
  | .ixD _ _, _, _, _, _, _, _, _, _, q => q.elim
  | .comp _ _ _ _ _, _, _, _, _, _, _, _, _, q => q.elim
  | .tru _, _, _, _, _, _, _, _, _, q => q.elim
  | .range3 _ _ _, _, _, _, _, _, _, _, _, q => q.elim
  | .ditems _, _, _, _, _, _, _, _, _, q => q.elim
theorem wpG_mono : ∀ (e : CE) {v : AV} {σ : AEnv} {h : AH} {Q Q' : AEnv → AH → Prop}, (∀ σ h, Q σ h → Q' σ h) → wpG C T e v σ h Q → wpG C T e v σ h Q'
  | .var i, _, _, _, _, _, hQ, q => hQ _ _ q
  | .tup gs, _, _, _, _, _, hQ, q => by
    rcases q with ⟨vs, e, hl, q⟩ | ⟨a, vs, e, e2, hl, q⟩
    · exact .inl ⟨vs, e, hl, wpGs_mono gs hQ q⟩
    · exact .inr ⟨a, vs, e, e2, hl, wpGs_mono gs hQ q⟩
  | .idx o i, _, _, _, _, _, hQ, q => wpE_mono o (fun _ _ q => wpE_mono i (fun _ _ ⟨a, e, q⟩ => ⟨a, e, by
      rcases q with ⟨xs, i, e1, e2, e3, e4, q⟩ | ⟨kvs, k, e1, e2, e3, q⟩
      · exact .inl ⟨xs, i, e1, e2, e3, e4, hQ _ _ q⟩
      · exact .inr ⟨kvs, k, e1, e2, e3, hQ _ _ q⟩⟩) (fun _ _ z => z) q) (fun _ _ z => z) q
  | .non, _, _, _, _, _, _, q => q.elim
  | .bl _, _, _, _, _, _, _, q => q.elim
  | .int _, _, _, _, _, _, _, q => q.elim
  | .str _, _, _, _, _, _, _, q => q.elim
  | .glob _, _, _, _, _, _, _, q => q.elim
  | .nil, _, _, _, _, _, _, q => q.elim
  | .cons _ _, _, _, _, _, _, _, q => q.elim
  | .lst _, _, _, _, _, _, _, q => q.elim
  | .dct0, _, _, _, _, _, _, q => q.elim
  | .bin _ _ _, _, _, _, _, _, _, q => q.elim
  | .neg _, _, _, _, _, _, _, q => q.elim
  | .not _, _, _, _, _, _, _, q => q.elim
  | .cmp _ _ _, _, _, _, _, _, _, q => q.elim
  | .chain _ _ _ _ _, _, _, _, _, _, _, q => q.elim
  | .and _, _, _, _, _, _, _, q => q.elim
  | .or _, _, _, _, _, _, _, q => q.elim
  | .ifx _ _ _, _, _, _, _, _, _, q => q.elim
  | .call _ _, _, _, _, _, _, _, q => q.elim
  | .blt _ _, _, _, _, _, _, _, q => q.elim
  | .isin _ _, _, _, _, _, _, _, q => q.elim
  | .slc _ _ _, _, _, _, _, _, _, q => q.elim
  | .rev _, _, _, _, _, _, _, q => q.elim
  | .mth _ _ _, _, _, _, _, _, _, q => q.elim
  | .attr _ _, _, _, _, _, _, _, q => q.elim
  | .umth _ _ _, _, _, _, _, _, _, q => q.elim
  | .new _ _, _, _, _, _, _, _, q => q.elim
  | .inD _ _ _, _, _, _, _, _, _, q => q.elim
  | .ixD _ _, _, _, _, _, _, _, q => q.elim
  | .comp _ _ _ _ _, _, _, _, _, _, _, q => q.elim
  | .tru _, _, _, _, _, _, _, q => q.elim
  | .val _, _, _, _, _, _, _, q => q.elim
  | .range1 _, _, _, _, _, _, _, q => q.elim
  | .range2 _ _, _, _, _, _, _, _, q => q.elim
  | .range3 _ _ _, _, _, _, _, _, _, q => q.elim
  | .enum _, _, _, _, _, _, _, q => q.elim
  | .zip _ _, _, _, _, _, _, _, q => q.elim
  | .ditems _, _, _, _, _, _, _, q => q.elim
theorem wpGs_mono : ∀ (e : CE) {vs : List AV} {σ : AEnv} {h : AH} {Q Q' : AEnv → AH → Prop}, (∀ σ h, Q σ h → Q' σ h) → wpGs C T e vs σ h Q → wpGs C T e vs σ h Q'
  | .nil, _, _, _, _, _, hQ, q => ⟨q.1, hQ _ _ q.2⟩
  | .cons g gs, _, _, _, _, _, hQ, q => let ⟨v, r, e, q⟩ := q; ⟨v, r, e, wpG_mono g (fun _ _ q => wpGs_mono gs hQ q) q⟩
  | .non, _, _, _, _, _, _, q => q.elim
  | .bl _, _, _, _, _, _, _, q => q.elim
  | .int _, _, _, _, _, _, _, q => q.elim
  | .str _, _, _, _, _, _, _, q => q.elim
  | .var _, _, _, _, _, _, _, q => q.elim
  | .glob _, _, _, _, _, _, _, q => q.elim
  | .tup _, _, _, _, _, _, _, q => q.elim
  | .lst _, _, _, _, _, _, _, q => q.elim
  | .dct0, _, _, _, _, _, _, q => q.elim
  | .bin _ _ _, _, _, _, _, _, _, q => q.elim
  | .neg _, _, _, _, _, _, _, q => q.elim
  | .not _, _, _, _, _, _, _, q => q.elim
  | .cmp _ _ _, _, _, _, _, _, _, q => q.elim
  | .chain _ _ _ _ _, _, _, _, _, _, _, q => q.elim
  | .and _, _, _, _, _, _, _, q => q.elim
  | .or _, _, _, _, _, _, _, q => q.elim
  | .ifx _ _ _, _, _, _, _, _, _, q => q.elim
  | .call _ _, _, _, _, _, _, _, q => q.elim
  | .blt _ _, _, _, _, _, _, _, q => q.elim
  | .isin _ _, _, _, _, _, _, _, q => q.elim
  | .idx _ _, _, _, _, _, _, _, q => q.elim
  | .slc _ _ _, _, _, _, _, _, _, q => q.elim
  | .rev _, _, _, _, _, _, _, q => q.elim
  | .mth _ _ _, _, _, _, _, _, _, q => q.elim
  | .attr _ _, _, _, _, _, _, _, q => q.elim
  | .umth _ _ _, _, _, _, _, _, _, q => q.elim
  | .new _ _, _, _, _, _, _, _, q => q.elim
  | .inD _ _ _, _, _, _, _, _, _, q => q.elim
  | .ixD _ _, _, _, _, _, _, _, q => q.elim
  | .comp _ _ _ _ _, _, _, _, _, _, _, q => q.elim
  | .tru _, _, _, _, _, _, _, q => q.elim
  | .val _, _, _, _, _, _, _, q => q.elim
  | .range1 _, _, _, _, _, _, _, q => q.elim
  | .range2 _ _, _, _, _, _, _, _, q => q.elim
  | .range3 _ _ _, _, _, _, _, _, _, q => q.elim
  | .enum _, _, _, _, _, _, _, q => q.elim
  | .zip _ _, _, _, _, _, _, _, q => q.elim
  | .ditems _, _, _, _, _, _, _, q => q.elim
end
end
structure DLe (D D' : AEnds) : Prop where
  nx : ∀ σ h, D.nx σ h → D'.nx σ h
  rt : ∀ σ h, D.rt σ h → D'.rt σ h
  bk : ∀ σ h, D.bk σ h → D'.bk σ h
  ct : ∀ σ h, D.ct σ h → D'.ct σ h
  ex : ∀ x σ h, D.ex x σ h → D'.ex x σ h
theorem DLe.loop {D D' : AEnds} (d : DLe D D') {k k' : AEnv → AH → Prop} (hk : ∀ σ h, k σ h → k' σ h) : DLe { D with nx := k, ct := k, bk := D.nx } { D' with nx := k', ct := k', bk := D'.nx } := ⟨hk, d.rt, d.nx, hk, d.ex⟩
theorem DLe.seq {D D' : AEnds} (d : DLe D D') {k k' : AEnv → AH → Prop} (hk : ∀ σ h, k σ h → k' σ h) : DLe { D with nx := k } { D' with nx := k' } := ⟨hk, d.rt, d.bk, d.ct, d.ex⟩
theorem DLe.exc {D D' : AEnds} (d : DLe D D') {k k' : AX → AEnv → AH → Prop} (hk : ∀ x σ h, k x σ h → k' x σ h) : DLe { D with ex := k } { D' with ex := k' } := ⟨d.nx, d.rt, d.bk, d.ct, hk⟩
theorem forL_mono {step step' : AV → (AEnv → AH → Prop) → AEnv → AH → Prop} {chk : AH → Prop} {fin fin' : AEnv → AH → Prop} (hs : ∀ x (k k' : AEnv → AH → Prop) σ h, (∀ σ h, k σ h → k' σ h) → step x k σ h → step' x k' σ h) (hf : ∀ σ h, fin σ h → fin' σ h) :
    ∀ {xs : List AV} {σ : AEnv} {h : AH}, forL step chk fin xs σ h → forL step' chk fin' xs σ h
  | [], _, _, q => ⟨q.1, hf _ _ q.2⟩
  | x :: xs, _, _, q => ⟨q.1, hs _ _ _ _ _ (fun _ _ q => Shs.mono (fun _ _ q => forL_mono hs hf q) q) q.2⟩
theorem whlL_mono {tst tst' : AEnv → AH → (Bool → AH → Prop) → Prop} {body body' : (AEnv → AH → Prop) → AEnv → AH → Prop} {fin fin' : AEnv → AH → Prop} (ht : ∀ σ h (k k' : Bool → AH → Prop), (∀ b h, k b h → k' b h) → tst σ h k → tst' σ h k')
    (hs : ∀ (k k' : AEnv → AH → Prop) σ h, (∀ σ h, k σ h → k' σ h) → body k σ h → body' k' σ h) (hf : ∀ σ h, fin σ h → fin' σ h) : ∀ {n : Nat} {σ : AEnv} {h : AH}, whlL tst body fin n σ h → whlL tst' body' fin' n σ h
  | 0, _, _, q => q.elim
  | n + 1, _, _, q => ht _ _ _ _ (fun b _ q => by
      cases b with
      | true => exact hs _ _ _ _ (fun _ _ q => Shs.mono (fun _ _ q => whlL_mono ht hs hf q) q) q
      | false => exact hf _ _ q) q
section
variable {C : ACall} (hC : CMono C) {T : Tb} {sub : Nat → Nat → Bool}
include hC
mutual
theorem wpS_mono : ∀ (s : CS) {D D' : AEnds} {σ : AEnv} {h : AH}, DLe D D' → wpS C T sub s D σ h → wpS C T sub s D' σ h
  | .asg g e, _, _, _, _, d, q => wpE_mono hC e (fun _ _ q => wpG_mono hC g d.nx q) (fun _ _ q => d.ex _ _ _ q) q
  | .slc i e, _, _, _, _, d, q => wpE_mono hC e (fun _ _ q => d.nx _ _ q) (fun _ _ q => d.ex _ _ _ q) q
  | .par i j a b, _, _, _, _, d, q => wpE_mono hC a (fun _ _ q => wpE_mono hC b (fun _ _ q => d.nx _ _ q) (fun _ _ q => d.ex _ _ _ q) q) (fun _ _ q => d.ex _ _ _ q) q
  | .par3 i j k a b c, _, _, _, _, d, q => wpE_mono hC a (fun _ _ q => wpE_mono hC b (fun _ _ q => wpE_mono hC c (fun _ _ q => d.nx _ _ q) (fun _ _ q => d.ex _ _ _ q) q) (fun _ _ q => d.ex _ _ _ q) q) (fun _ _ q => d.ex _ _ _ q) q
  | .aug i op e, _, _, _, _, d, q => let ⟨x, ex, q⟩ := q; ⟨x, ex, wpE_mono hC e (fun _ _ ⟨m, n, e1, e2, q⟩ => ⟨m, n, e1, e2, q.imp (fun z => ⟨z.1, d.nx _ _ z.2⟩) (fun z => ⟨z.1, d.nx _ _ z.2⟩)⟩) (fun _ _ q => d.ex _ _ _ q) q⟩
  | .expr e, _, _, _, _, d, q => wpE_mono hC e (fun _ _ q => d.nx _ _ q) (fun _ _ q => d.ex _ _ _ q) q
  | .ret e, _, _, _, _, d, q => wpE_mono hC e d.rt (fun _ _ q => d.ex _ _ _ q) q
  | .retN, _, _, _, _, d, q => d.rt _ _ q
  | .iff c t f, _, _, _, _, d, q => wpT_mono hC c (fun b _ q => by
      cases b with
      | true => exact wpB_mono t d q
      | false => exact wpB_mono f d q) (fun _ _ q => d.ex _ _ _ q) q
  | .whl c b, D, D', _, _, d, q => let ⟨n, q⟩ := q; ⟨n, whlL_mono (tst := fun σ h k => wpT C T c σ h k (fun x h' => D.ex x σ h')) (tst' := fun σ h k => wpT C T c σ h k (fun x h' => D'.ex x σ h'))
      (body := fun nx σ h => wpB C T sub b { D with nx := nx, ct := nx, bk := D.nx } σ h) (body' := fun nx σ h => wpB C T sub b { D' with nx := nx, ct := nx, bk := D'.nx } σ h) (fun _ _ _ _ hk q => wpT_mono hC c hk (fun _ _ q => d.ex _ _ _ q) q) (fun _ _ _ _ hk q => wpB_mono b (d.loop hk) q) d.nx q⟩
  | .forr g it b, D, D', _, _, d, q => wpI_mono hC it (fun _ _ _ q => forL_mono (step := fun x nx σ h => wpG C T g x σ h (fun σ2 h2 => wpB C T sub b { D with nx := nx, ct := nx, bk := D.nx } σ2 h2)) (step' := fun x nx σ h => wpG C T g x σ h (fun σ2 h2 => wpB C T sub b { D' with nx := nx, ct := nx, bk := D'.nx } σ2 h2)) (fun _ _ _ _ _ hk q => wpG_mono hC g (fun _ _ q => wpB_mono b (d.loop hk) q) q) d.nx q) (fun _ _ q => d.ex _ _ _ q) q
  | .raise c es, _, _, _, _, d, q => wpEs_mono hC es (fun _ _ q => d.ex _ _ _ q) (fun _ _ q => d.ex _ _ _ q) q
  | .tri b hs, _, _, _, _, d, q => wpB_mono b (d.exc fun _ _ _ q => wpH_mono hs d q) q
  | .hnil, _, _, _, _, _, q => q.elim
  | .hcons _ _ _, _, _, _, _, _, q => q.elim
  | .pass, _, _, _, _, d, q => d.nx _ _ q
  | .brk, _, _, _, _, d, q => d.bk _ _ q
  | .cont, _, _, _, _, d, q => d.ct _ _ q
  | .sat o f e, _, _, _, _, d, q => wpE_mono hC e (fun _ _ q => wpE_mono hC o (fun _ _ q => setF_mono (fun _ q => d.nx _ _ q) q) (fun _ _ q => d.ex _ _ _ q) q) (fun _ _ q => d.ex _ _ _ q) q
  | .nil, _, _, _, _, _, q => q.elim
  | .cons _ _, _, _, _, _, _, q => q.elim
theorem wpB_mono : ∀ (s : CS) {D D' : AEnds} {σ : AEnv} {h : AH}, DLe D D' → wpB C T sub s D σ h → wpB C T sub s D' σ h
  | .nil, _, _, _, _, d, q => d.nx _ _ q
  | .cons s r, _, _, _, _, d, q => wpS_mono s (d.seq fun _ _ q => wpB_mono r d q) q
  | .asg _ _, _, _, _, _, _, q => q.elim
  | .slc _ _, _, _, _, _, _, q => q.elim
  | .par _ _ _ _, _, _, _, _, _, q => q.elim
  | .par3 _ _ _ _ _ _, _, _, _, _, _, q => q.elim
  | .aug _ _ _, _, _, _, _, _, q => q.elim
  | .expr _, _, _, _, _, _, q => q.elim
  | .ret _, _, _, _, _, _, q => q.elim
  | .retN, _, _, _, _, _, q => q.elim
  | .iff _ _ _, _, _, _, _, _, q => q.elim
  | .whl _ _, _, _, _, _, _, q => q.elim
  | .forr _ _ _, _, _, _, _, _, q => q.elim
  | .raise _ _, _, _, _, _, _, q => q.elim
  | .tri _ _, _, _, _, _, _, q => q.elim
  | .hnil, _, _, _, _, _, q => q.elim
  | .hcons _ _ _, _, _, _, _, _, q => q.elim
  | .pass, _, _, _, _, _, q => q.elim
  | .brk, _, _, _, _, _, q => q.elim
  | .cont, _, _, _, _, _, q => q.elim
  | .sat _ _ _, _, _, _, _, _, q => q.elim
theorem wpH_mono : ∀ (s : CS) {x : AX} {D D' : AEnds} {σ : AEnv} {h : AH}, DLe D D' → wpH C T sub s x D σ h → wpH C T sub s x D' σ h
  | .hnil, _, _, _, _, _, d, q => d.ex _ _ _ q
  | .hcons c b r, x, _, _, _, _, d, q => by
    unfold wpH at q ⊢
    split
    · rename_i e
      rw [if_pos e] at q
      exact wpB_mono b (d.exc fun _ _ _ z => z) q
    · rename_i e
      rw [if_neg e] at q
      exact wpH_mono r d q
  | .asg _ _, _, _, _, _, _, _, q => q.elim
  | .slc _ _, _, _, _, _, _, _, q => q.elim
  | .par _ _ _ _, _, _, _, _, _, _, q => q.elim
  | .par3 _ _ _ _ _ _, _, _, _, _, _, _, q => q.elim
  | .aug _ _ _, _, _, _, _, _, _, q => q.elim
  | .expr _, _, _, _, _, _, _, q => q.elim
  | .ret _, _, _, _, _, _, _, q => q.elim
  | .retN, _, _, _, _, _, _, q => q.elim
  | .iff _ _ _, _, _, _, _, _, _, q => q.elim
  | .whl _ _, _, _, _, _, _, _, q => q.elim
  | .forr _ _ _, _, _, _, _, _, _, q => q.elim
  | .raise _ _, _, _, _, _, _, _, q => q.elim
  | .tri _ _, _, _, _, _, _, _, q => q.elim
  | .nil, _, _, _, _, _, _, q => q.elim
  | .cons _ _, _, _, _, _, _, _, q => q.elim
  | .pass, _, _, _, _, _, _, q => q.elim
  | .brk, _, _, _, _, _, _, q => q.elim
  | .cont, _, _, _, _, _, _, q => q.elim
  | .sat _ _ _, _, _, _, _, _, _, q => q.elim
end
end
theorem wpC_mono (G : Pg) : ∀ n : Nat, CMono (wpC G n)
  | 0, _, _, _, _, _, _, _, _, _, q => q.elim
  | n + 1, f, vs, h, Q, Q', E, E', hQ, hE, q => by
    obtain ⟨cf, e, l, q⟩ := q
    refine ⟨cf, e, l, wpB_mono (wpC_mono G n) cf.body ?_ q⟩
    exact DLe.mk (fun _ _ q => Shr.mono (fun _ q => hQ _ _ q) q) (fun _ _ q => Shr.mono (fun _ q => hQ _ _ q) q) (fun _ _ z => z) (fun _ _ z => z) (fun _ _ _ q => Shr.mono (fun _ q => hE _ _ q) q)
end PL

namespace PL
open PySem PySem.Spec PyProof.Rows L2

abbrev wd (X : Cx) (T : Tb) : Wd := ⟨X.prog, X.w, X.K, X.mg, X.base, T⟩
def cQ (W : Wd) (H : Hp) (Q : VK) : AQ := fun av h' => ∀ v H', TLe W.K H H' → RH W h' H' → Rep W.K H' av v → Q v H'
def cR2 (W : Wd) (r : AV → AV → AH → AQ → Prop) : R2 := fun x y H Q => ∃ ax ay h, RH W h H ∧ Rep W.K H ax x ∧ Rep W.K H ay y ∧ r ax ay h (cQ W H Q)
def cCmp (W : Wd) (r : AV → AV → AH → (Bool → Prop) → Prop) : R2 := fun x y H Q => ∃ ax ay h, RH W h H ∧ Rep W.K H ax x ∧ Rep W.K H ay y ∧ r ax ay h fun b => Q (.bl b) H

theorem cQ.here {W : Wd} {H : Hp} {Q : VK} {av : AV} {h : AH} {v : V} (q : cQ W H Q av h) (r : RH W h H) (e : Rep W.K H av v) : Q v H := q v H TLe.refl r e
theorem cQ.int {W : Wd} {H : Hp} {Q : VK} {i : Int} {h : AH} (q : cQ W H Q (.int i) h) (r : RH W h H) : Q (.int i) H := q.here r (rep_int.mpr rfl)
theorem cQ.bl {W : Wd} {H : Hp} {Q : VK} {i : Bool} {h : AH} (q : cQ W H Q (.bl i) h) (r : RH W h H) : Q (.bl i) H := q.here r (rep_bl.mpr rfl)
theorem cQ.str {W : Wd} {H : Hp} {Q : VK} {i : Str} {h : AH} (q : cQ W H Q (.str i) h) (r : RH W h H) : Q (.str i) H := q.here r (rep_str.mpr rfl)
theorem cQ.tupN {W : Wd} {H : Hp} {Q : VK} {xs : List AV} {vs : List V} {h : AH} {p : Addr} {o : Obj} (q : cQ W H Q (.tup xs) h) (r : RH W h H) (hp : H p = none) (ho : o.dict = none) (rs : Reps W.K H xs vs) : Q (.ref p) (upd H p (.frz o (.tup vs))) :=
  q _ _ (TLe.fresh hp) (r.fresh hp) (rep_tup.mpr ⟨p, vs, rfl, .inl ⟨o, ho, upd_same⟩, rs.mono (TLe.fresh hp)⟩)
theorem cQ.wtN {W : Wd} {H : Hp} {Q : VK} {xs : List AV} {vs : List V} {h : AH} {p : Addr} (q : cQ W H Q (.wt xs) h) (r : RH W h H) (hp : H p = none) (rs : Reps W.K H xs vs) : Q (.ref p) (upd H p (.tup vs)) :=
  q _ _ (TLe.fresh hp) (r.fresh hp) (rep_wt.mpr ⟨p, vs, rfl, .inl (.inl upd_same), rs.mono (TLe.fresh hp)⟩)
theorem cQ.lstN {W : Wd} {H : Hp} {Q : VK} {xs : List AV} {vs : List V} {h : AH} {p : Addr} (q : newL h xs (cQ W H Q)) (r : RH W h H) (hp : H p = none) (rs : Reps W.K H xs vs) : Q (.ref p) (upd H p (.lst vs)) :=
  q p (r.isNone hp) _ _ (TLe.fresh hp) (r.new hp (show RO W _ p (.lst xs) from ⟨vs, upd_same, rs.mono (TLe.fresh hp)⟩)) (rep_ref.mpr rfl)

theorem RH.lst {W : Wd} {h : AH} {H : Hp} (r : RH W h H) {a : Addr} {xs : List AV} (e : h a = some (.lst xs)) : ∃ vs, H a = some (.lst vs) ∧ Reps W.K H xs vs := r a _ e
theorem RH.dK {W : Wd} {h : AH} {H : Hp} (r : RH W h H) {a : Addr} {kvs : List (Key × AV)} (e : h a = some (.dK kvs)) : ∃ vs, H a = some (.dK ((kvs.map (·.1)).zip vs)) ∧ Reps W.K H (kvs.map (·.2)) vs := r a _ e

theorem flatten_rep {K : PySem.W.Frag} {H : Hp} {xs : List AV} {vs : List V} (h : Reps K H xs vs) : ∀ n : Nat, Reps K H (List.replicate n xs).flatten (List.replicate n vs).flatten
  | 0 => reps_nil.mpr rfl
  | n + 1 => by
    rw [List.replicate_succ, List.replicate_succ, List.flatten_cons, List.flatten_cons]
    exact h.append (flatten_rep h n)

section
variable {X : Cx} {T : Tb}
theorem o_add : OpR X (binaryOp .Add) (cR2 (wd X T) addR) := by
  intro pins s σ H x y v u Q I rx ry q
  obtain ⟨ax, ay, h, rh, r1, r2, q⟩ := q
  cases ax with
  | int i =>
    cases ay with
    | int j => exact op_add pins s σ H x y v u Q I rx ry ⟨i, j, rep_int.mp r1, rep_int.mp r2, cQ.int q rh⟩
    | _ => exact False.elim q
  | str i =>
    cases ay with
    | str j => exact op_add_str pins s σ H x y v u Q I rx ry ⟨i, j, rep_str.mp r1, rep_str.mp r2, q.1, cQ.str q.2 rh⟩
    | _ => exact False.elim q
  | tup xs =>
    cases ay with
    | tup ys =>
      obtain ⟨a, vs, e1, q1, k1⟩ := rep_tupT r1
      obtain ⟨b, ws, e2, q2, k2⟩ := rep_tupT r2
      obtain ⟨hl, q⟩ := (show xs.length + ys.length ≤ sizeLine ∧ cQ (wd X T) H Q (.tup (xs ++ ys)) h from q)
      refine op_catP pins s σ H x y v u Q I rx ry ⟨a, b, vs, ws, e1, e2, q1, q2, by rw [k1.length, k2.length]; exact hl, fun e => ?_, fun n1 e => ?_, fun n1 n2 p o hp ho => cQ.tupN q rh hp ho (k1.append k2)⟩
      · subst e
        have : xs = [] := List.eq_nil_of_length_eq_zero (by rw [← k1.length]; rfl)
        subst this
        rw [← e2]
        exact q.here rh r2
      · subst e
        have : ys = [] := List.eq_nil_of_length_eq_zero (by rw [← k2.length]; rfl)
        subst this
        rw [List.append_nil] at q
        rw [← e1]
        exact q.here rh r1
    | _ => exact False.elim q
  | ref a =>
    cases ay with
    | ref b =>
      obtain ⟨xs, ys, e1, e2, hl, q⟩ := (show ∃ xs ys, h a = some (.lst xs) ∧ h b = some (.lst ys) ∧ xs.length + ys.length ≤ sizeLine ∧ newL h (xs ++ ys) (cQ (wd X T) H Q) from q)
      obtain ⟨vs, h1, k1⟩ := rh.lst e1
      obtain ⟨ws, h2, k2⟩ := rh.lst e2
      exact op_cat pins s σ H x y v u Q I rx ry ⟨a, b, vs, ws, rep_ref.mp r1, rep_ref.mp r2, h1, h2, by rw [k1.length, k2.length]; exact hl, fun p hp => cQ.lstN q rh hp (k1.append k2)⟩
    | _ => exact False.elim q
  | _ => cases ay <;> exact False.elim q
theorem o_sub : OpR X (binaryOp .Sub) (cR2 (wd X T) subR) := by
  intro pins s σ H x y v u Q I rx ry q
  obtain ⟨ax, ay, h, rh, r1, r2, q⟩ := q
  cases ax with
  | int i =>
    cases ay with
    | int j => exact op_sub pins s σ H x y v u Q I rx ry ⟨i, j, rep_int.mp r1, rep_int.mp r2, cQ.int q rh⟩
    | _ => exact False.elim q
  | _ => cases ay <;> exact False.elim q
theorem o_mul : OpR X (binaryOp .Mult) (cR2 (wd X T) mulR) := by
  intro pins s σ H x y v u Q I rx ry q
  obtain ⟨ax, ay, h, rh, r1, r2, q⟩ := q
  cases ax with
  | int i =>
    cases ay with
    | int j => exact op_mulW pins s σ H x y v u Q I rx ry ⟨i, j, rep_int.mp r1, rep_int.mp r2, q.1, cQ.int q.2 rh⟩
    | _ => exact False.elim q
  | tup xs =>
    cases ay with
    | int k =>
      obtain ⟨a, vs, e1, q1, k1⟩ := rep_tupT r1
      obtain ⟨n1, n2, n3, n4, q⟩ := (show xs ≠ [] ∧ 2 ≤ k ∧ k ≤ 1000 ∧ xs.length ≤ 1000 ∧ cQ (wd X T) H Q (.tup (List.replicate k.toNat xs).flatten) h from q)
      refine op_repTP pins s σ H x y v u Q I rx ry ⟨a, k, vs, e1, rep_int.mp r2, q1, fun e => ?_, n2, n3, by rw [k1.length]; exact n4, fun p o hp ho => cQ.tupN q rh hp ho (flatten_rep k1 _)⟩
      subst e
      exact n1 (List.eq_nil_of_length_eq_zero (by rw [← k1.length]; rfl))
    | _ => exact False.elim q
  | ref a =>
    cases ay with
    | int k =>
      obtain ⟨xs, e1, n1, n2, n3, q⟩ := (show ∃ xs, h a = some (.lst xs) ∧ -(2 ^ 63) ≤ k ∧ k < 2 ^ 63 ∧ xs.length * k.toNat ≤ sizeLine ∧ newL h (List.replicate k.toNat xs).flatten (cQ (wd X T) H Q) from q)
      obtain ⟨vs, h1, k1⟩ := rh.lst e1
      exact op_rep pins s σ H x y v u Q I rx ry ⟨a, k, vs, rep_ref.mp r1, rep_int.mp r2, h1, n1, n2, by rw [k1.length]; exact n3, fun p hp => cQ.lstN q rh hp (flatten_rep k1 _)⟩
    | _ => exact False.elim q
  | _ => cases ay <;> exact False.elim q
theorem op_fdivG : OpR X (binaryOp .FloorDiv) (rI (fun _ j => j ≠ 0 ∧ j.natAbs.log2 < 9000) fun i j => .int (i.fdiv j)) := opI fun _ _ _ _ _ _ _ hc q => floordiv_int hc.1 q (.inl (PyProof.noPylong_of_log2 hc.2))
theorem o_fdiv : OpR X (binaryOp .FloorDiv) (cR2 (wd X T) fdivR) := by
  intro pins s σ H x y v u Q I rx ry q
  obtain ⟨ax, ay, h, rh, r1, r2, q⟩ := q
  cases ax with
  | int i =>
    cases ay with
    | int j => exact op_fdivG pins s σ H x y v u Q I rx ry ⟨i, j, rep_int.mp r1, rep_int.mp r2, q.1, cQ.int q.2 rh⟩
    | _ => exact False.elim q
  | _ => cases ay <;> exact False.elim q
theorem o_mod : OpR X (binaryOp .Mod) (cR2 (wd X T) modR) := by
  intro pins s σ H x y v u Q I rx ry q
  obtain ⟨ax, ay, h, rh, r1, r2, q⟩ := q
  cases ax with
  | int i =>
    cases ay with
    | int j => exact op_mod pins s σ H x y v u Q I rx ry ⟨i, j, rep_int.mp r1, rep_int.mp r2, q.1, cQ.int q.2 rh⟩
    | _ => exact False.elim q
  | _ => cases ay <;> exact False.elim q
theorem o_pow : OpR X (binaryOp .Pow) (cR2 (wd X T) powR) := by
  intro pins s σ H x y v u Q I rx ry q
  obtain ⟨ax, ay, h, rh, r1, r2, q⟩ := q
  cases ax with
  | int i =>
    cases ay with
    | int j => exact op_pow pins s σ H x y v u Q I rx ry ⟨i, j, rep_int.mp r1, rep_int.mp r2, q.1, cQ.int q.2 rh⟩
    | _ => exact False.elim q
  | _ => cases ay <;> exact False.elim q
def bopPy : BOp → Operator
  | .add => .Add | .sub => .Sub | .mul => .Mult | .fdiv => .FloorDiv | .mod => .Mod | .pow => .Pow
theorem o_bin (op : BOp) : OpR X (binaryOp (bopPy op)) (cR2 (wd X T) (binR op)) := by
  cases op
  · exact o_add
  · exact o_sub
  · exact o_mul
  · exact o_fdiv
  · exact o_mod
  · exact o_pow

mutual
def AV.pd : AV → PyData
  | .non => .none
  | .bl b => .bool b
  | .int i => .int i
  | .str x => .str x
  | .tup xs => .tuple (AV.pds xs)
  | .wt xs => .tuple (AV.pds xs)
  | .rl xs => .list (AV.pds xs)
  | .ref _ => .none
def AV.pds : List AV → List PyData
  | [] => []
  | x :: xs => AV.pd x :: AV.pds xs
end
mutual
theorem dp_of {K : PySem.W.Frag} {H : Hp} : ∀ {n : Nat} {x : AV} {v : V}, AV.flat n x = true → Rep K H x v → Dp K H v x.pd
  | _, .non, v, _, r => by rw [rep_non.mp r]; unfold AV.pd; exact .non
  | _, .bl b, v, _, r => by rw [rep_bl.mp r]; unfold AV.pd; exact .bl b
  | _, .int b, v, _, r => by rw [rep_int.mp r]; unfold AV.pd; exact .int b
  | _, .str b, v, _, r => by rw [rep_str.mp r]; unfold AV.pd; exact .str b
  | 0, .tup xs, v, f, r => by unfold AV.flat at f; cases f
  | n + 1, .tup xs, v, f, r => by
    obtain ⟨a, vs, rfl, q, k⟩ := rep_tupT r
    unfold AV.pd
    exact .tup q (dps_of (n := n) (by unfold AV.flat at f; exact f) k)
  | n, .wt xs, v, f, r => by cases n <;> (unfold AV.flat at f; cases f)
  | n, .rl xs, v, f, r => by cases n <;> (unfold AV.flat at f; cases f)
  | n, .ref a, v, f, r => by cases n <;> (unfold AV.flat at f; cases f)
theorem dps_of {K : PySem.W.Frag} {H : Hp} : ∀ {n : Nat} {xs : List AV} {vs : List V}, AV.flats n xs = true → Reps K H xs vs → DpAll K H vs (AV.pds xs)
  | _, [], vs, _, r => by rw [reps_nil.mp r]; unfold AV.pds; exact .nil
  | n, x :: xs, vs, f, r => by
    obtain ⟨v, w, rfl, a, b⟩ := reps_cons.mp r
    unfold AV.flats at f
    rw [Bool.and_eq_true] at f
    unfold AV.pds
    exact .cons (dp_of f.1 a) (dps_of f.2 b)
end
mutual
theorem eqv_pd : ∀ {n m : Nat} {x y : AV}, AV.flat n x = true → AV.flat m y = true → AV.eqv x y = PyData.eqv x.pd y.pd
  | n, m, .non, y, f, g => by cases y <;> first | rfl | (cases m <;> (unfold AV.flat at g; cases g))
  | n, m, .bl _, y, f, g => by cases y <;> first | rfl | (cases m <;> (unfold AV.flat at g; cases g))
  | n, m, .int _, y, f, g => by cases y <;> first | rfl | (cases m <;> (unfold AV.flat at g; cases g))
  | n, m, .str _, y, f, g => by cases y <;> first | rfl | (cases m <;> (unfold AV.flat at g; cases g))
  | 0, m, .tup xs, y, f, g => by unfold AV.flat at f; cases f
  | n + 1, m, .tup xs, y, f, g => by
    cases y with
    | tup ys =>
      cases m with
      | zero => unfold AV.flat at g; cases g
      | succ m =>
        unfold AV.flat at f g
        have h := eqvs_pd f g
        show AV.eqvs xs ys = PyData.eqvAll (AV.pds xs) (AV.pds ys)
        exact h
    | wt ys => cases m <;> (unfold AV.flat at g; cases g)
    | rl ys => cases m <;> (unfold AV.flat at g; cases g)
    | ref a => cases m <;> (unfold AV.flat at g; cases g)
    | _ => rfl
  | n, m, .wt _, y, f, g => by cases n <;> (unfold AV.flat at f; cases f)
  | n, m, .rl _, y, f, g => by cases n <;> (unfold AV.flat at f; cases f)
  | n, m, .ref _, y, f, g => by cases n <;> (unfold AV.flat at f; cases f)
theorem eqvs_pd : ∀ {n m : Nat} {xs ys : List AV}, AV.flats n xs = true → AV.flats m ys = true → AV.eqvs xs ys = PyData.eqvAll (AV.pds xs) (AV.pds ys)
  | _, _, [], ys, _, _ => by cases ys <;> rfl
  | n, m, x :: xs, [], _, _ => rfl
  | n, m, x :: xs, y :: ys, f, g => by
    unfold AV.flats at f g
    rw [Bool.and_eq_true] at f g
    show (AV.eqv x y && AV.eqvs xs ys) = (PyData.eqv x.pd y.pd && PyData.eqvAll (AV.pds xs) (AV.pds ys))
    rw [eqv_pd f.1 g.1, eqvs_pd f.2 g.2]
end
mutual
theorem canLay_pd : ∀ {n : Nat} {x : AV}, AV.flat n x = true → x.pd.canLay0 = true ∧ x.pd.depth ≤ n + 1
  | n, .non, _ => by unfold AV.pd; exact ⟨by simp [PyData.canLay0], by simp [PyData.depth]⟩
  | n, .bl _, _ => by unfold AV.pd; exact ⟨by simp [PyData.canLay0], by simp [PyData.depth]⟩
  | n, .int _, _ => by unfold AV.pd; exact ⟨by simp [PyData.canLay0], by simp [PyData.depth]⟩
  | n, .str _, f => by unfold AV.pd; exact ⟨by simp only [PyData.canLay0]; cases n <;> (unfold AV.flat at f; exact f), by simp [PyData.depth]⟩
  | 0, .tup xs, f => by unfold AV.flat at f; cases f
  | n + 1, .tup xs, f => by
    unfold AV.flat at f
    have h := canLays_pd f
    unfold AV.pd
    exact ⟨by simp only [PyData.canLay0]; exact h.1, by simp only [PyData.depth]; have := h.2; omega⟩
  | n, .rl _, f => by cases n <;> (unfold AV.flat at f; cases f)
  | n, .ref _, f => by cases n <;> (unfold AV.flat at f; cases f)
theorem canLays_pd : ∀ {n : Nat} {xs : List AV}, AV.flats n xs = true → PyData.canLayAll0 (AV.pds xs) = true ∧ PyData.depthAll (AV.pds xs) ≤ n + 1
  | n, [], _ => by unfold AV.pds; exact ⟨by simp [PyData.canLayAll0], by simp [PyData.depthAll]⟩
  | n, x :: xs, f => by
    unfold AV.flats at f
    rw [Bool.and_eq_true] at f
    have h1 := canLay_pd f.1
    have h2 := canLays_pd f.2
    unfold AV.pds
    exact ⟨by simp only [PyData.canLayAll0, Bool.and_eq_true]; exact ⟨h1.1, h2.1⟩, by simp only [PyData.depthAll]; omega⟩
end
end
end PL

namespace PL
open PySem PySem.Spec PyProof.Rows L2
section
variable {X : Cx} {T : Tb}
theorem shaped_pd {x : AV} (h : AV.flat 50 x = true) : SeqAt.shaped x.pd = true := by
  obtain ⟨a, b⟩ := canLay_pd h
  unfold SeqAt.shaped
  rw [a, Bool.true_and, decide_eq_true_eq]
  omega
theorem shapedL_pd {xs : List AV} (h : AV.flats 50 xs = true) : SeqAt.shaped (.list (AV.pds xs)) = true := by
  obtain ⟨a, b⟩ := canLays_pd h
  unfold SeqAt.shaped
  have e : (PyData.list (AV.pds xs)).canLay0 = true := by simp only [PyData.canLay0]; exact a
  have d : (PyData.list (AV.pds xs)).depth = PyData.depthAll (AV.pds xs) + 1 := by simp only [PyData.depth]
  rw [e, d, Bool.true_and, decide_eq_true_eq]
  omega
theorem eq_data {H : Hp} {h : AH} {ax ay : AV} {x y : V} {Q : Bool → Prop} (rh : RH (wd X T) h H) (r1 : Rep X.K H ax x) (r2 : Rep X.K H ay y) (q : eqR ax ay h Q) :
    ∃ d e, Dp X.K H x d ∧ Dp X.K H y e ∧ SeqAt.shaped d = true ∧ SeqAt.shaped e = true ∧ Q (PyData.eqv d e) := by
  have go : AV.flat 50 ax = true ∧ AV.flat 50 ay = true ∧ Q (AV.eqv ax ay) → ∃ d e, Dp X.K H x d ∧ Dp X.K H y e ∧ SeqAt.shaped d = true ∧ SeqAt.shaped e = true ∧ Q (PyData.eqv d e) := fun ⟨f, g, q⟩ =>
    ⟨_, _, dp_of f r1, dp_of g r2, shaped_pd f, shaped_pd g, by rw [← eqv_pd f g]; exact q⟩
  cases ax with
  | ref a =>
    cases ay with
    | ref b =>
      obtain ⟨xs, ys, e1, e2, f, g, q⟩ := q
      obtain ⟨vs, h1, k1⟩ := rh.lst e1
      obtain ⟨ws, h2, k2⟩ := rh.lst e2
      refine ⟨.list (AV.pds xs), .list (AV.pds ys), ?_, ?_, shapedL_pd f, shapedL_pd g, ?_⟩
      · rw [rep_ref.mp r1]; exact .lst (SqL.of h1) (dps_of f k1)
      · rw [rep_ref.mp r2]; exact .lst (SqL.of h2) (dps_of g k2)
      · have e : PyData.eqv (.list (AV.pds xs)) (.list (AV.pds ys)) = PyData.eqvAll (AV.pds xs) (AV.pds ys) := by simp only [PyData.eqv]
        rw [e, ← eqvs_pd f g]; exact q
    | _ => exact go q
  | _ => exact go q
theorem o_eq (hu : X.A.units + 80 < cLine) : OpR X (compareOp .Eq) (cCmp (wd X T) eqR) := by
  intro pins s σ H x y v u Q I rx ry q
  obtain ⟨ax, ay, h, rh, r1, r2, q⟩ := q
  obtain ⟨d, e, a⟩ := eq_data rh r1 r2 q
  exact op_eqD (by omega) pins s σ H x y v u Q I rx ry ⟨d, e, a⟩
theorem o_ne (hu : X.A.units + 80 < cLine) : OpR X (compareOp .NotEq) (cCmp (wd X T) fun x y h Q => eqR x y h fun b => Q (!b)) := by
  intro pins s σ H x y v u Q I rx ry q
  obtain ⟨ax, ay, h, rh, r1, r2, q⟩ := q
  obtain ⟨d, e, a⟩ := eq_data rh r1 r2 q
  exact op_neD (by omega) pins s σ H x y v u Q I rx ry ⟨d, e, a⟩
theorem o_lt : OpR X (compareOp .Lt) (cCmp (wd X T) fun x y _ Q => ltR x y Q) := by
  intro pins s σ H x y v u Q I rx ry q
  obtain ⟨ax, ay, h, rh, r1, r2, q⟩ := q
  cases ax with
  | int i =>
    cases ay with
    | int j => exact op_lt pins s σ H x y v u Q I rx ry ⟨i, j, rep_int.mp r1, rep_int.mp r2, q⟩
    | _ => exact False.elim q
  | str i =>
    cases ay with
    | str j => exact op_lt_str pins s σ H x y v u Q I rx ry ⟨i, j, rep_str.mp r1, rep_str.mp r2, q⟩
    | _ => exact False.elim q
  | _ => cases ay <;> exact False.elim q
theorem o_le : OpR X (compareOp .LtE) (cCmp (wd X T) fun x y _ Q => leR x y Q) := by
  intro pins s σ H x y v u Q I rx ry q
  obtain ⟨ax, ay, h, rh, r1, r2, q⟩ := q
  cases ax with
  | int i =>
    cases ay with
    | int j => exact op_le pins s σ H x y v u Q I rx ry ⟨i, j, rep_int.mp r1, rep_int.mp r2, q⟩
    | _ => exact False.elim q
  | _ => cases ay <;> exact False.elim q
theorem o_gt : OpR X (compareOp .Gt) (cCmp (wd X T) fun x y _ Q => gtR x y Q) := by
  intro pins s σ H x y v u Q I rx ry q
  obtain ⟨ax, ay, h, rh, r1, r2, q⟩ := q
  cases ax with
  | int i =>
    cases ay with
    | int j => exact op_gt pins s σ H x y v u Q I rx ry ⟨i, j, rep_int.mp r1, rep_int.mp r2, q⟩
    | _ => exact False.elim q
  | _ => cases ay <;> exact False.elim q
theorem o_ge : OpR X (compareOp .GtE) (cCmp (wd X T) fun x y _ Q => geR x y Q) := by
  intro pins s σ H x y v u Q I rx ry q
  obtain ⟨ax, ay, h, rh, r1, r2, q⟩ := q
  cases ax with
  | int i =>
    cases ay with
    | int j => exact op_ge pins s σ H x y v u Q I rx ry ⟨i, j, rep_int.mp r1, rep_int.mp r2, q⟩
    | _ => exact False.elim q
  | _ => cases ay <;> exact False.elim q
theorem is_data {H : Hp} {ax ay : AV} {x y : V} {Q : Bool → Prop} (r1 : Rep X.K H ax x) (r2 : Rep X.K H ay y) (q : isR ax ay Q) :
    (y = .non ∧ Q (decide (x = .non))) ∨ ∃ a b, x = .bl a ∧ y = .bl b ∧ Q (decide (a = b)) := by
  cases ay with
  | non =>
    refine .inl ⟨rep_non.mp r2, ?_⟩
    cases ax with
    | non => rw [rep_non.mp r1]; exact q
    | bl _ => rw [rep_bl.mp r1]; exact q
    | int _ => rw [rep_int.mp r1]; exact q
    | str _ => rw [rep_str.mp r1]; exact q
    | ref _ => rw [rep_ref.mp r1]; exact q
    | tup _ => obtain ⟨a, _, rfl, _⟩ := rep_tupT r1; exact q
    | wt _ => obtain ⟨a, _, rfl, _⟩ := rep_wt.mp r1; exact q
    | rl _ => obtain ⟨a, _, rfl, _⟩ := rep_rl.mp r1; exact q
  | bl b =>
    cases ax with
    | bl a => exact .inr ⟨a, b, rep_bl.mp r1, rep_bl.mp r2, q⟩
    | _ => exact False.elim q
  | _ => cases ax <;> exact False.elim q
theorem o_is : OpR X (compareOp .Is) (cCmp (wd X T) fun x y _ Q => isR x y Q) := by
  intro pins s σ H x y v u Q I rx ry q
  obtain ⟨ax, ay, h, rh, r1, r2, q⟩ := q
  rcases is_data r1 r2 q with q | q
  · exact op_isN pins s σ H x y v u Q I rx ry q
  · exact op_is_bl pins s σ H x y v u Q I rx ry q
theorem o_isnot : OpR X (compareOp .IsNot) (cCmp (wd X T) fun x y _ Q => isR x y fun b => Q (!b)) := by
  intro pins s σ H x y v u Q I rx ry q
  obtain ⟨ax, ay, h, rh, r1, r2, q⟩ := q
  rcases is_data r1 r2 q with q | q
  · exact op_notN pins s σ H x y v u Q I rx ry q
  · exact op_isnot_bl pins s σ H x y v u Q I rx ry q
theorem scal_rep {K : PySem.W.Frag} {H : Hp} {x : AV} {v : V} (f : x.scal = true) (r : Rep K H x v) : flatV v = true ∧ ∀ {y : AV} {w : V}, y.scal = true → Rep K H y w → eqV w v = AV.eqv y x := by
  cases x with
  | non => rw [rep_non.mp r]; refine ⟨rfl, fun {y w} g r' => ?_⟩; cases y <;> first | (rw [rep_non.mp r'] <;> rfl) | (rw [rep_bl.mp r'] <;> rfl) | (rw [rep_int.mp r'] <;> rfl) | (rw [rep_str.mp r'] <;> rfl) | cases g
  | bl _ => rw [rep_bl.mp r]; refine ⟨rfl, fun {y w} g r' => ?_⟩; cases y <;> first | (rw [rep_non.mp r'] <;> rfl) | (rw [rep_bl.mp r'] <;> rfl) | (rw [rep_int.mp r'] <;> rfl) | (rw [rep_str.mp r'] <;> rfl) | cases g
  | int _ => rw [rep_int.mp r]; refine ⟨rfl, fun {y w} g r' => ?_⟩; cases y <;> first | (rw [rep_non.mp r'] <;> rfl) | (rw [rep_bl.mp r'] <;> rfl) | (rw [rep_int.mp r'] <;> rfl) | (rw [rep_str.mp r'] <;> rfl) | cases g
  | str _ => rw [rep_str.mp r]; refine ⟨rfl, fun {y w} g r' => ?_⟩; cases y <;> first | (rw [rep_non.mp r'] <;> rfl) | (rw [rep_bl.mp r'] <;> rfl) | (rw [rep_int.mp r'] <;> rfl) | (rw [rep_str.mp r'] <;> rfl) | cases g
  | _ => cases f
theorem scals_rep {K : PySem.W.Frag} {H : Hp} {x : AV} {v : V} (f : x.scal = true) (r : Rep K H x v) : ∀ {ys : List AV} {ws : List V}, ys.all AV.scal = true → Reps K H ys ws → ws.all flatV = true ∧ inV v ws = anyEq x ys
  | [], ws, _, k => by rw [reps_nil.mp k]; exact ⟨rfl, rfl⟩
  | y :: ys, ws, g, k => by
    obtain ⟨w, r', rfl, a, b⟩ := reps_cons.mp k
    rw [List.all_cons, Bool.and_eq_true] at g
    obtain ⟨h1, h2⟩ := scals_rep f r g.2 b
    refine ⟨?_, ?_⟩
    · rw [List.all_cons, (scal_rep g.1 a).1, h1]; rfl
    · show (eqV w v || inV v r') = (AV.eqv y x || anyEq x ys)
      rw [(scal_rep f r).2 g.1 a, h2]
theorem key_rep {K : PySem.W.Frag} {H : Hp} {x : AV} {v : V} {k : Key} (e : x.toKey = some k) (r : Rep K H x v) : v = kV k := by
  cases x with
  | int i => cases e; exact rep_int.mp r
  | str i => cases e; exact rep_str.mp r
  | _ => cases e
theorem dget_rel {K : PySem.W.Frag} {H : Hp} (k : Key) : ∀ {kvs : List (Key × AV)} {vs : List V}, Reps K H (kvs.map (·.2)) vs →
    (dget kvs k = none ∧ valV ((kvs.map (·.1)).zip vs) k = none) ∨ ∃ x v, dget kvs k = some x ∧ valV ((kvs.map (·.1)).zip vs) k = some v ∧ Rep K H x v
  | [], vs, h => by rw [reps_nil.mp h]; exact .inl ⟨rfl, rfl⟩
  | (k0, x0) :: r, vs, h => by
    obtain ⟨w, ws, rfl, a, b⟩ := reps_cons.mp h
    by_cases e : k0 = k
    · refine .inr ⟨x0, w, ?_, valV_pos e, a⟩
      unfold dget; simp [List.find?_cons, e]
    · have e1 : dget ((k0, x0) :: r) k = dget r k := by unfold dget; simp [List.find?_cons, e]
      have e2 : valV ((((k0, x0) :: r).map (·.1)).zip (w :: ws)) k = valV ((r.map (·.1)).zip ws) k := valV_neg (p := (k0, w)) e
      rw [e1, e2]
      exact dget_rel k b
theorem zip_any (k : Key) : ∀ {kvs : List (Key × AV)} {vs : List V}, vs.length = kvs.length → (((kvs.map (·.1)).zip vs).any fun kv => decide (kv.1 = k)) = (kvs.any fun kv => decide (kv.1 = k))
  | [], _, _ => rfl
  | p :: r, [], h => by cases h
  | p :: r, v :: vs, h => by
    show (decide (p.1 = k) || ((r.map (·.1)).zip vs).any _) = (decide (p.1 = k) || r.any _)
    rw [zip_any k (kvs := r) (vs := vs) (by simpa using h)]
theorem dput_rel {K : PySem.W.Frag} {H : Hp} {k : Key} {x : AV} {v : V} (hx : Rep K H x v) {kvs : List (Key × AV)} {vs : List V} (h : Reps K H (kvs.map (·.2)) vs) :
    ∃ ws, putK ((kvs.map (·.1)).zip vs) k v = ((dput kvs k x).map (·.1)).zip ws ∧ Reps K H ((dput kvs k x).map (·.2)) ws := by
  have hl : vs.length = kvs.length := by rw [h.length, List.length_map]
  unfold putK dput
  rw [zip_any k hl]
  split
  · have go : ∀ {kvs : List (Key × AV)} {vs : List V}, Reps K H (kvs.map (·.2)) vs → ∃ ws, ((kvs.map (·.1)).zip vs).map (fun kv => if kv.1 = k then (kv.1, v) else kv) = ((kvs.map fun kv => if kv.1 = k then (kv.1, x) else kv).map (·.1)).zip ws ∧
        Reps K H ((kvs.map fun kv => if kv.1 = k then (kv.1, x) else kv).map (·.2)) ws := by
      intro kvs
      induction kvs with
      | nil => intro vs h; exact ⟨[], rfl, reps_nil.mpr rfl⟩
      | cons p r ih =>
        intro vs h
        obtain ⟨w, ws, rfl, a, b⟩ := reps_cons.mp h
        obtain ⟨zs, e, q⟩ := ih b
        by_cases ek : p.1 = k
        · refine ⟨v :: zs, ?_, ?_⟩
          · simp only [List.map_cons, List.zip_cons_cons, if_pos ek]; rw [e]
          · simp only [List.map_cons, if_pos ek]; exact reps_cons.mpr ⟨v, zs, rfl, hx, q⟩
        · refine ⟨w :: zs, ?_, ?_⟩
          · simp only [List.map_cons, List.zip_cons_cons, if_neg ek]; rw [e]
          · simp only [List.map_cons, if_neg ek]; exact reps_cons.mpr ⟨w, zs, rfl, a, q⟩
    exact go h
  · refine ⟨vs ++ [v], ?_, ?_⟩
    · rw [List.map_append, List.zip_append (by rw [List.length_map, hl])]
      rfl
    · rw [List.map_append]
      exact h.append (Reps.one hx)
theorem any_eqv {x : AV} (fx : AV.flat 50 x = true) : ∀ {ys : List AV}, AV.flats 50 ys = true → ((AV.pds ys).any fun z => PyData.eqv z x.pd) = anyEq x ys
  | [], _ => rfl
  | y :: ys, h => by
    unfold AV.flats at h
    rw [Bool.and_eq_true] at h
    show (PyData.eqv y.pd x.pd || (AV.pds ys).any fun z => PyData.eqv z x.pd) = (AV.eqv y x || anyEq x ys)
    rw [any_eqv fx h.2, eqv_pd h.1 fx]
theorem in_data {H : Hp} {h : AH} {ax ay : AV} {x y : V} {Q : Bool → Prop} (rh : RH (wd X T) h H) (r1 : Rep X.K H ax x) (r2 : Rep X.K H ay y) (q : inR ax ay h Q) :
    (∃ p xs, y = .ref p ∧ (SqL X.K H p xs ∨ SqT X.K H p xs) ∧ flatV x = true ∧ xs.all flatV = true ∧ Q (inV x xs)) ∨ (∃ (c : Nat) (z : Str), x = .str ⟨#[c]⟩ ∧ y = .str z ∧ Q (decide (c ∈ z.cps.toList))) ∨ (∃ a o, y = .ref a ∧ DGet H a x o ∧ Q o.isSome) ∨
      ∃ d ds, Dp X.K H x d ∧ Dp X.K H y (.list ds) ∧ SeqAt.shaped d = true ∧ SeqAt.shaped (.list ds) = true ∧ Q (ds.any fun z => PyData.eqv z d) := by
  cases ay with
  | tup ys =>
    obtain ⟨f, g, q⟩ := q
    obtain ⟨a, vs, rfl, t, k⟩ := rep_tupT r2
    obtain ⟨k1, k2⟩ := scals_rep f r1 g k
    exact .inl ⟨a, vs, rfl, .inr t, (scal_rep f r1).1, k1, by rw [k2]; exact q⟩
  | str z =>
    cases ax with
    | str y =>
      obtain ⟨c, rfl, q⟩ := q
      exact .inr (.inl ⟨c, z, rep_str.mp r1, rep_str.mp r2, q⟩)
    | _ => exact False.elim q
  | ref a =>
    rcases q with ⟨ys, e, f, g, q⟩ | ⟨kvs, k, e, ek, q⟩ | ⟨ys, e, f, g, q⟩
    · obtain ⟨vs, h1, k⟩ := rh.lst e
      obtain ⟨k1, k2⟩ := scals_rep f r1 g k
      exact .inl ⟨a, vs, rep_ref.mp r2, .inl (SqL.of h1), (scal_rep f r1).1, k1, by rw [k2]; exact q⟩
    · obtain ⟨vs, h1, h2⟩ := rh.dK e
      have ex := key_rep ek r1
      refine .inr (.inr (.inl ⟨a, valV ((kvs.map (·.1)).zip vs) k, rep_ref.mp r2, by rw [ex]; exact DGet.k h1, ?_⟩))
      rcases dget_rel k h2 with ⟨e1, e2⟩ | ⟨_, _, e1, e2, _⟩
      · rw [e2]; rw [e1] at q; exact q
      · rw [e2]; rw [e1] at q; exact q
    · obtain ⟨vs, h1, k⟩ := rh.lst e
      exact .inr (.inr (.inr ⟨_, AV.pds ys, dp_of f r1, by rw [rep_ref.mp r2]; exact .lst (SqL.of h1) (dps_of g k), shaped_pd f, shapedL_pd g, by rw [any_eqv f g]; exact q⟩))
  | _ => exact False.elim q
theorem o_in (hu : X.A.units + 80 < cLine) : OpR X (compareOp .In) (cCmp (wd X T) inR) := by
  intro pins s σ H x y v u Q I rx ry q
  obtain ⟨ax, ay, h, rh, r1, r2, q⟩ := q
  rcases in_data rh r1 r2 q with q | q | ⟨a, o, ey, g, q⟩ | q
  · exact op_in_seq pins s σ H x y v u Q I rx ry q
  · exact op_in_sign pins s σ H x y v u Q I rx ry q
  · subst ey
    cases (show u = Value.ref a from ry)
    exact d_in (by omega) I g rx fun s' I' => ⟨.bl _, H, I', rfl, q⟩
  · exact op_inD (by omega) pins s σ H x y v u Q I rx ry q
theorem o_notin (hu : X.A.units + 80 < cLine) : OpR X (compareOp .NotIn) (cCmp (wd X T) fun x y h Q => inR x y h fun b => Q (!b)) := by
  intro pins s σ H x y v u Q I rx ry q
  obtain ⟨ax, ay, h, rh, r1, r2, q⟩ := q
  rcases in_data rh r1 r2 q with q | q | ⟨a, o, ey, g, q⟩ | q
  · exact op_notIn_seq pins s σ H x y v u Q I rx ry q
  · exact op_notIn_sign pins s σ H x y v u Q I rx ry q
  · subst ey
    cases (show u = Value.ref a from ry)
    exact d_notIn (by omega) I g rx fun s' I' => ⟨.bl _, H, I', rfl, q⟩
  · exact op_notInD (by omega) pins s σ H x y v u Q I rx ry q
def copPy : COp → CmpOp
  | .eq => .Eq | .ne => .NotEq | .lt => .Lt | .le => .LtE | .gt => .Gt | .ge => .GtE | .is => .Is | .isnot => .IsNot | .inn => .In | .notin => .NotIn
theorem o_cmp (hu : X.A.units + 80 < cLine) (op : COp) : OpR X (compareOp (copPy op)) (cCmp (wd X T) (cmpR op)) := by
  have h1 : X.A.units + 1 < cLine := by omega
  cases op
  · exact o_eq hu
  · exact o_ne hu
  · exact o_lt
  · exact o_le
  · exact o_gt
  · exact o_ge
  · exact o_is
  · exact o_isnot
  · exact o_in hu
  · exact o_notin hu

theorem tru_data {H : Hp} {h : AH} {ax : AV} {x : V} {Q : Bool → Prop} (rh : RH (wd X T) h H) (r : Rep X.K H ax x) (q : truR ax h Q) : ∃ k, TruV X.K x H k ∧ Q k := by
  cases ax with
  | non => rw [rep_non.mp r]; exact ⟨_, rfl, q⟩
  | bl b => rw [rep_bl.mp r]; exact ⟨_, rfl, q⟩
  | int i => rw [rep_int.mp r]; exact ⟨_, rfl, q⟩
  | tup xs =>
    obtain ⟨a, vs, rfl, t, k⟩ := rep_tupT r
    refine ⟨!xs.isEmpty, .inr (.inl ⟨vs, t, ?_⟩), q⟩
    have := k.length
    cases xs <;> cases vs <;> simp_all
  | ref a =>
    obtain ⟨xs, e, q⟩ := q
    obtain ⟨vs, h1, k⟩ := rh.lst e
    rw [rep_ref.mp r]
    refine ⟨!xs.isEmpty, .inl ⟨vs, SqL.of h1, ?_⟩, q⟩
    have := k.length
    cases xs <;> cases vs <;> simp_all
  | _ => exact False.elim q

theorem atI_eq {xs : List AV} {vs : List V} {K : PySem.W.Frag} {H : Hp} {i : Int} {x : AV} (k : Reps K H xs vs) (e : PL.atI xs i = some x) : ∃ v, L2.atI vs i = some v ∧ Rep K H x v := by
  have hl := k.length
  unfold PL.atI at e
  unfold L2.atI ixN
  by_cases h0 : 0 ≤ i
  · rw [if_pos h0] at e ⊢
    have hi : i.toNat < xs.length := (List.getElem?_eq_some_iff.mp e).1
    rw [if_pos (by omega)]
    obtain ⟨v, e1, r⟩ := k.get e
    exact ⟨v, e1, r⟩
  · rw [if_neg h0] at e ⊢
    by_cases h1 : -(xs.length : Int) ≤ i
    · rw [if_pos h1] at e
      rw [if_pos (by omega)]
      obtain ⟨v, e1, r⟩ := k.get e
      refine ⟨v, ?_, r⟩
      show vs[(i + (vs.length : Int)).toNat]? = some v
      rw [hl, Int.add_comm]
      exact e1
    · rw [if_neg h1] at e; cases e
theorem x_ix (hu : X.A.units + 1 < cLine) : IxR X (cR2 (wd X T) ixR) := by
  intro value slice pins s σ H x y v u Q I rx ry q hs
  obtain ⟨ax, ay, h, rh, r1, r2, q⟩ := q
  cases ax with
  | tup xs =>
    cases ay with
    | int i =>
      obtain ⟨w, e, q⟩ := q
      obtain ⟨a, vs, ex, t, k⟩ := rep_tupT r1
      obtain ⟨z, e1, rz⟩ := atI_eq k e
      exact ix_tup value slice pins s σ H x y v u Q I rx ry ⟨a, vs, i, z, ex, rep_int.mp r2, t, e1, q.here rh rz⟩ hs
    | _ => exact False.elim q
  | rl xs =>
    cases ay with
    | int i =>
      obtain ⟨w, e, q⟩ := q
      obtain ⟨a, vs, ex, t, k⟩ := rep_rl.mp r1
      obtain ⟨z, e1, rz⟩ := atI_eq k e
      exact ix_list value slice pins s σ H x y v u Q I rx ry ⟨a, vs, i, z, ex, rep_int.mp r2, t.sq, e1, q.here rh rz⟩ hs
    | _ => exact False.elim q
  | str z =>
    cases ay with
    | int i =>
      obtain ⟨hl, c, e, q⟩ := q
      exact ix_str value slice pins s σ H x y v u Q I rx ry ⟨z, i, c, rep_str.mp r1, rep_int.mp r2, hl, e, q.here rh (rep_str.mpr rfl)⟩ hs
    | _ => exact False.elim q
  | ref a =>
    rcases q with ⟨xs, i, w, rfl, e1, e, q⟩ | ⟨kvs, k, w, ek, e1, e, q⟩
    · obtain ⟨vs, h1, k⟩ := rh.lst e1
      obtain ⟨z, e2, rz⟩ := atI_eq k e
      exact ix_list value slice pins s σ H x y v u Q I rx ry ⟨a, vs, i, z, rep_ref.mp r1, rep_int.mp r2, SqL.of h1, e2, q.here rh rz⟩ hs
    · obtain ⟨vs, h1, h2⟩ := rh.dK e1
      have ex := key_rep ek r2
      rcases dget_rel k h2 with ⟨e3, _⟩ | ⟨x', z, e3, e4, rz⟩
      · rw [e3] at e; cases e
      · rw [e3] at e; cases e
        have exr := rep_ref.mp r1
        subst exr
        cases (show v = Value.ref a from rx)
        have g : DGet H a y (some z) := by rw [ex, ← e4]; exact DGet.k h1
        refine tail_any (dict_typeIs I g) PySem.F.slot_dict_getitem.lookup (d_getItem (by omega) I g ry fun w' s' I' rw' => ⟨z, H, I', rw', q.here rh rz⟩) hs
  | _ => exact False.elim q
end
end PL

namespace SrtO
open PySem PySem.Spec PyProof.Rows PySem.Calls
def sB (a b : PySem.Str) : Bool := decide (a.cps.toList < b.cps.toList)
theorem sB_no {a b : PySem.Str} : sB a b = false ↔ b.cps.toList ≤ a.cps.toList := by
  unfold sB
  rw [decide_eq_false_iff_not, List.not_lt]
theorem swo_s {α : Type} (k : α → PySem.Str) : Swo fun v u => sB (k v) (k u) := by
  refine ⟨fun x y h => ?_, fun x y z h1 h2 => ?_⟩
  · refine sB_no.mpr ?_
    exact List.le_of_lt (of_decide_eq_true h)
  · exact sB_no.mpr (List.le_trans (sB_no.mp h1) (sB_no.mp h2))
def IsSP (h : Heap) (v : Value) (x : PySem.Str) : Prop := ∃ a o t xs n, v = .ref a ∧ h.get? a = some o ∧ o.cls = .type "tuple" ∧ o.data = .seq (⟨.str x t :: xs⟩ : Array Value) n ∧ xs.length = 1
theorem IsSP.keeps {h h' : Heap} {v : Value} {x : PySem.Str} (p : IsSP h v x) (k : ∀ b o, h.get? b = some o → o.cls = .type "tuple" → h'.get? b = some o) : IsSP h' v x := by
  obtain ⟨a, o, t, xs, n, e, ho, hc, hd⟩ := p
  exact ⟨a, o, t, xs, n, e, k a o ho hc, hc, hd⟩
theorem firsts_s {h : Heap} : ∀ {vs : List Value}, (∀ v ∈ vs, ∃ x, IsSP h v x) → ∃ fs : List Value, PySem.W.KatTups h vs fs ∧ fs.length = vs.length ∧ ∀ f ∈ fs, ∃ x t, f = Value.str x t
  | [], _ => ⟨[], PySem.W.KatTups.nil, rfl, fun _ hm => by simp at hm⟩
  | v :: vs, hp => by
    obtain ⟨fs, h1, h2, h3⟩ := firsts_s (vs := vs) fun v' hm => hp v' (List.mem_cons_of_mem _ hm)
    obtain ⟨x, a, o, t, xs, n, e, ho, hc, hd, _⟩ := hp v (List.mem_cons_self ..)
    subst e
    refine ⟨.str x t :: fs, PySem.W.KatTups.cons ho hc hd rfl h1, by rw [List.length_cons, List.length_cons, h2], fun f hm => ?_⟩
    rcases List.mem_cons.mp hm with rfl | hm
    · exact ⟨x, t, rfl⟩
    · exact h3 f hm
section
variable {prog : Program} {w : World} {A : Around} {E : Value → Shared → Prop} {s : Shared}
theorem sp_cmp {vs : List Value} {k : Value → PySem.Str} (hp : ∀ v ∈ vs, IsSP s.heap v (k v)) (hu : ∀ v ∈ vs, ∀ u ∈ vs, k v = k u → v = u) : Cmp prog w A s (tuples' true) (fun p => p.1 ∈ vs) (lt2 fun v u => sB (k v) (k u)) := by
  intro p q hm hm'
  show wpAny (model prog w) A (keyLt' (tuples' true) p.1 q.1) (fun r s' => s' = s ∧ r = sB (k p.1) (k q.1)) (fun _ _ => False) s
  have h1 := hp _ hm
  have h2 := hp _ hm'
  by_cases ek : k p.1 = k q.1
  · have e := hu _ hm _ hm' ek
    rw [← e]
    obtain ⟨a, o, t, xs, n, e, ho, hc, hd, hx⟩ := h1
    rw [e]
    refine PySem.W.kat_lt ho hd ho hd ?_
    obtain ⟨y, rfl⟩ : ∃ y, xs = [y] := List.length_eq_one_iff.mp hx
    show PySem.W.KatLex prog w A true _ _ [(.str _ t, .str _ t), (y, y)] 0 s
    refine PySem.W.kat_cons (SeqAt.EqAt.same _ prog w _ _ ?_)
    refine PySem.W.kat_go (fun _ => ?_) (fun e1 => by cases e1)
    refine PySem.W.kat_yes (PySem.W.kat_cons (SeqAt.EqAt.same _ prog w _ _ ?_))
    refine PySem.W.kat_go (fun _ => ?_) (fun e1 => by cases e1)
    refine PySem.W.kat_yes (PySem.W.kat_nil ⟨rfl, ?_⟩)
    rw [← e, (swo_s k).refl]
    simp
  · generalize k p.1 = x at h1 ek ⊢
    generalize k q.1 = x' at h2 ek ⊢
    obtain ⟨a, o, t, xs, n, e, ho, hc, hd, hx⟩ := h1
    obtain ⟨a', o', t', xs', n', e', ho', hc', hd', hx'⟩ := h2
    rw [e, e']
    refine PySem.W.kat_lt ho hd ho' hd' ?_
    show PySem.W.KatLex prog w A true _ _ ((.str x t, .str x' t') :: xs.zip xs') 0 s
    refine PySem.W.kat_cons (SeqAt.EqAt.str_str x t x' t' prog w _ _ ?_)
    refine PySem.W.kat_go (fun e1 => absurd (by simpa using e1) ek) (fun e1 => ?_)
    exact PySem.W.kat_no (oneLt_str ⟨rfl, rfl⟩)
theorem sp_sortable {a : Addr} {vs : List Value} {k : Value → PySem.Str} (h0 : 0 < vs.length) (hp : ∀ v ∈ vs, IsSP s.heap v (k v)) (hu : ∀ v ∈ vs, ∀ u ∈ vs, k v = k u → v = u) (ha : ∀ o, s.heap.get? a = some o → o.cls ≠ .type "tuple") : SortableO prog w A s a vs fun v u => sB (k v) (k u) := by
  intro h' keep
  have hp' : ∀ v ∈ vs, IsSP h' v (k v) := fun v hm => (hp v hm).keeps fun b o e c => keep b o (fun z => by subst z; exact ha o e c) e
  obtain ⟨fs, h1, h2, h3⟩ := firsts_s fun v hm => ⟨_, hp' v hm⟩
  refine ⟨tuples' true, fun Q E hq => ?_, sp_cmp hp' hu⟩
  refine PySem.W.kat_kind (T := .type "str") h1 (by omega) (fun f hm => ?_) (by rfl) ?_
  · obtain ⟨x, t, rfl⟩ := h3 f hm
    exact PySem.W.Looks.of_pure rfl
  · have e : (Value.type "str" != Value.type "tuple") = true := by first | decide +kernel | rfl | decide
    rw [e]
    exact hq
theorem sorted_sp {l : Addr} {vs : List Value} {k : Value → PySem.Str} {Q : Value → Shared → Prop} (hl : s.heap.IsList l vs.toArray) (hz : vs.length ≤ sizeLine) (hp : ∀ v ∈ vs, IsSP s.heap v (k v)) (hu : ∀ v ∈ vs, ∀ u ∈ vs, k v = k u → v = u)
    (h : ∀ (h' : Heap) (d : Addr) (out : List Value), Srtd (fun v u => sB (k v) (k u)) out → out.Perm vs → (∀ b o, s.heap.get? b = some o → h'.get? b = some o) → s.heap.objs.size ≤ d → (∃ n, h'.get? d = some (seqObj "list" out.toArray n)) → Q (.ref d) { s with heap := h' }) :
    wpAny (model prog w) A (call (.builtin "sorted") [.ref l]) Q E s := by
  refine sorted_ord (swo_s k) hl hz (fun h2 h₁ a ha kk => ?_) fun out hs hb => ?_
  · refine sp_sortable (s := { s with heap := h₁ }) (by omega) (fun v hm => (hp v hm).keeps fun b o e _ => (kk b o e).2) hu fun o e => ?_
    have e' : some o = some (seqObj "list" vs.toArray 0) := e.symm.trans ha
    cases e'
    intro c
    exact absurd (Value.type.inj c) (by decide)
  · exact h _ _ out hs hb.perm (fun b o e => sortedAll_old e) (Nat.le_succ _) (sortedAll_at s.heap vs out.toArray)
end
end SrtO
namespace L2
open PySem PySem.Spec PyProof.Rows
def SPs (K : PySem.W.Frag) (H : Hp) : List V → List Str → Prop
  | [], [] => True
  | x :: xs, s :: ss => (∃ t y, x = V.ref t ∧ SqT K H t [.str s, y]) ∧ SPs K H xs ss
  | _, _ => False
def rSortedSP (K : PySem.W.Frag) : List V → Hp → VK → Prop := fun vs H Q => ∃ (a : Addr) (xs : List V) (ss : List Str), vs = [V.ref a] ∧ SqL K H a xs ∧ SPs K H xs ss ∧ ss.Nodup ∧
  ∀ (ys : List V) (k : V → Str) p, xs.map k = ss → ys.Pairwise (fun x y => SrtO.sB (k y) (k x) = false) → ys.Perm xs → H p = none → Q (.ref p) (upd H p (.lst ys))
theorem inj_of_nodup {α β : Type} {f : α → β} : ∀ {l : List α}, (l.map f).Nodup → ∀ {x y : α}, x ∈ l → y ∈ l → f x = f y → x = y
  | a :: l, h, x, y, hx, hy, e => by
    rw [List.map_cons, List.nodup_cons] at h
    rcases List.mem_cons.mp hx with ex | hx' <;> rcases List.mem_cons.mp hy with ey | hy'
    · rw [ex, ey]
    · exact absurd (List.mem_map.mpr ⟨y, hy', by rw [← e, ex]⟩) h.1
    · exact absurd (List.mem_map.mpr ⟨x, hx', by rw [e, ey]⟩) h.1
    · exact inj_of_nodup h.2 hx' hy' e
open Classical in
noncomputable def keyOfH (K : PySem.W.Frag) (H : Hp) (v : V) : Str := if h : ∃ s t y, v = V.ref t ∧ SqT K H t [.str s, y] then h.choose else ⟨#[]⟩
section
variable {X : Cx}
theorem keyOfH_eq {pins : List (Addr × Obj)} {σ : St} {H : Hp} {s : Shared} (I : Inv X pins σ H s) {t : Addr} {z : Str} {y : V} (h : SqT X.K H t [.str z, y]) : keyOfH X.K H (.ref t) = z := by
  have ex : ∃ s t' y, V.ref t = V.ref t' ∧ SqT X.K H t' [.str s, y] := ⟨z, t, y, rfl, h⟩
  unfold keyOfH
  rw [dif_pos ex]
  obtain ⟨t', y', e, h'⟩ := ex.choose_spec
  cases e
  have := I.tuple_inj h' h
  exact V.str.inj (List.cons.inj this).1
theorem sps_keys {pins : List (Addr × Obj)} {σ : St} {H : Hp} {s : Shared} (I : Inv X pins σ H s) : ∀ {xs : List V} {ss : List Str}, SPs X.K H xs ss → xs.map (keyOfH X.K H) = ss ∧ ∀ x ∈ xs, ∃ t y, x = V.ref t ∧ SqT X.K H t [.str (keyOfH X.K H x), y]
  | [], [], _ => ⟨rfl, by simp⟩
  | x :: xs, z :: ss, h => by
    obtain ⟨⟨t, y, rfl, hs⟩, r⟩ := h
    obtain ⟨i1, i2⟩ := sps_keys I r
    have e := keyOfH_eq I hs
    refine ⟨by rw [List.map_cons, i1, e], fun x hx => ?_⟩
    rcases List.mem_cons.mp hx with rfl | hx
    · exact ⟨t, y, rfl, by rw [e]; exact hs⟩
    · exact i2 x hx
theorem cr_sortedSP : CallR X (.builtin "sorted") (rSortedSP X.K) := by
  intro pins s σ H vs us Q I r h
  obtain ⟨a, xs, ss, rfl, hs, hsp, nd, q⟩ := h
  obtain ⟨ek, hx⟩ := sps_keys I hsp
  have hu : ∀ x ∈ xs, ∀ y ∈ xs, keyOfH X.K H x = keyOfH X.K H y → x = y := fun x h1 y h2 e => inj_of_nodup (by rw [ek]; exact nd) h1 h2 e
  obtain ⟨its, rv, hl, hz⟩ := I.list hs
  obtain ⟨u, rfl, ru⟩ := vals1 r
  obtain rfl : u = Value.ref a := ru
  obtain ⟨e1, e2⟩ := refs_back rv fun x m => by
    obtain ⟨t, _, e, _⟩ := hx x m
    exact ⟨t, e⟩
  have mem : ∀ v ∈ its, backV v ∈ xs := fun v hv => by rw [e1]; exact List.mem_map.mpr ⟨v, hv, rfl⟩
  refine SrtO.sorted_sp (k := fun u => keyOfH X.K H (backV u)) hl.isList (by rw [← rv.length]; exact hz) (fun v hv => ?_) (fun v hv u hu' e => ?_) fun h' d out h1 h2 kp hd hn => ?_
  · obtain ⟨t, rfl⟩ := e2 v hv
    have hm : V.ref t ∈ xs := mem _ hv
    obtain ⟨t', y, e, ht⟩ := hx _ hm
    cases e
    obtain ⟨its2, r2, ⟨o, ho, hc, n, hd⟩, _⟩ := I.tuple ht
    obtain ⟨u1, u2, rfl, ri, rj⟩ := vals2 r2
    obtain ⟨t1, rfl⟩ := ri
    exact ⟨t, o, t1, [u2], n, rfl, ho, hc, hd, rfl⟩
  · obtain ⟨t, rfl⟩ := e2 v hv
    obtain ⟨t', rfl⟩ := e2 u hu'
    have := hu _ (mem _ hv) _ (mem _ hu') e
    exact congrArg Value.ref (V.ref.inj this)
  · have h3 : ∀ u ∈ out, ∃ a, u = Value.ref a := fun u hu => e2 u (h2.mem_iff.mp hu)
    obtain ⟨n, hn⟩ := hn
    have hb : (out.map backV).Perm xs := by rw [e1]; exact h2.map _
    refine ⟨.ref d, upd H d (.lst (out.map backV)), I.laid (t' := s.toks) kp hd ⟨?_, out, n, vals_back h3, hn⟩, rfl, q _ (keyOfH X.K H) d ek (List.pairwise_map.mpr h1) hb (I.hok.fresh hd)⟩
    rw [hb.length_eq]
    exact hz
end
end L2

namespace L2
open PySem PySem.Spec PyProof.Rows
def IPs (K : PySem.W.Frag) (H : Hp) : List V → List (Int × Int) → Prop
  | [], [] => True
  | x :: xs, p :: ps => (∃ t, x = V.ref t ∧ SqT K H t [.int p.1, .int p.2]) ∧ IPs K H xs ps
  | _, _ => False
theorem IPs.at {K : PySem.W.Frag} {H : Hp} : ∀ {xs : List V} {ps : List (Int × Int)}, IPs K H xs ps → xs.length = ps.length ∧ ∀ (i : Nat) (x : V), xs[i]? = some x → ∃ (p : Int × Int) (t : Addr), ps[i]? = some p ∧ x = V.ref t ∧ SqT K H t [.int p.1, .int p.2]
  | [], [], _ => ⟨rfl, fun i x h => by simp at h⟩
  | x :: xs, p :: ps, ⟨⟨t, e, s⟩, r⟩ => by
    obtain ⟨h1, h2⟩ := IPs.at r
    refine ⟨by rw [List.length_cons, List.length_cons, h1], fun i y hy => ?_⟩
    cases i with
    | zero =>
      have : x = y := by simpa using hy
      subst this
      exact ⟨p, t, rfl, e, s⟩
    | succ i =>
      obtain ⟨q, u, a, b⟩ := h2 i y (by simpa using hy)
      exact ⟨q, u, by simpa using a, b⟩
def rMinP (K : PySem.W.Frag) : List V → Hp → VK → Prop := fun vs H Q => ∃ (a : Addr) (xs : List V) (p : Int × Int) (ps : List (Int × Int)), vs = [V.ref a] ∧ SqL K H a xs ∧ IPs K H xs (p :: ps) ∧
  ∀ (i : Nat) (x : V), xs[i]? = some x → (p :: ps)[i]? = some (PySem.W.minOf p ps) → Q x H
section
variable {X : Cx}
theorem isTup_reads {h : Heap} {t : Addr} {a b : Int} {t1 t2 : Tok} (x : IsTup h t #[.int a t1, .int b t2]) : Reads h (.ref t) (.tuple [.int a, .int b]) [] := by
  obtain ⟨o, ho, hc, n, hd⟩ := x
  exact Reads.tuple (as := []) ho hc hd (ReadsAll.cons (as := []) (bs := []) (Reads.int a t1) (ReadsAll.cons (as := []) (bs := []) (Reads.int b t2) ReadsAll.nil))
theorem isTup_holds {h : Heap} {t : Addr} {a b : Int} {t1 t2 : Tok} {q : Int × Int} (x : IsTup h t #[.int a t1, .int b t2]) (y : PySem.W.Holds h (.ref t) q) : q = (a, b) := by
  obtain ⟨o, ho, hc, n, hd⟩ := x
  obtain ⟨as, r⟩ := y
  have r : Reads h (.ref t) (.tuple [.int q.1, .int q.2]) as := r
  cases r with
  | tuple ho' hc' hd' ra =>
    rw [ho] at ho'
    cases ho'
    rw [hd] at hd'
    cases hd'
    cases ra with
    | cons r1 r2 =>
      cases r1
      cases r2 with
      | cons r3 r4 =>
        cases r3
        rfl
theorem cr_minP (hc : X.calm = true) (hu : X.A.units + 80 < cLine) : CallR X (.builtin "min") (rMinP X.K) := by
  intro pins s σ H vs us Q I r h
  obtain ⟨a, xs, p, ps, rfl, hs, hp, q⟩ := h
  obtain ⟨its, rv, hl, hz⟩ := I.list hs
  obtain ⟨u, rfl, ru⟩ := vals1 r
  obtain rfl : u = Value.ref a := ru
  obtain ⟨hlen, hat⟩ := hp.at
  have hil : its.length = xs.length := rv.length.symm
  -- what stands at a place
  have at' : ∀ (i : Nat) (v : Value), its[i]? = some v → ∃ (x : V) (w : Int × Int) (t : Addr) (t1 t2 : Tok), xs[i]? = some x ∧ (p :: ps)[i]? = some w ∧ x = V.ref t ∧ v = Value.ref t ∧ IsTup s.heap t #[.int w.1 t1, .int w.2 t2] := by
    intro i v hv
    have hi : i < its.length := (List.getElem?_eq_some_iff.mp hv).1
    have hx : xs[i]? = some (xs[i]'(by omega)) := List.getElem?_eq_getElem (by omega)
    obtain ⟨w, t, h1, h2, h3⟩ := hat i _ hx
    obtain ⟨v', hv', rr⟩ := rv.get hx
    rw [hv] at hv'
    cases hv'
    rw [h2] at rr
    obtain ⟨its2, r2, ht, _⟩ := I.tuple h3
    obtain ⟨u1, u2, rfl, ri, rj⟩ := vals2 r2
    obtain ⟨t1, rfl⟩ := ri
    obtain ⟨t2, rfl⟩ := rj
    exact ⟨_, w, t, t1, t2, hx, h1, h2, rr, ht⟩
  have all : ∀ (k : Nat) (l : List Value) (m : List (Int × Int)), its.drop k = l → (p :: ps).drop k = m → ReadsAll s.heap l (m.map PySem.W.Datum.toD) [] := by
    intro k l
    induction l generalizing k with
    | nil =>
      intro m h1 h2
      have : its.length ≤ k := List.drop_eq_nil_iff.mp h1
      have : m = [] := by rw [← h2]; exact List.drop_eq_nil_iff.mpr (by omega)
      subst this
      exact ReadsAll.nil
    | cons v l ih =>
      intro m h1 h2
      have hv : its[k]? = some v := by rw [← List.head?_drop, h1]; rfl
      obtain ⟨x, w, t, t1, t2, hx, hw, ex, ev, ht⟩ := at' k v hv
      have hm : m = w :: (p :: ps).drop (k + 1) := by
        rw [← h2]
        have hk : k < (p :: ps).length := (List.getElem?_eq_some_iff.mp hw).1
        rw [List.drop_eq_getElem_cons hk]
        congr 1
        exact (List.getElem?_eq_some_iff.mp hw).2
      subst hm
      rw [ev]
      refine ReadsAll.cons (as := []) (bs := []) (isTup_reads ht) (ih (k + 1) _ ?_ rfl)
      rw [← List.drop_drop, h1]; rfl
  refine PySem.W.min_list_datum (x := p) (xs := ps) (I.ok.hd hc) hl.isList ⟨[], all 0 _ _ rfl rfl⟩ ?_ fun i v h' tk hv hh hk => ?_
  · have : PySem.W.Datum.depth (Int × Int) ≤ 8 := by decide
    show X.A.units + 1 + _ < _
    omega
  have hv' : its[i]? = some v := by rw [← hv]; simp
  obtain ⟨x, w, t, t1, t2, hx, hw, ex, ev, ht⟩ := at' i v hv'
  rw [ev] at hh
  have e := isTup_holds (ht.keeps hk) hh
  refine ⟨x, H, I.kept hk, ?_, q i x hx (by rw [hw, e])⟩
  rw [ex, ev]
  rfl
end
end L2

namespace PL
open PySem PySem.Spec PyProof.Rows L2
def cSl (W : Wd) (r : AV → Option Int → Option Int → AH → AQ → Prop) : V → Option Int → Option Int → Hp → VK → Prop := fun x lo hi H Q => ∃ ax h, RH W h H ∧ Rep W.K H ax x ∧ r ax lo hi h (cQ W H Q)
def cCall (W : Wd) (r : List AV → AH → AQ → Prop) : List V → Hp → VK → Prop := fun xs H Q => ∃ axs h, RH W h H ∧ Reps W.K H axs xs ∧ r axs h (cQ W H Q)
def cMt (W : Wd) (r : AV → List AV → AH → AQ → Prop) : V → List V → Hp → VK → Prop := fun x xs H Q => ∃ ax axs h, RH W h H ∧ Rep W.K H ax x ∧ Reps W.K H axs xs ∧ r ax axs h (cQ W H Q)
section
variable {X : Cx} {T : Tb}
theorem acut_rep {K : PySem.W.Frag} {H : Hp} {xs : List AV} {vs : List V} (k : Reps K H xs vs) (lo hi : Option Int) : Reps K H (acut xs lo hi) (cutV vs lo hi) := by
  unfold acut cutV
  rw [k.length]
  exact (k.drop _).take _
theorem acut_whole {xs : List AV} {lo hi : Option Int} (h : HT.sIx xs.length 0 lo = 0 ∧ HT.sIx xs.length xs.length hi = xs.length) : acut xs lo hi = xs := by
  unfold acut
  rw [h.1, h.2]
  simp
theorem x_sl : SlR X (cSl (wd X T) slR) := by
  intro pins s σ H x v vl vu lo hi sl Q I rx hs pl pu q
  obtain ⟨ax, h, rh, r1, q⟩ := q
  cases ax with
  | tup xs =>
    obtain ⟨a, vs, ex, t, k⟩ := rep_tupT r1
    refine sl_tupP pins s σ H x v vl vu lo hi sl Q I rx hs pl pu ⟨a, vs, ex, t, fun hw => ?_, fun _ p o hp ho => cQ.tupN q rh hp ho (acut_rep k lo hi)⟩
    rw [k.length] at hw
    have q' : cQ (wd X T) H Q (.tup (acut xs lo hi)) h := q
    rw [acut_whole hw] at q'
    rw [← ex]
    exact q'.here rh r1
  | rl xs =>
    obtain ⟨a, vs, ex, t, k⟩ := rep_rl.mp r1
    exact sl_list pins s σ H x v vl vu lo hi sl Q I rx hs pl pu ⟨a, vs, ex, t.sq, fun p hp => cQ.lstN q rh hp (acut_rep k lo hi)⟩
  | ref a =>
    obtain ⟨xs, e, q⟩ := q
    obtain ⟨vs, h1, k⟩ := rh.lst e
    exact sl_list pins s σ H x v vl vu lo hi sl Q I rx hs pl pu ⟨a, vs, rep_ref.mp r1, SqL.of h1, fun p hp => cQ.lstN q rh hp (acut_rep k lo hi)⟩
  | _ => exact False.elim q

theorem bls_rep {K : PySem.W.Frag} {H : Hp} : ∀ {xs : List AV} {bs : List Bool} {vs : List V}, bls? xs = some bs → Reps K H xs vs → vs = bs.map V.bl
  | [], bs, vs, e, k => by cases e; exact reps_nil.mp k
  | .bl b :: r, bs, vs, e, k => by
    obtain ⟨v, w, rfl, a, q⟩ := reps_cons.mp k
    have e' : (bls? r).map (b :: ·) = some bs := e
    obtain ⟨cs, e1, rfl⟩ := Option.map_eq_some_iff.mp e'
    rw [rep_bl.mp a, bls_rep e1 q]; rfl
  | .non :: _, _, _, e, _ => by cases e
  | .int _ :: _, _, _, e, _ => by cases e
  | .str _ :: _, _, _, e, _ => by cases e
  | .tup _ :: _, _, _, e, _ => by cases e
  | .rl _ :: _, _, _, e, _ => by cases e
  | .ref _ :: _, _, _, e, _ => by cases e
theorem ints_rep {K : PySem.W.Frag} {H : Hp} : ∀ {xs : List AV} {bs : List Int} {vs : List V}, ints? xs = some bs → Reps K H xs vs → vs = bs.map V.int
  | [], bs, vs, e, k => by cases e; exact reps_nil.mp k
  | .int b :: r, bs, vs, e, k => by
    obtain ⟨v, w, rfl, a, q⟩ := reps_cons.mp k
    have e' : (ints? r).map (b :: ·) = some bs := e
    obtain ⟨cs, e1, rfl⟩ := Option.map_eq_some_iff.mp e'
    rw [rep_int.mp a, ints_rep e1 q]; rfl
  | .non :: _, _, _, e, _ => by cases e
  | .bl _ :: _, _, _, e, _ => by cases e
  | .str _ :: _, _, _, e, _ => by cases e
  | .tup _ :: _, _, _, e, _ => by cases e
  | .rl _ :: _, _, _, e, _ => by cases e
  | .ref _ :: _, _, _, e, _ => by cases e
theorem reps1 {K : PySem.W.Frag} {H : Hp} {x : AV} {vs : List V} (k : Reps K H [x] vs) : ∃ v, vs = [v] ∧ Rep K H x v := by
  obtain ⟨v, r, rfl, a, b⟩ := reps_cons.mp k
  rw [reps_nil.mp b]
  exact ⟨v, rfl, a⟩
theorem reps2 {K : PySem.W.Frag} {H : Hp} {x y : AV} {vs : List V} (k : Reps K H [x, y] vs) : ∃ v w, vs = [v, w] ∧ Rep K H x v ∧ Rep K H y w := by
  obtain ⟨v, r, rfl, a, b⟩ := reps_cons.mp k
  obtain ⟨w, rfl, c⟩ := reps1 b
  exact ⟨v, w, rfl, a, c⟩
def bltNm : Blt → Str
  | .len => "len" | .abs => "abs" | .int => "int" | .str => "str" | .tuple => "tuple" | .list => "list" | .dict => "dict" | .sorted => "sorted" | .sum => "sum" | .max => "max" | .min => "min" | .all => "all" | .any => "any" | .bool => "bool" | .repr => "repr" | .set => "set"
def bltVal : Blt → Value
  | .len => .builtin "len" | .abs => .builtin "abs" | .int => .type "int" | .str => .type "str" | .tuple => .type "tuple" | .list => .type "list" | .dict => .type "dict" | .sorted => .builtin "sorted" | .sum => .builtin "sum" | .max => .builtin "max" | .min => .builtin "min" | .all => .builtin "all" | .any => .builtin "any" | .bool => .type "bool" | .repr => .builtin "repr" | .set => .type "set"
theorem b_len : CallR X (.builtin "len") (cCall (wd X T) (bltR .len)) := by
  intro pins s σ H xs us Q I r q
  obtain ⟨axs, h, rh, k, q⟩ := q
  obtain ⟨ax, rfl, q⟩ := one_ex q
  obtain ⟨x, rfl, r1⟩ := reps1 k
  cases ax with
  | tup ys =>
    obtain ⟨a, vs, rfl, t, k2⟩ := rep_tupT r1
    exact call_len_seq pins s σ H _ us Q I r ⟨a, vs, rfl, .inr t, by rw [k2.length]; exact cQ.int q rh⟩
  | rl ys =>
    obtain ⟨a, vs, rfl, t, k2⟩ := rep_rl.mp r1
    exact call_len_seq pins s σ H _ us Q I r ⟨a, vs, rfl, .inl t.sq, by rw [k2.length]; exact cQ.int q rh⟩
  | str z =>
    obtain ⟨hl, q⟩ := q
    rw [rep_str.mp r1] at r
    exact call_len pins s σ H _ us Q I r ⟨.str z, z.length, rfl, ⟨hl, rfl⟩, cQ.int q rh⟩
  | ref a =>
    rw [rep_ref.mp r1] at r
    rcases q with ⟨ys, e, q⟩ | ⟨kvs, e, q⟩
    · obtain ⟨vs, h1, k2⟩ := rh.lst e
      exact call_len_seq pins s σ H _ us Q I r ⟨a, vs, rfl, .inl (SqL.of h1), by rw [k2.length]; exact cQ.int q rh⟩
    · obtain ⟨vs, h1, k2⟩ := rh.dK e
      refine call_lenD pins s σ H _ us Q I r ⟨a, _, rfl, h1, ?_⟩
      have := k2.length
      rw [List.length_zip, List.length_map, this, List.length_map, Nat.min_self]
      exact cQ.int q rh
  | _ => exact False.elim q
theorem b_abs : CallR X (.builtin "abs") (cCall (wd X T) (bltR .abs)) := by
  intro pins s σ H xs us Q I r q
  obtain ⟨axs, h, rh, k, q⟩ := q
  obtain ⟨ax, rfl, q⟩ := one_ex q
  obtain ⟨x, rfl, r1⟩ := reps1 k
  cases ax with
  | int i => exact call_abs pins s σ H _ us Q I r ⟨i, by rw [rep_int.mp r1], cQ.int q rh⟩
  | _ => exact False.elim q
theorem b_int : CallR X (.type "int") (cCall (wd X T) (bltR .int)) := by
  intro pins s σ H xs us Q I r q
  obtain ⟨axs, h, rh, k, q⟩ := q
  obtain ⟨ax, rfl, q⟩ := one_ex q
  obtain ⟨x, rfl, r1⟩ := reps1 k
  cases ax with
  | int i => exact call_int1 pins s σ H _ us Q I r (.inl ⟨i, by rw [rep_int.mp r1], cQ.int q rh⟩)
  | bl i => exact call_int1 pins s σ H _ us Q I r (.inr ⟨i, by rw [rep_bl.mp r1], cQ.int q rh⟩)
  | _ => exact False.elim q
theorem b_tuple : CallR X (.type "tuple") (cCall (wd X T) (bltR .tuple)) := by
  intro pins s σ H xs us Q I r q
  obtain ⟨axs, h, rh, k, q⟩ := q
  obtain ⟨ax, rfl, q⟩ := one_ex q
  obtain ⟨x, rfl, r1⟩ := reps1 k
  cases ax with
  | ref a =>
    obtain ⟨ys, e, q⟩ := q
    obtain ⟨vs, h1, k2⟩ := rh.lst e
    exact call_tupleP pins s σ H _ us Q I r ⟨a, vs, by rw [rep_ref.mp r1], SqL.of h1, fun p o hp ho => cQ.tupN q rh hp ho k2⟩
  | tup ys =>
    obtain ⟨a, vs, rfl, t, k2⟩ := rep_tupT r1
    exact call_tuple_of pins s σ H _ us Q I r ⟨a, vs, rfl, .inr ⟨t, cQ.here (W := wd X T) q rh r1⟩⟩
  | _ => exact False.elim q
theorem b_list : CallR X (.type "list") (cCall (wd X T) (bltR .list)) := by
  intro pins s σ H xs us Q I r q
  obtain ⟨axs, h, rh, k, q⟩ := q
  obtain ⟨ax, rfl, q⟩ := one_ex q
  obtain ⟨x, rfl, r1⟩ := reps1 k
  cases ax with
  | ref a =>
    obtain ⟨ys, e, q⟩ := q
    obtain ⟨vs, h1, k2⟩ := rh.lst e
    exact call_list_of pins s σ H _ us Q I r ⟨a, vs, by rw [rep_ref.mp r1], .inl (SqL.of h1), fun p hp => cQ.lstN q rh hp k2⟩
  | tup ys =>
    obtain ⟨a, vs, rfl, t, k2⟩ := rep_tupT r1
    exact call_list_of pins s σ H _ us Q I r ⟨a, vs, rfl, .inr t, fun p hp => cQ.lstN q rh hp k2⟩
  | _ => exact False.elim q
theorem b_all (hc : X.calm = true) : CallR X (.builtin "all") (cCall (wd X T) (bltR .all)) := by
  intro pins s σ H xs us Q I r q
  obtain ⟨axs, h, rh, k, q⟩ := q
  obtain ⟨ax, rfl, q⟩ := one_ex q
  obtain ⟨x, rfl, r1⟩ := reps1 k
  cases ax with
  | ref a =>
    obtain ⟨ys, bs, e, eb, q⟩ := q
    obtain ⟨vs, h1, k2⟩ := rh.lst e
    exact cr_all hc pins s σ H _ us Q I r ⟨a, bs, by rw [rep_ref.mp r1], by rw [← bls_rep eb k2]; exact SqL.of h1, cQ.bl q rh⟩
  | _ => exact False.elim q
theorem b_any (hc : X.calm = true) : CallR X (.builtin "any") (cCall (wd X T) (bltR .any)) := by
  intro pins s σ H xs us Q I r q
  obtain ⟨axs, h, rh, k, q⟩ := q
  obtain ⟨ax, rfl, q⟩ := one_ex q
  obtain ⟨x, rfl, r1⟩ := reps1 k
  cases ax with
  | ref a =>
    obtain ⟨ys, bs, e, eb, q⟩ := q
    obtain ⟨vs, h1, k2⟩ := rh.lst e
    exact cr_any hc pins s σ H _ us Q I r ⟨a, bs, by rw [rep_ref.mp r1], by rw [← bls_rep eb k2]; exact SqL.of h1, cQ.bl q rh⟩
  | _ => exact False.elim q
theorem b_sum (hc : X.calm = true) : CallR X (.builtin "sum") (cCall (wd X T) (bltR .sum)) := by
  intro pins s σ H xs us Q I r q
  obtain ⟨axs, h, rh, k, q⟩ := q
  obtain ⟨ax, rfl, q⟩ := one_ex q
  obtain ⟨x, rfl, r1⟩ := reps1 k
  cases ax with
  | ref a =>
    obtain ⟨ys, bs, e, eb, q⟩ := q
    obtain ⟨vs, h1, k2⟩ := rh.lst e
    exact cr_sum hc pins s σ H _ us Q I r ⟨a, bs, by rw [rep_ref.mp r1], by rw [← ints_rep eb k2]; exact SqL.of h1, cQ.int q rh⟩
  | _ => exact False.elim q
theorem b_max (hc : X.calm = true) : CallR X (.builtin "max") (cCall (wd X T) (bltR .max)) := by
  intro pins s σ H xs us Q I r q
  obtain ⟨axs, h, rh, k, q⟩ := q
  match axs, k, q with
  | [x], k, q =>
    obtain ⟨w, rfl, r1⟩ := reps1 k
    cases x with
    | ref a =>
      obtain ⟨ns, hne, e, q⟩ := q
      obtain ⟨vs, h1, k2⟩ := rh.lst e
      obtain rfl := Reps.ints.mp k2
      exact cr_max hc pins s σ H _ us Q I r ⟨a, ns, by rw [rep_ref.mp r1], SqL.of h1, List.length_pos_iff.mpr hne, fun m hm hy => cQ.int (q m hm hy) rh⟩
    | _ => exact False.elim q
  | [x0, y0], k, q =>
  obtain ⟨i, j, rfl, rfl, q2⟩ := q
  obtain ⟨x, y, rfl, r1, r2⟩ := reps2 k
  exact call_max2 hc pins s σ H _ us Q I r ⟨i, j, by rw [rep_int.mp r1, rep_int.mp r2], cQ.int q2 rh⟩
theorem foldMin (p : Int × Int) : ∀ ps : List (Int × Int), PySem.W.minOf p ps ∈ p :: ps ∧ ∀ q ∈ p :: ps, (PySem.W.minOf p ps).1 ≤ q.1 := by
  intro ps
  unfold PySem.W.minOf
  induction ps generalizing p with
  | nil => exact ⟨List.mem_cons_self, fun q hq => by rw [List.mem_singleton.mp hq]; exact Int.le_refl _⟩
  | cons q ps ih =>
    rw [List.foldl_cons]
    by_cases h : PySem.W.DatumOrd.lt q p = true
    · rw [if_pos h]
      have hqp : q.1 ≤ p.1 := by
        have h : (if q.1 = p.1 then PySem.W.DatumOrd.lt q.2 p.2 else PySem.W.DatumOrd.lt q.1 p.1) = true := h
        by_cases e : q.1 = p.1
        · omega
        · rw [if_neg e] at h
          have h : decide (q.1 < p.1) = true := h
          have := of_decide_eq_true h
          omega
      obtain ⟨h1, h2⟩ := ih q
      refine ⟨List.mem_cons_of_mem _ h1, fun r hr => ?_⟩
      rcases List.mem_cons.mp hr with rfl | hr
      · exact Int.le_trans (h2 q List.mem_cons_self) hqp
      · exact h2 r hr
    · rw [if_neg h]
      have hpq : p.1 ≤ q.1 := by
        apply Int.not_lt.mp
        intro hlt
        apply h
        show (if q.1 = p.1 then PySem.W.DatumOrd.lt q.2 p.2 else PySem.W.DatumOrd.lt q.1 p.1) = true
        rw [if_neg (by omega)]
        show decide (q.1 < p.1) = true
        exact decide_eq_true hlt
      obtain ⟨h1, h2⟩ := ih p
      refine ⟨?_, fun r hr => ?_⟩
      · rcases List.mem_cons.mp h1 with e | h1
        · rw [e]; exact List.mem_cons_self
        · exact List.mem_cons_of_mem _ (List.mem_cons_of_mem _ h1)
      · rcases List.mem_cons.mp hr with rfl | hr
        · exact h2 r List.mem_cons_self
        · rcases List.mem_cons.mp hr with rfl | hr
          · exact Int.le_trans (h2 p List.mem_cons_self) hpq
          · exact h2 r (List.mem_cons_of_mem _ hr)
theorem ips_rep {K : PySem.W.Frag} {H : Hp} : ∀ {ps : List (Int × Int)} {vs : List V}, Reps K H (ps.map prI) vs → IPs K H vs ps
  | [], vs, r => by rw [reps_nil.mp r]; trivial
  | p :: ps, vs, r => by
    obtain ⟨v, ws, rfl, r1, r2⟩ := reps_cons.mp r
    refine ⟨?_, ips_rep r2⟩
    obtain ⟨t, us, rfl, ht, rv⟩ := rep_tup.mp r1
    obtain ⟨v1, vs1, rfl, a1, a2⟩ := reps_cons.mp rv
    obtain ⟨v2, rfl, a3⟩ := reps1 a2
    rw [rep_int.mp a1, rep_int.mp a3] at ht
    exact ⟨t, rfl, ht.sq⟩
theorem reps_at {K : PySem.W.Frag} {H : Hp} : ∀ {xs : List AV} {vs : List V}, Reps K H xs vs → ∀ (i : Nat) {x : AV} {v : V}, xs[i]? = some x → vs[i]? = some v → Rep K H x v
  | [], vs, r, i, x, v, hx, _ => by simp at hx
  | y :: xs, vs, r, i, x, v, hx, hv => by
    obtain ⟨w, ws, rfl, r1, r2⟩ := reps_cons.mp r
    cases i with
    | zero =>
      have e1 : y = x := by simpa using hx
      have e2 : w = v := by simpa using hv
      rw [← e1, ← e2]; exact r1
    | succ i => exact reps_at r2 i (by simpa using hx) (by simpa using hv)
theorem b_min (hc : X.calm = true) (hu : X.A.units + 80 < cLine) : CallR X (.builtin "min") (cCall (wd X T) (bltR .min)) := by
  intro pins s σ H xs us Q I r q
  obtain ⟨axs, h, rh, k, q⟩ := q
  match axs, q, k with
  | [x, y], q, k =>
    obtain ⟨i, j, rfl, rfl, q2⟩ := q
    obtain ⟨x, y, rfl, r1, r2⟩ := reps2 k
    exact call_min2 hc pins s σ H _ us Q I r ⟨i, j, by rw [rep_int.mp r1, rep_int.mp r2], cQ.int q2 rh⟩
  | [x], q, k =>
    obtain ⟨v, rfl, r1⟩ := reps1 k
    cases x with
    | ref a =>
      have ea := rep_ref.mp r1
      obtain ⟨ps, ne, e, q⟩ := q
      obtain ⟨vs, h1, k2⟩ := rh.lst e
      cases ps with
      | nil => exact absurd rfl ne
      | cons p ps =>
        obtain ⟨m1, m2⟩ := foldMin p ps
        refine cr_minP hc (by omega) pins s σ H _ us Q I r ⟨a, vs, p, ps, by rw [ea], SqL.of h1, ips_rep k2, fun i x hx hp => ?_⟩
        exact q _ m1 m2 _ _ (TLe.refl) rh (reps_at k2 i (by rw [List.getElem?_map, hp]; rfl) hx)
    | _ => exact False.elim q
theorem strs_rep {K : PySem.W.Frag} {H : Hp} : ∀ {xs : List AV} {ns : List Str} {vs : List V}, strs? xs = some ns → Reps K H xs vs → vs = ns.map V.str
  | [], ns, vs, e, r => by
    unfold strs? at e
    cases e
    rw [reps_nil.mp r]; rfl
  | x :: xs, ns, vs, e, r => by
    obtain ⟨v, w, rfl, a, b⟩ := reps_cons.mp r
    cases x with
    | str t =>
      unfold strs? at e
      obtain ⟨ms, e1, rfl⟩ := Option.map_eq_some_iff.mp e
      rw [rep_str.mp a, strs_rep e1 b]; rfl
    | _ => unfold strs? at e; cases e
theorem reps_strs {K : PySem.W.Frag} {H : Hp} : ∀ {ys : List Str}, Reps K H (ys.map AV.str) (ys.map V.str)
  | [] => reps_nil.mpr rfl
  | y :: ys => reps_cons.mpr ⟨_, _, rfl, rep_str.mpr rfl, reps_strs⟩
theorem reps_nums {K : PySem.W.Frag} {H : Hp} : ∀ {ys : List Int}, Reps K H (ys.map AV.int) (ys.map V.int)
  | [] => reps_nil.mpr rfl
  | y :: ys => reps_cons.mpr ⟨_, _, rfl, rep_int.mpr rfl, reps_nums⟩
theorem zip_fst {K : PySem.W.Frag} {H : Hp} {kvs : List (Key × AV)} {vs : List V} (k : Reps K H (kvs.map (·.2)) vs) : ((kvs.map (·.1)).zip vs).map (·.1) = kvs.map (·.1) := by
  have hl := k.length
  rw [List.length_map] at hl
  exact List.map_fst_zip (by rw [List.length_map, hl]; exact Nat.le_refl _)
theorem sps_rep {K : PySem.W.Frag} {H : Hp} : ∀ {xs : List AV} {vs : List V}, Reps K H xs vs → (∀ x ∈ xs, pairA x) → SPs K H vs (xs.map keyA)
  | [], vs, r, _ => by rw [reps_nil.mp r]; trivial
  | x :: xs, vs, r, p => by
    obtain ⟨v, ys, rfl, r1, r2⟩ := reps_cons.mp r
    refine ⟨?_, sps_rep r2 fun z hz => p z (List.mem_cons_of_mem _ hz)⟩
    match x, p x List.mem_cons_self, r1 with
    | .tup [.str s, y], _, r1 =>
      obtain ⟨t, vs, rfl, ht, rv⟩ := rep_tup.mp r1
      obtain ⟨v1, vs1, rfl, r1, r2⟩ := reps_cons.mp rv
      obtain ⟨v2, rfl, r3⟩ := reps1 r2
      have e1 := rep_str.mp r1
      subst e1
      exact ⟨t, v2, rfl, ht.sq⟩
theorem reps_perm {K : PySem.W.Frag} {H : Hp} {k : V → Str} {xs : List AV} {vs ws : List V} (r : Reps K H xs vs) (ek : xs.map keyA = vs.map k) (p : ws.Perm vs) : ∃ ys : List AV, ys.Perm xs ∧ Reps K H ys ws ∧ ys.map keyA = ws.map k := by
  have p' := p.symm
  clear p
  induction p' generalizing xs with
  | nil => exact ⟨xs, List.Perm.refl _, r, ek⟩
  | cons x p ih =>
    cases xs with
    | nil => cases reps_nil.mp r
    | cons a as =>
      obtain ⟨y, ys, e, r1, r2⟩ := reps_cons.mp r
      cases e
      rw [List.map_cons, List.map_cons] at ek
      obtain ⟨ea, ek⟩ := List.cons.inj ek
      obtain ⟨bs, pb, rb, eb⟩ := ih r2 ek
      exact ⟨a :: bs, pb.cons a, reps_cons.mpr ⟨_, _, rfl, r1, rb⟩, by rw [List.map_cons, List.map_cons, ea, eb]⟩
  | swap x y l =>
    cases xs with
    | nil => cases reps_nil.mp r
    | cons a as =>
      obtain ⟨_, _, e, r1, r2⟩ := reps_cons.mp r
      cases e
      cases as with
      | nil => cases reps_nil.mp r2
      | cons b bs =>
        obtain ⟨_, _, e, r3, r4⟩ := reps_cons.mp r2
        cases e
        simp only [List.map_cons] at ek
        obtain ⟨ea, ek⟩ := List.cons.inj ek
        obtain ⟨eb, ek⟩ := List.cons.inj ek
        exact ⟨b :: a :: bs, List.Perm.swap a b bs, reps_cons.mpr ⟨_, _, rfl, r3, reps_cons.mpr ⟨_, _, rfl, r1, r4⟩⟩, by simp only [List.map_cons, ea, eb, ek]⟩
  | trans p q ihp ihq =>
    obtain ⟨as, pa, ra, ea⟩ := ihp r ek
    obtain ⟨bs, pb, rb, eb⟩ := ihq ra ea
    exact ⟨bs, pb.trans pa, rb, eb⟩
theorem str_ext {a b : Str} (h : a.cps.toList = b.cps.toList) : a = b := by
  cases a; cases b
  exact congrArg _ (Array.toList_inj.mp h)
theorem strict_of {as : List AV} {ys : List V} {k : V → Str} (e : as.map keyA = ys.map k) (nd : (as.map keyA).Nodup) (so : ys.Pairwise fun x y => SrtO.sB (k y) (k x) = false) : as.Pairwise fun x y => (keyA x).cps.toList < (keyA y).cps.toList := by
  have h1 : (ys.map k).Pairwise fun a b => SrtO.sB b a = false := List.pairwise_map.mpr so
  rw [← e] at h1
  have h2 : (as.map keyA).Pairwise fun a b => a ≠ b := nd
  have h3 := h1.and h2
  rw [List.pairwise_map] at h3
  refine h3.imp fun {x y} hxy => ?_
  have h4 := SrtO.sB_no.mp hxy.1
  rcases List.le_iff_lt_or_eq.mp h4 with h5 | h5
  · exact h5
  · exact absurd (str_ext h5) hxy.2
theorem b_sorted (hc : X.calm = true) : CallR X (.builtin "sorted") (cCall (wd X T) (bltR .sorted)) := by
  intro pins s σ H xs us Q I r q
  obtain ⟨axs, h, rh, k, q⟩ := q
  obtain ⟨ax, rfl, q⟩ := one_ex q
  obtain ⟨x, rfl, r1⟩ := reps1 k
  cases ax with
  | ref a =>
    have ea := rep_ref.mp r1
    rcases q with ⟨xs, ns, e, e2, l, q⟩ | ⟨xs, ns, e, e2, q⟩ | ⟨kvs, ns, e, e2, l, q⟩ | ⟨kvs, ns, e, e2, l, q⟩ | ⟨xs, e, e2, e3, q⟩
    · obtain ⟨vs, h1, k2⟩ := rh.lst e
      exact cr_sortedS pins s σ H _ us Q I r ⟨a, ns, by rw [ea], by rw [← strs_rep e2 k2]; exact SqL.of h1, l, fun ys p pm so hp => cQ.lstN (q ys pm so) rh hp reps_strs⟩
    · obtain ⟨vs, h1, k2⟩ := rh.lst e
      exact cr_sortedI pins s σ H _ us Q I r ⟨a, ns, by rw [ea], by rw [← ints_rep e2 k2]; exact SqL.of h1, fun ys p pm so hp => cQ.lstN (q ys pm so) rh hp reps_nums⟩
    · obtain ⟨vs, h1, k2⟩ := rh.dK e
      exact call_sortedD hc pins s σ H _ us Q I r ⟨a, _, ns, by rw [ea], .inl h1, by rw [zip_fst k2]; exact e2, l, fun ys p pm so hp => cQ.lstN (q ys pm so) rh hp reps_strs⟩
    · obtain ⟨vs, h1, k2⟩ := rh.dK e
      exact call_sortedDI hc pins s σ H _ us Q I r ⟨a, _, ns, by rw [ea], .inl h1, by rw [zip_fst k2]; exact e2, l, fun ys p pm so hp => cQ.lstN (q ys pm so) rh hp reps_nums⟩
    · obtain ⟨vs, h1, k2⟩ := rh.lst e
      refine cr_sortedSP pins s σ H _ us Q I r ⟨a, vs, xs.map keyA, by rw [ea], SqL.of h1, sps_rep k2 e2, e3, fun ys k p ek so pm hp => ?_⟩
      obtain ⟨as, pa, ra, eas⟩ := reps_perm k2 ek.symm pm
      exact cQ.lstN (q as pa (strict_of eas ((pa.map keyA).nodup_iff.mpr e3) so)) rh hp ra
  | _ => exact False.elim q
theorem pairs_rep {K : PySem.W.Frag} {H : Hp} : ∀ {xs : List AV} {ps : List (Key × AV)} {vs : List V}, pairs? xs = some ps → Reps K H xs vs →
    ∃ (as : List Addr) (ws : List V), vs = as.map V.ref ∧ Paired (fun p kv => SqT K H p [kV kv.1, kv.2]) as ((ps.map (·.1)).zip ws) ∧ Reps K H (ps.map (·.2)) ws
  | [], ps, vs, e, r => by
    unfold pairs? at e
    cases e
    rw [reps_nil.mp r]
    exact ⟨[], [], rfl, .nil, reps_nil.mpr rfl⟩
  | x :: xs, ps, vs, e, r => by
    obtain ⟨v, w, rfl, a, b⟩ := reps_cons.mp r
    unfold pairs? at e
    split at e
    · rename_i heq; cases heq
    · rename_i k z rest heq
      cases heq
      split at e
      · rename_i key qs ek eq
        cases e
        obtain ⟨as, ws, rfl, pr, rs⟩ := pairs_rep eq b
        obtain ⟨t, us, rfl, st, ku⟩ := rep_tupT a
        obtain ⟨u1, r1, rfl, ra, ku⟩ := reps_cons.mp ku
        obtain ⟨u2, r2, rfl, rb, ku⟩ := reps_cons.mp ku
        cases reps_nil.mp ku
        rw [key_rep ek ra] at st
        exact ⟨t :: as, u2 :: ws, rfl, .cons st pr, reps_cons.mpr ⟨_, _, rfl, rb, rs⟩⟩
      · cases e
    · cases e
theorem merge_rel {K : PySem.W.Frag} {H : Hp} : ∀ {more acc : List (Key × AV)} {as ws : List V}, Reps K H (acc.map (·.2)) as → Reps K H (more.map (·.2)) ws →
    ∃ rs, mergeK ((acc.map (·.1)).zip as) ((more.map (·.1)).zip ws) = ((merge acc more).map (·.1)).zip rs ∧ Reps K H ((merge acc more).map (·.2)) rs
  | [], acc, as, ws, ra, rw' => by
    cases reps_nil.mp rw'
    exact ⟨as, rfl, ra⟩
  | (k, x) :: more, acc, as, ws, ra, rw' => by
    obtain ⟨v, r, rfl, rx, rr⟩ := reps_cons.mp rw'
    obtain ⟨bs, e1, rb⟩ := dput_rel (k := k) rx ra
    obtain ⟨rs, e2, rr2⟩ := merge_rel (more := more) (acc := dput acc k x) rb rr
    refine ⟨rs, ?_, rr2⟩
    show mergeK (putK ((acc.map (·.1)).zip as) k v) ((more.map (·.1)).zip r) = ((merge (dput acc k x) more).map (·.1)).zip rs
    rw [e1]
    exact e2
theorem cQ.dN {W : Wd} {H : Hp} {Q : VK} {kvs : List (Key × AV)} {rs : List V} {h : AH} {p : Addr} (q : newD h kvs (cQ W H Q)) (r : RH W h H) (hp : H p = none) (k : Reps W.K H (kvs.map (·.2)) rs) : Q (.ref p) (upd H p (.dK ((kvs.map (·.1)).zip rs))) :=
  q p (r.isNone hp) _ _ (TLe.fresh hp) (r.new hp (show RO W _ p (.dK kvs) from ⟨rs, upd_same, k.mono (TLe.fresh hp)⟩)) (rep_ref.mpr rfl)
theorem b_dict (hc : X.calm = true) : CallR X (.type "dict") (cCall (wd X T) (bltR .dict)) := by
  intro pins s σ H xs us Q I r q
  obtain ⟨axs, h, rh, k, q⟩ := q
  obtain ⟨ax, rfl, q⟩ := one_ex q
  obtain ⟨x, rfl, r1⟩ := reps1 k
  cases ax with
  | ref a =>
    have ea := rep_ref.mp r1
    rcases q with ⟨xs, ps, e, e2, q⟩ | ⟨kvs, e, q⟩
    · obtain ⟨vs, h1, k2⟩ := rh.lst e
      obtain ⟨as, ws, ev, pr, rs⟩ := pairs_rep e2 k2
      obtain ⟨ms, em, rm⟩ := merge_rel (acc := []) (as := []) (reps_nil.mpr rfl) rs
      exact call_dictP hc pins s σ H _ us Q I r ⟨a, as, _, by rw [ea], by rw [← ev]; exact SqL.of h1, pr, fun p hp => by
        have e0 : mergeK [] ((ps.map (·.1)).zip ws) = _ := em
        rw [e0]
        exact cQ.dN q rh hp rm⟩
    · obtain ⟨vs, h1, k2⟩ := rh.dK e
      exact call_dictD pins s σ H _ us Q I r ⟨a, _, by rw [ea], .inl h1, fun p hp => cQ.dN q rh hp k2⟩
  | tup xs =>
    obtain ⟨ps, e2, q⟩ := q
    obtain ⟨a, vs, ea, sp, k2⟩ := rep_tup.mp r1
    obtain ⟨as, ws, ev, pr, rs⟩ := pairs_rep e2 k2
    obtain ⟨ms, em, rm⟩ := merge_rel (acc := []) (as := []) (reps_nil.mpr rfl) rs
    exact call_dictTP hc pins s σ H _ us Q I r ⟨a, as, _, by rw [ea], by rw [← ev]; exact sp, pr, fun p hp => by
      have e0 : mergeK [] ((ps.map (·.1)).zip ws) = _ := em
      rw [e0]
      exact cQ.dN q rh hp rm⟩
  | _ => exact False.elim q
theorem b_none {f : Blt} {v : Value} (hf : ∀ axs h Q, ¬ bltR f axs h Q) : CallR X v (cCall (wd X T) (bltR f)) := fun pins s σ H xs us Q I r ⟨axs, h, rh, k, q⟩ => absurd q (hf _ _ _)
theorem b_blt (hc : X.calm = true) (hu : X.A.units + 80 < cLine) (f : Blt) : CallR X (bltVal f) (cCall (wd X T) (bltR f)) := by
  cases f
  · exact b_len
  · exact b_abs
  · exact b_int
  · exact b_none fun axs h Q q => q
  · exact b_tuple
  · exact b_list
  · exact b_dict hc
  · exact b_sorted hc
  · exact b_sum hc
  · exact b_max hc
  · exact b_min hc hu
  · exact b_all hc
  · exact b_any hc
  · exact b_none fun axs h Q q => q
  · exact b_none fun axs h Q q => q
  · exact b_none fun axs h Q q => q
theorem boot_blt (f : Blt) : bootBuiltins (bltNm f) = some (bltVal f) := by cases f <;> decide +kernel
theorem blt_name (f : Blt) : bltNm f ≠ "__name__" ∧ (bltNm f == ("__debug__" : Str)) = false := by cases f <;> (constructor <;> decide +kernel)

theorem m_append : MtR X "list.append" (cMt (wd X T) (mthR .append)) := by
  intro pins s σ H x xs v us Q I rx r q
  obtain ⟨ax, axs, h, rh, r1, k, q⟩ := q
  obtain ⟨y, rfl, q⟩ := one_ex q
  obtain ⟨w, rfl, r2⟩ := reps1 k
  cases ax with
  | ref a =>
    obtain ⟨ys, e, hl, q⟩ := q
    obtain ⟨vs, h1, k2⟩ := rh.lst e
    have t : TLe X.K H (upd H a (.lst (vs ++ [w]))) := TLe.write h1 trivial
    exact mt_append pins s σ H x _ v us Q I rx r ⟨a, vs, w, rep_ref.mp r1, rfl, h1, by rw [k2.length]; exact hl,
      q _ _ t (rh.write h1 trivial (show RO (wd X T) _ a (.lst (ys ++ [y])) from ⟨_, upd_same, (k2.append (Reps.one r2)).mono t⟩)) (rep_non.mpr rfl)⟩
  | _ => exact False.elim q
theorem m_extend : MtR X "list.extend" (cMt (wd X T) (mthR .extend)) := by
  intro pins s σ H x xs v us Q I rx r q
  obtain ⟨ax, axs, h, rh, r1, k, q⟩ := q
  obtain ⟨y, rfl, q⟩ := one_ex q
  obtain ⟨w, rfl, r2⟩ := reps1 k
  obtain ⟨a, b, ys, zs, rfl, rfl, e1, e2, hl, q⟩ := q
  obtain ⟨vs, h1, k1⟩ := rh.lst e1
  obtain ⟨ws, h2, k2⟩ := rh.lst e2
  have t : TLe X.K H (upd H a (.lst (vs ++ ws))) := TLe.write h1 trivial
  exact mt_extend pins s σ H x _ v us Q I rx r ⟨a, b, vs, ws, rep_ref.mp r1, by rw [rep_ref.mp r2], h1, h2, by rw [k1.length, k2.length]; exact hl,
    q _ _ t (rh.write h1 trivial (show RO (wd X T) _ a (.lst (ys ++ zs)) from ⟨_, upd_same, (k1.append k2).mono t⟩)) (rep_non.mpr rfl)⟩
theorem reps_snoc {K : PySem.W.Frag} {H : Hp} : ∀ {xs : List AV} {y : AV} {vs : List V}, Reps K H (xs ++ [y]) vs → ∃ ws w, vs = ws ++ [w] ∧ Reps K H xs ws ∧ Rep K H y w
  | [], y, vs, k => by
    obtain ⟨v, rfl, r⟩ := reps1 k
    exact ⟨[], v, rfl, reps_nil.mpr rfl, r⟩
  | x :: xs, y, vs, k => by
    obtain ⟨v, r, rfl, a, b⟩ := reps_cons.mp k
    obtain ⟨ws, w, rfl, c, d⟩ := reps_snoc b
    exact ⟨v :: ws, w, rfl, reps_cons.mpr ⟨v, ws, rfl, a, c⟩, d⟩
theorem m_pop : MtR X "list.pop" (cMt (wd X T) (mthR .pop)) := by
  intro pins s σ H x xs v us Q I rx r q
  obtain ⟨ax, axs, h, rh, r1, k, q⟩ := q
  rcases q with ⟨rfl, q⟩ | ⟨rfl, q⟩
  · have e0 := reps_nil.mp k
    subst e0
    cases ax with
    | ref a =>
      obtain ⟨ys, y, e, q⟩ := q
      obtain ⟨vs, h1, k2⟩ := rh.lst e
      obtain ⟨ws, w, rfl, k3, r3⟩ := reps_snoc k2
      have t : TLe X.K H (upd H a (.lst ws)) := TLe.write h1 trivial
      refine mt_pop pins s σ H x _ v us Q I rx r ⟨a, ws ++ [w], w, rep_ref.mp r1, rfl, h1, by simp, ?_⟩
      rw [List.dropLast_concat]
      exact q _ _ t (rh.write h1 trivial (show RO (wd X T) _ a (.lst ys) from ⟨_, upd_same, k3.mono t⟩)) (r3.mono t)
    | _ => exact False.elim q
  · obtain ⟨iv, rfl, ri⟩ := reps1 k
    obtain rfl := rep_int.mp ri
    cases ax with
    | ref a =>
      obtain ⟨ys, y, e, q⟩ := q
      obtain ⟨vs, h1, k2⟩ := rh.lst e
      obtain ⟨w, ws, rfl, r3, k3⟩ := reps_cons.mp k2
      have t : TLe X.K H (upd H a (.lst ws)) := TLe.write h1 trivial
      refine mt_popAt pins s σ H x _ v us Q I rx r ⟨a, w :: ws, 0, 0, w, rep_ref.mp r1, rfl, h1, by decide, by decide, by simp [seqIndex?], rfl, ?_⟩
      exact q _ _ t (rh.write h1 trivial (show RO (wd X T) _ a (.lst ys) from ⟨_, upd_same, k3.mono t⟩)) (r3.mono t)
    | _ => exact False.elim q
theorem m_insert : MtR X "list.insert" (cMt (wd X T) (mthR .insert)) := by
  intro pins s σ H x xs v us Q I rx r q
  obtain ⟨ax, axs, h, rh, r1, k, q⟩ := q
  obtain ⟨ai, y, rfl, q⟩ := two_ex q
  obtain ⟨wi, w, rfl, ri, r2⟩ := reps2 k
  cases ax with
  | ref a =>
    cases ai with
    | int i =>
      obtain ⟨ys, e, hl, h0, h63, q⟩ := q
      obtain ⟨vs, h1, k2⟩ := rh.lst e
      obtain rfl := rep_int.mp ri
      have t : TLe X.K H (upd H a (.lst (vs.take i.toNat ++ [w] ++ vs.drop i.toNat))) := TLe.write h1 trivial
      exact mt_insert pins s σ H x _ v us Q I rx r ⟨a, vs, i, w, rep_ref.mp r1, rfl, h1, by rw [k2.length]; exact hl, h0, h63,
        q _ _ t (rh.write h1 trivial (show RO (wd X T) _ a (.lst (ys.take i.toNat ++ [y] ++ ys.drop i.toNat)) from ⟨_, upd_same, (((k2.take _).append (Reps.one r2)).append (k2.drop _)).mono t⟩)) (rep_non.mpr rfl)⟩
    | _ => exact False.elim q
  | _ => exact False.elim q
theorem m_index : MtR X "list.index" (cMt (wd X T) (mthR .index)) := by
  intro pins s σ H x xs v us Q I rx r q
  obtain ⟨ax, axs, h, rh, r1, k, q⟩ := q
  obtain ⟨y, rfl, q⟩ := one_ex q
  obtain ⟨w, rfl, r2⟩ := reps1 k
  cases ax with
  | ref a =>
    obtain ⟨ys, j, z, e, fy, fys, ej, ez, hno, q⟩ := q
    obtain ⟨vs, h1, k2⟩ := rh.lst e
    obtain ⟨u, eu, ru⟩ := k2.get ej
    have fz : ∀ (m : Nat) (z' : AV), ys[m]? = some z' → z'.scal = true := fun m z' hm => List.all_eq_true.mp fys z' (List.mem_of_getElem? hm)
    have sc := scal_rep fy r2
    refine mt_index pins s σ H x _ v us Q I rx r ⟨a, vs, w, j, u, rep_ref.mp r1, rfl, SqL.of h1, sc.1, (scals_rep fy r2 fys k2).1, eu, by rw [sc.2 (fz _ _ ej) ru]; exact ez, fun m z' hm hz => ?_, cQ.int q rh⟩
    obtain ⟨x', ex, rx'⟩ := k2.back hz
    rw [sc.2 (fz _ _ ex) rx']
    exact hno m x' hm ex
  | _ => exact False.elim q
end
end PL

namespace PL
open PySem PySem.Spec PyProof.Rows L2

structure REnv (K : PySem.W.Frag) (H : Hp) (env : AEnv) (σ : L2.St) : Prop where
  len : env.length = σ.length
  get : ∀ (i : Nat) (av : AV), env[i]? = some (some av) → ∃ v, σ[i]? = some (some v) ∧ Rep K H av v
theorem REnv.mono {K : PySem.W.Frag} {H H' : Hp} {env : AEnv} {σ : L2.St} (r : REnv K H env σ) (t : TLe K H H') : REnv K H' env σ := ⟨r.len, fun i av e => let ⟨v, e1, a⟩ := r.get i av e; ⟨v, e1, a.mono t⟩⟩
theorem REnv.sub {K : PySem.W.Frag} {H : Hp} {env env' : AEnv} {σ : L2.St} (r : REnv K H env' σ) (l : SLe env env') : REnv K H env σ := ⟨l.1.trans r.len, fun i av e => r.get i av (l.2 i av e)⟩
theorem REnv.set {K : PySem.W.Frag} {H : Hp} {env : AEnv} {σ : L2.St} {av : AV} {v : V} (r : REnv K H env σ) (i : Nat) (a : Rep K H av v) : REnv K H (env.set i (some av)) (σ.set i (some v)) := by
  refine ⟨by rw [List.length_set, List.length_set, r.len], fun j w e => ?_⟩
  by_cases h : i = j
  · subst h
    by_cases hi : i < env.length
    · rw [List.getElem?_set_self hi] at e
      cases e
      exact ⟨v, List.getElem?_set_self (by rw [← r.len]; exact hi), a⟩
    · rw [List.getElem?_eq_none (by simpa using hi)] at e; cases e
  · rw [List.getElem?_set_ne h] at e
    obtain ⟨u, e1, b⟩ := r.get j w e
    exact ⟨u, by rw [List.getElem?_set_ne h]; exact e1, b⟩
theorem REnv.clear {K : PySem.W.Frag} {H : Hp} {env : AEnv} {σ : L2.St} (r : REnv K H env σ) (i : Nat) : REnv K H (env.set i none) (σ.set i none) := by
  refine ⟨by rw [List.length_set, List.length_set, r.len], fun j w e => ?_⟩
  by_cases h : i = j
  · subst h
    by_cases hi : i < env.length
    · rw [List.getElem?_set_self hi] at e; cases e
    · rw [List.getElem?_eq_none (by simpa using hi)] at e; cases e
  · rw [List.getElem?_set_ne h] at e
    obtain ⟨u, e1, b⟩ := r.get j w e
    exact ⟨u, by rw [List.getElem?_set_ne h]; exact e1, b⟩
theorem REnv.wipe {K : PySem.W.Frag} {H : Hp} {env : AEnv} {σ : L2.St} (r : REnv K H env σ) : ∀ l : List Nat, REnv K H (awipe env l) (wipe σ l)
  | [] => r
  | v :: vs => (REnv.wipe r vs).clear v

def RX (W : Wd) (H : Hp) (ax : AX) (cls : Value) (d : Option Addr) : Prop := cls = .ref (clsAddr W ax.cls) ∧ ax.args = [] ∧ ∃ x, W.T.cn ax.cls = some x
theorem RX.mono {W : Wd} {H H' : Hp} {ax : AX} {cls : Value} {d : Option Addr} (r : RX W H ax cls d) : RX W H' ax cls d := r
def cX (W : Wd) (Wx : WX) (σ : L2.St) (H : Hp) : AXQ := fun ax h' => ∀ cls d H', TLe W.K H H' → RH W h' H' → RX W H' ax cls d → Wx cls d σ H'
theorem cX.mono {W : Wd} {Wx : WX} {σ : L2.St} {H H' : Hp} (t : TLe W.K H H') : XLe (cX W Wx σ H) (cX W Wx σ H') := fun _ _ q cls d H2 t2 => q cls d H2 (t.trans t2)
theorem cQ.mono {W : Wd} {H H' : Hp} {Q : VK} (t : TLe W.K H H') : QLe (cQ W H Q) (cQ W H' Q) := fun _ _ q v H2 t2 => q v H2 (t.trans t2)
def bQ (W : Wd) (H : Hp) (Q : Bool → Hp → Prop) : Bool → AH → Prop := fun b h' => ∀ H', TLe W.K H H' → RH W h' H' → Q b H'
def lQ (W : Wd) (H : Hp) (Q : List V → Hp → Prop) : List AV → AH → Prop := fun avs h' => ∀ vs H', TLe W.K H H' → RH W h' H' → Reps W.K H' avs vs → Q vs H'
def pQ (W : Wd) (H : Hp) (Q : Option Int → Hp → Prop) : Option Int → AH → Prop := fun o h' => ∀ H', TLe W.K H H' → RH W h' H' → Q o H'
theorem bQ.mono {W : Wd} {H H' : Hp} {Q : Bool → Hp → Prop} (t : TLe W.K H H') : ∀ b h, bQ W H Q b h → bQ W H' Q b h := fun _ _ q H2 t2 => q H2 (t.trans t2)

abbrev AT := AEnv → AH → AQ → AXQ → Prop
abbrev ATT := AEnv → AH → (Bool → AH → Prop) → AXQ → Prop
abbrev ATA := AEnv → AH → (List AV → AH → Prop) → AXQ → Prop
def cE (W : Wd) (Wx : WX) (t : AT) : TE := fun σ H Q => ∃ env h, REnv W.K H env σ ∧ RH W h H ∧ t env h (cQ W H Q) (cX W Wx σ H)
def cT (W : Wd) (Wx : WX) (t : ATT) : TT := fun σ H Q => ∃ env h, REnv W.K H env σ ∧ RH W h H ∧ t env h (bQ W H Q) (cX W Wx σ H)
def cA (W : Wd) (Wx : WX) (t : ATA) : TA := fun σ H Q => ∃ env h, REnv W.K H env σ ∧ RH W h H ∧ t env h (lQ W H Q) (cX W Wx σ H)
def cP (W : Wd) (Wx : WX) (t : AEnv → AH → (Option Int → AH → Prop) → AXQ → Prop) : TO := fun σ H Q => ∃ env h, REnv W.K H env σ ∧ RH W h H ∧ t env h (pQ W H Q) (cX W Wx σ H)

section
variable {X : Cx}
theorem _root_.L2.PE.imp {e : Expr} {t t' : TE} (p : PE X e t) (h : ∀ σ H Q, t' σ H Q → t σ H Q) : PE X e t' := ⟨fun pins s σ H Q I q => p.run pins s σ H Q I (h σ H Q q)⟩
theorem _root_.L2.PT.imp {e : Expr} {t t' : TT} (p : PT X e t) (h : ∀ σ H Q, t' σ H Q → t σ H Q) : PT X e t' := ⟨fun pins s σ H Q I q => p.run pins s σ H Q I (h σ H Q q)⟩
theorem _root_.L2.PW.imp {e : Expr} {t t' : TT} (p : PW X e t) (h : ∀ σ H Q, t' σ H Q → t σ H Q) : PW X e t' := ⟨fun w pins s σ H Q I q => p.run w pins s σ H Q I (h σ H Q q)⟩
theorem _root_.L2.PA.imp {e : List Expr} {t t' : TA} (p : PA X e t) (h : ∀ σ H Q, t' σ H Q → t σ H Q) : PA X e t' := ⟨fun pos pins s σ H Q I q => p.run pos pins s σ H Q I (h σ H Q q)⟩
theorem _root_.L2.PO.imp {e : Option Expr} {t t' : TO} (p : PO X e t) (h : ∀ σ H Q, t' σ H Q → t σ H Q) : PO X e t' := ⟨fun pins s σ H Q I q => p.run pins s σ H Q I (h σ H Q q)⟩
end

theorem bltVal_kind (f : Blt) : (∃ id, bltVal f = .builtin id) ∨ ∃ id, bltVal f = .type id := by cases f <;> first | exact .inl ⟨_, rfl⟩ | exact .inr ⟨_, rfl⟩
def nost : Expr → Bool | .Starred .. => false | _ => true
def nosl : Expr → Bool | .Slice .. => false | _ => true
def noset : Expr → Bool | .Set .. => false | _ => true
def nolc : Expr → Bool | .ListComp .. | .SetComp .. | .DictComp .. => false | _ => true
def nocall : Expr → Bool | .Call (.Name _ _) [] [] _ => false | _ => true
def byval : Expr → Bool | .UnaryOp .Not _ _ => false | .BoolOp .. => false | .IfExp .. => false | .Compare .. => false | _ => true
theorem star_cons {e : Expr} {es : List Expr} {env : Env} (h : nost e = true) : starEach (e :: es) env = (false, eval e env) :: starEach es env := by
  cases e <;> first | rfl | cases h
theorem star_any {pos : Pos} {env : Env} : ∀ {es : List Expr}, es.all nost = true → (backTo pos (starEach es env)).any (·.1) = false
  | [], _ => rfl
  | e :: es, h => by
    rw [List.all_cons, Bool.and_eq_true] at h
    rw [star_cons h.1]
    show (false || (backTo pos (starEach es env)).any (·.1)) = false
    rw [star_any h.2]; rfl
theorem star_all {pos : Pos} {env : Env} : ∀ {es : List Expr}, es.all nost = true → (backTo pos (starEach es env)).all (fun x => !x.1) = true
  | [], _ => rfl
  | e :: es, h => by
    rw [List.all_cons, Bool.and_eq_true] at h
    rw [star_cons h.1]
    show (true && (backTo pos (starEach es env)).all (fun x => !x.1)) = true
    rw [star_all h.2]; rfl
theorem mark_no {op : CmpOp} {b : Expr} (h : noset b = true) : behindInMarks op b = false := by cases b <;> first | rfl | cases h
theorem last_no {o o' : CmpOp} {b c : Expr} (h : noset c = true) : lastMarks [o, o'] [b, c] = false := by
  show behindInMarks o' c = false
  exact mark_no h
theorem ix_plain {i : Expr} (h : nosl i = true) : PlainIx i := by
  cases i <;> first | exact fun _ _ => rfl | cases h
theorem base_plain {o : Expr} {m : Str} {env : Env} {w : Sem Value} (h : nocall o = true) : attributeBase o m env w = w := by
  unfold attributeBase
  split
  · cases h
  · rfl
theorem val_plain {e : Expr} {env : Env} (h : byval e = true) : ∀ whole, isTrue e env whole = (do let v ← whole; standAt e.pos; holding [v] (truthy v)) := by
  intro whole
  cases e with
  | UnaryOp op x p => cases op <;> first | rfl | cases h
  | _ => first | rfl | cases h

section
variable {X : Cx} {T : Tb} {C : ACall} {Wx : WX} (hC : CMono C) {a b c : CE} {ea eb ec : Expr} {pos : Pos}
theorem s_const {e : Expr} {v : V} {av : AV} {t : AT} (p : PE X e (tC v)) (hv : ∀ H, Rep X.K H av v) (ht : ∀ env h Q E, t env h Q E → Q av h) : PE X e (cE (wd X T) Wx t) :=
  p.imp fun σ H Q ⟨env, h, re, rh, q⟩ => (ht env h _ _ q).here rh (hv H)
theorem s_var {i : Nat} {x : Str} (hN : X.N[i]? = some x) (hv : Vis X.env.scope x) (hd : (x == ("__debug__" : Str)) = false) (hcd : (x == ("__classdict__" : Str)) = false) : PE X (.Name x pos) (cE (wd X T) Wx (wpE C T (.var i))) :=
  (pe_var hN hv hd hcd).imp fun σ H Q ⟨env, h, re, rh, av, e, q⟩ => by
    obtain ⟨v, e1, r⟩ := re.get i av e
    exact ⟨v, e1, cQ.here (W := (wd X T)) q rh r⟩
theorem a_nil : PA X [] (cA (wd X T) Wx (wpEs C T .nil)) := pa_nil.imp fun σ H Q ⟨env, h, re, rh, q⟩ => q [] H TLe.refl rh (reps_nil.mpr rfl)
include hC in
theorem a_cons {es : CE} {xs : List Expr} (ha : PE X ea (cE (wd X T) Wx (wpE C T a))) (hs : PA X xs (cA (wd X T) Wx (wpEs C T es))) (hn : nost ea = true) : PA X (ea :: xs) (cA (wd X T) Wx (wpEs C T (.cons a es))) :=
  (pa_cons ha hs (star_cons hn)).imp fun σ H Q ⟨env, h, re, rh, q⟩ => ⟨env, h, re, rh, wpE_mono hC a (fun av h1 q v H1 t1 r1 rv => ⟨env, h1, re.mono t1, r1,
    wpEs_mono hC es (fun avs h2 q vs H2 t2 r2 rvs => q (v :: vs) H2 (t1.trans t2) r2 (reps_cons.mpr ⟨v, vs, rfl, rv.mono t2, rvs⟩)) (cX.mono t1) q⟩) (fun _ _ z => z) q⟩
include hC in
theorem s_tup {es : CE} {xs : List Expr} {k : Nat} (hs : PA X xs (cA (wd X T) Wx (wpEs C T es))) : PE X (.Tuple xs k pos) (cE (wd X T) Wx (wpE C T (.tup es))) :=
  (pe_tupP hs).imp fun σ H Q ⟨env, h, re, rh, q⟩ => ⟨env, h, re, rh, wpEs_mono hC es (fun avs h1 q vs H1 t1 r1 rv => ⟨by rw [rv.length]; exact q.1, fun p o hp ho => cQ.tupN (cQ.mono t1 _ _ q.2) r1 hp ho rv⟩) (fun _ _ z => z) q⟩
include hC in
theorem s_lst {es : CE} {xs : List Expr} (hs : PA X xs (cA (wd X T) Wx (wpEs C T es))) : PE X (.List xs pos) (cE (wd X T) Wx (wpE C T (.lst es))) :=
  (pe_lst hs).imp fun σ H Q ⟨env, h, re, rh, q⟩ => ⟨env, h, re, rh, wpEs_mono hC es (fun avs h1 q vs H1 t1 r1 rv => ⟨by rw [rv.length]; exact q.1, fun p hp => cQ.lstN (newL_mono (cQ.mono t1) q.2) r1 hp rv⟩) (fun _ _ z => z) q⟩
theorem s_dct0 : PE X (.Dict [] [] pos) (cE (wd X T) Wx (wpE C T .dct0)) :=
  pe_dnewK.imp fun σ H Q ⟨env, h, re, rh, q⟩ => fun p hp => q p (rh.isNone hp) _ _ (TLe.fresh hp) (rh.new hp (show RO (wd X T) _ p (.dK []) from ⟨[], upd_same, reps_nil.mpr rfl⟩)) (rep_ref.mpr rfl)
include hC in
theorem s_bin {op : BOp} (ha : PE X ea (cE (wd X T) Wx (wpE C T a))) (hb : PE X eb (cE (wd X T) Wx (wpE C T b))) : PE X (.BinOp ea (bopPy op) eb pos) (cE (wd X T) Wx (wpE C T (.bin op a b))) :=
  (pe_op (o_bin op) ha hb).imp fun σ H Q ⟨env, h, re, rh, q⟩ => ⟨env, h, re, rh, wpE_mono hC a (fun x h1 q v H1 t1 r1 rv => ⟨env, h1, re.mono t1, r1,
    wpE_mono hC b (fun y h2 q w H2 t2 r2 rw' => ⟨x, y, h2, r2, rv.mono t2, rw', binR_mono (cQ.mono (t1.trans t2)) q⟩) (cX.mono t1) q⟩) (fun _ _ z => z) q⟩
include hC in
theorem s_neg (ha : PE X ea (cE (wd X T) Wx (wpE C T a))) : PE X (.UnaryOp .USub ea pos) (cE (wd X T) Wx (wpE C T (.neg a))) :=
  (pe_un un_neg ha).imp fun σ H Q ⟨env, h, re, rh, q⟩ => ⟨env, h, re, rh, wpE_mono hC a (fun x h1 ⟨i, e, q⟩ v H1 t1 r1 rv => ⟨i, by rw [e] at rv; exact rep_int.mp rv, cQ.int (cQ.mono t1 _ _ q) r1⟩) (fun _ _ z => z) q⟩
include hC in
theorem s_not (ha : PE X ea (cE (wd X T) Wx (wpE C T a))) : PE X (.UnaryOp .Not ea pos) (cE (wd X T) Wx (wpE C T (.not a))) :=
  (pe_not ha).imp fun σ H Q ⟨env, h, re, rh, q⟩ => ⟨env, h, re, rh, wpE_mono hC a (fun x h1 ⟨i, e, q⟩ v H1 t1 r1 rv => ⟨i, by rw [e] at rv; exact rep_bl.mp rv, cQ.bl (cQ.mono t1 _ _ q) r1⟩) (fun _ _ z => z) q⟩
include hC in
theorem s_cmp {op : COp} (hu : X.A.units + 80 < cLine) (ha : PE X ea (cE (wd X T) Wx (wpE C T a))) (hb : PE X eb (cE (wd X T) Wx (wpE C T b))) (hs : noset eb = true) : PE X (.Compare ea [copPy op] [eb] pos) (cE (wd X T) Wx (wpE C T (.cmp op a b))) :=
  (pe_cmpR (o_cmp (T := T) hu op) ha hb (mark_no hs)).imp fun σ H Q ⟨env, h, re, rh, q⟩ => ⟨env, h, re, rh, wpE_mono hC a (fun x h1 q v H1 t1 r1 rv => ⟨env, h1, re.mono t1, r1,
    wpE_mono hC b (fun y h2 q w H2 t2 r2 rw' => ⟨x, y, h2, r2, rv.mono t2, rw', cmpR_mono (fun r q => cQ.bl (cQ.mono (t1.trans t2) _ _ q) r2) q⟩) (cX.mono t1) q⟩) (fun _ _ z => z) q⟩
include hC in
theorem t_cmp {op : COp} (hu : X.A.units + 80 < cLine) (ha : PE X ea (cE (wd X T) Wx (wpE C T a))) (hb : PE X eb (cE (wd X T) Wx (wpE C T b))) (hs : noset eb = true) : PT X (.Compare ea [copPy op] [eb] pos) (cT (wd X T) Wx (wpT C T (.cmp op a b))) :=
  (pt_cmpR (o_cmp (T := T) hu op) ha hb (mark_no hs)).imp fun σ H Q ⟨env, h, re, rh, q⟩ => ⟨env, h, re, rh, wpE_mono hC a (fun x h1 q v H1 t1 r1 rv => ⟨env, h1, re.mono t1, r1,
    wpE_mono hC b (fun y h2 q w H2 t2 r2 rw' => ⟨x, y, h2, r2, rv.mono t2, rw', cmpR_mono (fun r q => ⟨r, rfl, q H2 (t1.trans t2) r2⟩) q⟩) (cX.mono t1) q⟩) (fun _ _ z => z) q⟩
include hC in
theorem s_chain {o o' : COp} (hu : X.A.units + 80 < cLine) (ha : PE X ea (cE (wd X T) Wx (wpE C T a))) (hb : PE X eb (cE (wd X T) Wx (wpE C T b))) (hc : PE X ec (cE (wd X T) Wx (wpE C T c))) (hs : noset ec = true) : PE X (.Compare ea [copPy o, copPy o'] [eb, ec] pos) (cE (wd X T) Wx (wpE C T (.chain o o' a b c))) :=
  (pe_chain (o_cmp (T := T) hu o) (o_cmp (T := T) hu o') ha hb hc (last_no hs)).imp fun σ H Q ⟨env, h, re, rh, q⟩ => ⟨env, h, re, rh, wpE_mono hC a (fun x h1 q v H1 t1 r1 rv => ⟨env, h1, re.mono t1, r1,
    wpE_mono hC b (fun y h2 q w H2 t2 r2 rw' => ⟨x, y, h2, r2, rv.mono t2, rw', cmpR_mono (fun r q => ⟨r, rfl, by
      cases r with
      | true => exact ⟨env, h2, re.mono (t1.trans t2), r2, wpE_mono hC c (fun z h3 q u H3 t3 r3 ru => ⟨y, z, h3, r3, rw'.mono t3, ru, cmpR_mono (fun r q => cQ.bl (cQ.mono ((t1.trans t2).trans t3) _ _ q) r3) q⟩) (cX.mono (t1.trans t2)) q⟩
      | false => exact cQ.bl (cQ.mono (t1.trans t2) _ _ q) r2⟩) q⟩) (cX.mono t1) q⟩) (fun _ _ z => z) q⟩
include hC in
theorem t_chain {o o' : COp} (hu : X.A.units + 80 < cLine) (ha : PE X ea (cE (wd X T) Wx (wpE C T a))) (hb : PE X eb (cE (wd X T) Wx (wpE C T b))) (hc : PE X ec (cE (wd X T) Wx (wpE C T c))) (hs : noset ec = true) : PT X (.Compare ea [copPy o, copPy o'] [eb, ec] pos) (cT (wd X T) Wx (wpT C T (.chain o o' a b c))) :=
  (pt_chain (o_cmp (T := T) hu o) (o_cmp (T := T) hu o') ha hb hc (last_no hs)).imp fun σ H Q ⟨env, h, re, rh, q⟩ => ⟨env, h, re, rh, wpE_mono hC a (fun x h1 q v H1 t1 r1 rv => ⟨env, h1, re.mono t1, r1,
    wpE_mono hC b (fun y h2 q w H2 t2 r2 rw' => ⟨x, y, h2, r2, rv.mono t2, rw', cmpR_mono (fun r q => ⟨r, rfl, by
      cases r with
      | true => exact ⟨env, h2, re.mono (t1.trans t2), r2, wpE_mono hC c (fun z h3 q u H3 t3 r3 ru => ⟨y, z, h3, r3, rw'.mono t3, ru, cmpR_mono (fun r q => ⟨r, rfl, q H3 ((t1.trans t2).trans t3) r3⟩) q⟩) (cX.mono (t1.trans t2)) q⟩
      | false => exact ⟨false, rfl, q H2 (t1.trans t2) r2⟩⟩) q⟩) (cX.mono t1) q⟩) (fun _ _ z => z) q⟩
include hC in
theorem s_and1 (ha : PE X ea (cE (wd X T) Wx (wpE C T a))) : PE X (.BoolOp .And [ea] pos) (cE (wd X T) Wx (wpAndV C T (.cons a .nil))) := (pe_one ha).imp fun σ H Q ⟨env, h, re, rh, q⟩ => ⟨env, h, re, rh, q⟩
include hC in
theorem s_and {b : CE} {r : CE} {er : List Expr} (ha : PE X ea (cE (wd X T) Wx (wpE C T a))) (hb : PE X (.BoolOp .And (eb :: er) pos) (cE (wd X T) Wx (wpAndV C T (.cons b r)))) : PE X (.BoolOp .And (ea :: eb :: er) pos) (cE (wd X T) Wx (wpAndV C T (.cons a (.cons b r)))) :=
  (pe_and ha hb).imp fun σ H Q ⟨env, h, re, rh, q⟩ => ⟨env, h, re, rh, wpE_mono hC a (fun x h1 ⟨cb, e, q⟩ v H1 t1 r1 rv => ⟨cb, by rw [e] at rv; exact rep_bl.mp rv, by
    cases cb with
    | true => exact ⟨env, h1, re.mono t1, r1, wpAndV_mono hC _ (cQ.mono t1) (cX.mono t1) q⟩
    | false => exact cQ.bl (cQ.mono t1 _ _ q) r1⟩) (fun _ _ z => z) q⟩
include hC in
theorem s_or1 (ha : PE X ea (cE (wd X T) Wx (wpE C T a))) : PE X (.BoolOp .Or [ea] pos) (cE (wd X T) Wx (wpOrV C T (.cons a .nil))) := (pe_one ha).imp fun σ H Q ⟨env, h, re, rh, q⟩ => ⟨env, h, re, rh, q⟩
include hC in
theorem s_or {b : CE} {r : CE} {er : List Expr} (ha : PE X ea (cE (wd X T) Wx (wpE C T a))) (hb : PE X (.BoolOp .Or (eb :: er) pos) (cE (wd X T) Wx (wpOrV C T (.cons b r)))) : PE X (.BoolOp .Or (ea :: eb :: er) pos) (cE (wd X T) Wx (wpOrV C T (.cons a (.cons b r)))) :=
  (pe_or ha hb).imp fun σ H Q ⟨env, h, re, rh, q⟩ => ⟨env, h, re, rh, wpE_mono hC a (fun x h1 ⟨cb, e, q⟩ v H1 t1 r1 rv => ⟨cb, by rw [e] at rv; exact rep_bl.mp rv, by
    cases cb with
    | false => exact ⟨env, h1, re.mono t1, r1, wpOrV_mono hC _ (cQ.mono t1) (cX.mono t1) q⟩
    | true => exact cQ.bl (cQ.mono t1 _ _ q) r1⟩) (fun _ _ z => z) q⟩
include hC in
theorem s_ifx (hc : PT X ec (cT (wd X T) Wx (wpT C T c))) (ha : PE X ea (cE (wd X T) Wx (wpE C T a))) (hb : PE X eb (cE (wd X T) Wx (wpE C T b))) : PE X (.IfExp ec ea eb pos) (cE (wd X T) Wx (wpE C T (.ifx c a b))) :=
  (pe_ifExp hc ha hb).imp fun σ H Q ⟨env, h, re, rh, q⟩ => ⟨env, h, re, rh, wpT_mono hC c (fun r h1 q H1 t1 r1 => by
    cases r with
    | true => exact ⟨env, h1, re.mono t1, r1, wpE_mono hC a (cQ.mono t1) (cX.mono t1) q⟩
    | false => exact ⟨env, h1, re.mono t1, r1, wpE_mono hC b (cQ.mono t1) (cX.mono t1) q⟩) (fun _ _ z => z) q⟩
include hC in
theorem s_idx (hu : X.A.units + 80 < cLine) (ha : PE X ea (cE (wd X T) Wx (wpE C T a))) (hb : PE X eb (cE (wd X T) Wx (wpE C T b))) (hs : nosl eb = true) : PE X (.Subscript ea eb pos) (cE (wd X T) Wx (wpE C T (.idx a b))) :=
  (pe_ix (x_ix (T := T) (by omega)) ha hb (ix_plain hs)).imp fun σ H Q ⟨env, h, re, rh, q⟩ => ⟨env, h, re, rh, wpE_mono hC a (fun x h1 q v H1 t1 r1 rv => ⟨env, h1, re.mono t1, r1,
    wpE_mono hC b (fun y h2 q w H2 t2 r2 rw' => ⟨x, y, h2, r2, rv.mono t2, rw', ixR_mono (cQ.mono (t1.trans t2)) q⟩) (cX.mono t1) q⟩) (fun _ _ z => z) q⟩
theorem p_none : PO X none (cP (wd X T) Wx (wpP C T .nil)) := po_none.imp fun σ H Q ⟨env, h, re, rh, q⟩ => q H TLe.refl rh
include hC in
theorem p_some {r : CE} (ha : PE X ea (cE (wd X T) Wx (wpE C T a))) : PO X (some ea) (cP (wd X T) Wx (wpP C T (.cons a r))) :=
  (po_some ha).imp fun σ H Q ⟨env, h, re, rh, q⟩ => ⟨env, h, re, rh, wpE_mono hC a (fun x h1 ⟨i, e, q⟩ v H1 t1 r1 rv => ⟨i, by rw [e] at rv; exact rep_int.mp rv, q H1 t1 r1⟩) (fun _ _ z => z) q⟩
include hC in
theorem s_slc {lo hi : CE} {el eh : Option Expr} {p2 : Pos} (ha : PE X ea (cE (wd X T) Wx (wpE C T a))) (hl : PO X el (cP (wd X T) Wx (wpP C T lo))) (hh : PO X eh (cP (wd X T) Wx (wpP C T hi))) : PE X (.Subscript ea (.Slice el eh none p2) pos) (cE (wd X T) Wx (wpE C T (.slc a lo hi))) :=
  (pe_slice (x_sl (T := T)) ha hl hh).imp fun σ H Q ⟨env, h, re, rh, q⟩ => ⟨env, h, re, rh, wpE_mono hC a (fun x h1 q v H1 t1 r1 rv => ⟨env, h1, re.mono t1, r1,
    wpP_mono hC lo (fun l h2 q H2 t2 r2 => ⟨env, h2, re.mono (t1.trans t2), r2, wpP_mono hC hi (fun u h3 q H3 t3 r3 => ⟨x, h3, r3, rv.mono (t2.trans t3), slR_mono (cQ.mono ((t1.trans t2).trans t3)) q⟩) (cX.mono (t1.trans t2)) q⟩) (cX.mono t1) q⟩) (fun _ _ z => z) q⟩
include hC in
theorem s_rev {k : Nat} {p1 p2 p3 : Pos} (ha : PE X ea (cE (wd X T) Wx (wpE C T a))) : PE X (.Subscript ea (.Slice none none (some (.UnaryOp .USub (.Constant (.int 1) k p1) p2)) p3) pos) (cE (wd X T) Wx (wpE C T (.rev a))) :=
  (pe_revL ha).imp fun σ H Q ⟨env, h, re, rh, q⟩ => ⟨env, h, re, rh, wpE_mono hC a (fun x h1 q v H1 t1 r1 rv => by
    cases x with
    | ref p =>
      obtain ⟨xs, e, q⟩ := q
      obtain ⟨vs, e1, k⟩ := r1.lst e
      exact ⟨p, vs, rep_ref.mp rv, SqL.of e1, fun n hn => cQ.lstN (newL_mono (cQ.mono t1) q) r1 hn k.reverse⟩
    | _ => exact False.elim q) (fun _ _ z => z) q⟩
include hC in
theorem s_blt {f : Blt} {es : CE} {e1 : Expr} {xs : List Expr} {p : Pos} (hc : X.calm = true) (hu : X.A.units + 80 < cLine) (hg : Gl X (bltNm f)) (hm : X.mg (bltNm f) = none) (hs : PA X (e1 :: xs) (cA (wd X T) Wx (wpEs C T es))) (hn : nost e1 = true) (hns : xs.all nost = true) : PE X (.Call (.Name (bltNm f) p) (e1 :: xs) [] pos) (cE (wd X T) Wx (wpE C T (.blt f es))) := by
  have nm := blt_name f
  have key : PE X (.Call (.Name (bltNm f) p) (e1 :: xs) [] pos) (tCB (cCall (wd X T) (bltR f)) (cA (wd X T) Wx (wpEs C T es))) := by
    have hb := b_blt (T := T) hc hu f
    have hv := boot_blt f
    rcases bltVal_kind f with ⟨id, e⟩ | ⟨id, e⟩
    · rw [e] at hb hv; exact pe_callB hb hg hm hv hs nm.1 nm.2 (star_cons hn) (star_any hns)
    · rw [e] at hb hv; exact pe_callTy hb hg hm hv hs nm.1 nm.2 (star_cons hn) (star_any hns)
  exact key.imp fun σ H Q ⟨env, h, re, rh, q⟩ => ⟨env, h, re, rh, wpEs_mono hC es (fun avs h1 q vs H1 t1 r1 rv => ⟨avs, h1, r1, rv, bltR_mono (cQ.mono t1) q⟩) (fun _ _ z => z) q⟩
end
end PL

namespace PL
open PySem PySem.Spec PyProof.Rows L2
def cSp (W : Wd) (c : List AV → AH → AQ → AXQ → Prop) : Sp := fun vs H Q E => ∃ avs h, RH W h H ∧ Reps W.K H avs vs ∧ c avs h (cQ W H Q) (fun ax h' => ∀ cls d H', TLe W.K H H' → RH W h' H' → RX W H' ax cls d → E cls d H')
def FnC (X : Cx) (T : Tb) (C : ACall) (f : Nat) (x : Str) : Prop := ∃ (fa : Addr) (fd : FuncData) (ps : List Str) (k : Nat), X.mg x = some (.ref fa) ∧ PySem.W.keepIn X.K (.ref fa) = true ∧ Binds X.K fd ps [] ∧ Room k X.A ∧
  FnOk X.prog X.w X.K X.mg X.base (L2.CX X.prog X.w) k fa fd ps (cSp (wd X T) (C f))
section
variable {X : Cx} {T : Tb} {C : ACall} {Wx : WX} (hC : CMono C) {a b c : CE} {ea eb ec : Expr} {pos : Pos}
include hC in
theorem t_tru (ha : PE X ea (cE (wd X T) Wx (wpE C T a))) (hv : byval ea = true) : PT X ea (cT (wd X T) Wx (wpT C T (.tru a))) :=
  (pt_truth ha (val_plain hv)).imp fun σ H Q ⟨env, h, re, rh, q⟩ => ⟨env, h, re, rh, wpE_mono hC a (fun x h1 q v H1 t1 r1 rv => tru_data r1 rv (truR_mono (fun r q => q H1 t1 r1) q)) (fun _ _ z => z) q⟩
include hC in
theorem t_not (ha : PT X ea (cT (wd X T) Wx (wpT C T a))) : PT X (.UnaryOp .Not ea pos) (cT (wd X T) Wx (wpT C T (.not a))) :=
  (pt_not ha).imp fun σ H Q ⟨env, h, re, rh, q⟩ => ⟨env, h, re, rh, wpT_mono hC a (fun r h1 q H1 t1 r1 => q H1 t1 r1) (fun _ _ z => z) q⟩
include hC in
theorem t_and1 (ha : PT X ea (cT (wd X T) Wx (wpT C T a))) : PW X (.BoolOp .And [ea] pos) (cT (wd X T) Wx (wpAnd C T (.cons a .nil))) :=
  (pw_and1 ha).imp fun σ H Q ⟨env, h, re, rh, q⟩ => ⟨env, h, re, rh, wpT_mono hC a (fun r h1 q H1 t1 r1 => by
    cases r with
    | true => exact q H1 t1 r1
    | false => exact q H1 t1 r1) (fun _ _ z => z) q⟩
include hC in
theorem t_and {r : CE} {er : List Expr} (ha : PT X ea (cT (wd X T) Wx (wpT C T a))) (hb : PW X (.BoolOp .And (eb :: er) pos) (cT (wd X T) Wx (wpAnd C T r))) : PW X (.BoolOp .And (ea :: eb :: er) pos) (cT (wd X T) Wx (wpAnd C T (.cons a r))) :=
  (pw_and ha hb).imp fun σ H Q ⟨env, h, re, rh, q⟩ => ⟨env, h, re, rh, wpT_mono hC a (fun r h1 q H1 t1 r1 => by
    cases r with
    | true => exact ⟨env, h1, re.mono t1, r1, wpAnd_mono hC _ (bQ.mono t1) (cX.mono t1) q⟩
    | false => exact q H1 t1 r1) (fun _ _ z => z) q⟩
include hC in
theorem t_or1 (ha : PT X ea (cT (wd X T) Wx (wpT C T a))) : PW X (.BoolOp .Or [ea] pos) (cT (wd X T) Wx (wpOr C T (.cons a .nil))) :=
  (pw_or1 ha).imp fun σ H Q ⟨env, h, re, rh, q⟩ => ⟨env, h, re, rh, wpT_mono hC a (fun r h1 q H1 t1 r1 => by
    cases r with
    | true => exact q H1 t1 r1
    | false => exact q H1 t1 r1) (fun _ _ z => z) q⟩
include hC in
theorem t_or {r : CE} {er : List Expr} (ha : PT X ea (cT (wd X T) Wx (wpT C T a))) (hb : PW X (.BoolOp .Or (eb :: er) pos) (cT (wd X T) Wx (wpOr C T r))) : PW X (.BoolOp .Or (ea :: eb :: er) pos) (cT (wd X T) Wx (wpOr C T (.cons a r))) :=
  (pw_or ha hb).imp fun σ H Q ⟨env, h, re, rh, q⟩ => ⟨env, h, re, rh, wpT_mono hC a (fun r h1 q H1 t1 r1 => by
    cases r with
    | false => exact ⟨env, h1, re.mono t1, r1, wpOr_mono hC _ (bQ.mono t1) (cX.mono t1) q⟩
    | true => exact q H1 t1 r1) (fun _ _ z => z) q⟩

def tyNm : Ty → String
  | .int => "int" | .bool => "bool" | .str => "str" | .tuple => "tuple" | .list => "list" | .dict => "dict" | .set => "set"
def tyNmS : Ty → Str
  | .int => "int" | .bool => "bool" | .str => "str" | .tuple => "tuple" | .list => "list" | .dict => "dict" | .set => "set"
theorem boot_ty (t : Ty) : bootBuiltins (tyNmS t) = some (.type (tyNm t)) := by cases t <;> decide +kernel
theorem ty_name (t : Ty) : tyNmS t ≠ "__name__" ∧ (tyNmS t == ("__debug__" : Str)) = false := by cases t <;> (constructor <;> decide +kernel)
def isT : String → Ty → Bool
  | "bool", .bool => true
  | "bool", .int => true
  | "int", .int => true
  | "str", .str => true
  | "tuple", .tuple => true
  | "list", .list => true
  | "dict", .dict => true
  | _, _ => false
theorem kit_isT (K : PySem.W.Frag) {n : String} (hn : n ∈ ["NoneType", "bool", "int", "str", "tuple", "list", "dict"]) (t : Ty) : PySem.W.kitOne K (.type n) (.type (tyNm t)) = some (isT n t) := by
  simp only [List.mem_cons, List.not_mem_nil, or_false] at hn
  rcases hn with rfl | rfl | rfl | rfl | rfl | rfl | rfl <;> cases t <;> exact kit_ty (by decide +kernel)
theorem kit_all (K : PySem.W.Frag) {n : String} (hn : n ∈ ["NoneType", "bool", "int", "str", "tuple", "list", "dict"]) : ∀ ts : List Ty, PySem.W.kitAny K (.type n) (ts.map fun t => Value.type (tyNm t)) = some (ts.any (isT n))
  | [] => rfl
  | t :: ts => by
    rw [List.map_cons, List.any_cons]
    cases e : isT n t with
    | true => exact kitAny_cons (b := true) (by rw [← e]; exact kit_isT K hn t) (fun z => nomatch z) fun _ => rfl
    | false => exact kitAny_cons (b := false) (by rw [← e]; exact kit_isT K hn t) (fun _ => by rw [kit_all K hn ts]; rfl) (fun z => nomatch z)
theorem any_has {n : String} {t : Ty} (h : ∀ u, isT n u = decide (u = t)) : ∀ ts : List Ty, ts.any (isT n) = hasTy ts t
  | [] => rfl
  | u :: ts => by
    rw [List.any_cons, any_has h ts, h]
    unfold hasTy
    by_cases e : u = t
    · subst e; simp
    · have e' : ¬ t = u := fun z => e z.symm
      simp [e, e']
theorem ty_data {H : Hp} {h : AH} {ax : AV} {x : V} {ts : List Ty} {Q : Bool → Prop} (rh : RH (wd X T) h H) (r : Rep X.K H ax x) (q : tyR ts ax h Q) :
    ∃ n, n ∈ ["NoneType", "bool", "int", "str", "tuple", "list", "dict"] ∧ TyX X.K H x (.type n) ∧ Q (ts.any (isT n)) := by
  cases ax with
  | non => rw [rep_non.mp r]; exact ⟨"NoneType", by simp, .base .non, by
      have e : ts.any (isT "NoneType") = false := by
        induction ts with
        | nil => rfl
        | cons u ts ih => rw [List.any_cons, ih q]; cases u <;> rfl
      rw [e]; exact q⟩
  | bl b =>
    rw [rep_bl.mp r]
    refine ⟨"bool", by simp, .base (.bl _), ?_⟩
    have e : ts.any (isT "bool") = (hasTy ts .bool || hasTy ts .int) := by
      clear q
      induction ts with
      | nil => rfl
      | cons u ts ih =>
        rw [List.any_cons, ih]
        unfold hasTy
        cases u <;> simp [isT]
    rw [e]; exact q
  | int i => rw [rep_int.mp r]; exact ⟨"int", by simp, .base (.int _), by rw [any_has (t := .int) (fun u => by cases u <;> rfl)]; exact q⟩
  | str i => rw [rep_str.mp r]; exact ⟨"str", by simp, .base (.str _), by rw [any_has (t := .str) (fun u => by cases u <;> rfl)]; exact q⟩
  | tup xs =>
    obtain ⟨a, vs, rfl, t, k⟩ := rep_tupT r
    refine ⟨"tuple", by simp, ?_, by rw [any_has (t := .tuple) (fun u => by cases u <;> rfl)]; exact q⟩
    rcases t with (t | ⟨o, t⟩) | ⟨o, its, n, t, hc, _⟩
    · exact .base (.tup t)
    · exact .fTuple t
    · exact .kTuple t hc
  | wt xs => exact False.elim q
  | rl xs =>
    obtain ⟨a, vs, rfl, t, k⟩ := rep_rl.mp r
    refine ⟨"list", by simp, ?_, by rw [any_has (t := .list) (fun u => by cases u <;> rfl)]; exact q⟩
    rcases t with ⟨o, t⟩ | ⟨o, its, n, t, hc, _⟩
    · exact .base (.frz t)
    · exact .kList t hc
  | ref a =>
    rw [rep_ref.mp r]
    rcases q with ⟨xs, e, q⟩ | ⟨kvs, e, q⟩
    · obtain ⟨vs, h1, _⟩ := rh.lst e
      exact ⟨"list", by simp, .base (.lst h1), by rw [any_has (t := .list) (fun u => by cases u <;> rfl)]; exact q⟩
    · obtain ⟨vs, h1, _⟩ := rh.dK e
      exact ⟨"dict", by simp, .base (.dK h1), by rw [any_has (t := .dict) (fun u => by cases u <;> rfl)]; exact q⟩
theorem pe_ty {t : Ty} {p : Pos} (hg : Gl X (tyNmS t)) (hm : X.mg (tyNmS t) = none) : PE X (.Name (tyNmS t) p) (tC (.ty (tyNm t))) := pe_bltn hg hm (boot_ty t) rfl (ty_name t).1 (ty_name t).2
include hC in
theorem s_isin1 {t : Ty} {p p2 : Pos} (hg : Gl X "isinstance") (hm : X.mg "isinstance" = none) (hgt : Gl X (tyNmS t)) (hmt : X.mg (tyNmS t) = none) (ha : PE X ea (cE (wd X T) Wx (wpE C T a))) (hn : nost ea = true) :
    PE X (.Call (.Name "isinstance" p) [ea, .Name (tyNmS t) p2] [] pos) (cE (wd X T) Wx (wpE C T (.isin a [t]))) :=
  (pe_callB call_isi hg hm (by decide +kernel) (pa_cons ha (pa_cons (pe_ty hgt hmt) pa_nil) (star_cons hn)) (by decide) (by decide) (star_cons hn) rfl).imp fun σ H Q ⟨env, h, re, rh, q⟩ =>
    ⟨env, h, re, rh, wpE_mono hC a (fun x h1 q v H1 t1 r1 rv => by
      obtain ⟨n, hn, ty, q⟩ := ty_data (T := T) r1 rv q
      exact ⟨v, .ty (tyNm t), .type n, .type (tyNm t), _, rfl, .ty _, ty, kit_isT X.K hn t, by
        have e : ([t].any (isT n)) = isT n t := by simp
        rw [e] at q
        exact cQ.bl (cQ.mono t1 _ _ q) r1⟩) (fun _ _ z => z) q⟩
def tyEs : List Ty → List Pos → List Expr
  | t :: ts, p :: ps => .Name (tyNmS t) p :: tyEs ts ps
  | _, _ => []
theorem pa_tys : ∀ {ts : List Ty} {ps : List Pos}, ts.length = ps.length → (∀ t ∈ ts, Gl X (tyNmS t) ∧ X.mg (tyNmS t) = none) → PA X (tyEs ts ps) (fun _ H Q => Q (ts.map fun t => V.ty (tyNm t)) H)
  | [], ps, _, _ => pa_nil.imp fun _ _ _ q => q
  | t :: ts, [], e, _ => by cases e
  | t :: ts, p :: ps, e, h => (pa_cons (pe_ty (h t List.mem_cons_self).1 (h t List.mem_cons_self).2) (pa_tys (ts := ts) (ps := ps) (by simpa using e) fun u hu => h u (List.mem_cons_of_mem _ hu)) rfl).imp fun _ _ _ q => q
theorem clsV_tys : ∀ ts : List Ty, Paired ClsV (ts.map fun t => V.ty (tyNm t)) (ts.map fun t => Value.type (tyNm t))
  | [] => .nil
  | t :: ts => .cons (.ty _) (clsV_tys ts)
include hC in
theorem s_isinT {ts : List Ty} {ps : List Pos} {p p2 : Pos} {k : Nat} (hl : ts.length = ps.length) (hz : ts.length ≤ 20) (hg : Gl X "isinstance") (hm : X.mg "isinstance" = none) (hts : ∀ t ∈ ts, Gl X (tyNmS t) ∧ X.mg (tyNmS t) = none) (ha : PE X ea (cE (wd X T) Wx (wpE C T a))) (hn : nost ea = true) :
    PE X (.Call (.Name "isinstance" p) [ea, .Tuple (tyEs ts ps) k p2] [] pos) (cE (wd X T) Wx (wpE C T (.isin a ts))) :=
  (pe_callB call_isiT hg hm (by decide +kernel) (pa_cons ha (pa_cons (pe_tup (pa_tys hl hts)) pa_nil) (star_cons hn)) (by decide) (by decide) (star_cons hn) rfl).imp fun σ H Q ⟨env, h, re, rh, q⟩ =>
    ⟨env, h, re, rh, wpE_mono hC a (fun x h1 q v H1 t1 r1 rv => ⟨by rw [List.length_map]; rw [sizeLine_eq]; omega, fun tp hp => by
      have rv' := rv.mono (TLe.fresh (K := X.K) (o := .tup (ts.map fun t => V.ty (tyNm t))) hp)
      have r1' : RH (wd X T) h1 (upd H1 tp (.tup (ts.map fun t => V.ty (tyNm t)))) := r1.fresh hp
      obtain ⟨n, hn, ty, q⟩ := ty_data (T := T) r1' rv' q
      exact ⟨v, tp, _, .type n, _, _, rfl, upd_same, clsV_tys ts, ty, kit_all X.K hn ts, cQ.bl (cQ.mono (t1.trans (TLe.fresh hp)) _ _ q) r1'⟩⟩) (fun _ _ z => z) q⟩

theorem pe_call0S {CX : CXT} {k : Nat} {f : Addr} {fd : FuncData} {ps : List Str} {sp : Sp} {E : L2.St → XK} {x : Str} {p : Pos} (F : FnOk X.prog X.w X.K X.mg X.base CX k f fd ps sp) (hr : Room k X.A) (hg : Gl X x) (hm : X.mg x = some (.ref f)) (hk : PySem.W.keepIn X.K (.ref f) = true) (hb : Binds X.K fd ps []) (hx : ∀ σ, PassesAt CX X σ (E σ))
    (hdb : (x == ("__debug__" : Str)) = false) : PE X (.Call (.Name x p) [] [] pos) (tCallS sp E tNil) := by
  refine ⟨fun pins s σ H Q I h => ?_⟩
  refine wpAny_Call_Name_kw (ld_glob I hg hm ?_ hdb)
  exact PySem.W.callWith_K0 I.kIn hk (run_fnS (us := []) (vs := []) F hr hb (hx σ) I .nil h)
include hC in
theorem s_call0 {f : Nat} {x : Str} {p : Pos} (tk : Takes X Wx) (F : FnC X T C f x) (hg : Gl X x) (hdb : (x == ("__debug__" : Str)) = false) : PE X (.Call (.Name x p) [] [] pos) (cE (wd X T) Wx (wpE C T (.call f .nil))) := by
  obtain ⟨fa, fd, ps, k, hm, hk, hb, hr, F⟩ := F
  exact (pe_call0S F hr hg hm hk hb (passAt tk) hdb).imp fun σ H Q ⟨env, h, re, rh, q⟩ => ⟨[], h, rh, reps_nil.mpr rfl, q⟩
include hC in
theorem s_call {f : Nat} {x : Str} {es : CE} {e : Expr} {r : List Expr} {p : Pos} (tk : Takes X Wx) (F : FnC X T C f x) (hg : Gl X x) (hdb : (x == ("__debug__" : Str)) = false) (hs : PA X (e :: r) (cA (wd X T) Wx (wpEs C T es))) (h1 : nost e = true) (h2 : r.all nost = true) :
    PE X (.Call (.Name x p) (e :: r) [] pos) (cE (wd X T) Wx (wpE C T (.call f es))) := by
  obtain ⟨fa, fd, ps, k, hm, hk, hb, hr, F⟩ := F
  exact (pe_callS F hr hg hm hk hb (passAt tk) hs hdb (star_cons h1) (star_any h2)).imp fun σ H Q ⟨env, h, re, rh, q⟩ =>
    ⟨env, h, re, rh, wpEs_mono hC es (fun avs h1 q vs H1 t1 r1 rv => ⟨avs, h1, r1, rv, hC _ _ _ _ _ _ _ (cQ.mono t1) (cX.mono t1) q⟩) (fun _ _ z => z) q⟩
end
end PL

namespace PL
open PySem PySem.Spec PyProof.Rows L2
structure NmOk (T : Tb) : Prop where
  flj : ∀ f g y, T.fl f = some y → fldName T g = y → g = f
  flm : ∀ m y i, T.mt m = some y → fldName T i ≠ y
structure KlsF (X : Cx) (T : Tb) (c : Nat) : Prop where
  cls : Cls X.K (kAddr (wd X T) c)
  noat : ∀ f y, T.fl f = some y → NoAttr X.K (kAddr (wd X T) c) y
structure KlsC (X : Cx) (T : Tb) (C : ACall) (c : Nat) (x : Str) : Prop where
  mg : X.mg x = some (.ref (kAddr (wd X T) c))
  ini : ∀ f, T.ki c = some f → ∃ (fa : Addr) (fd : FuncData) (ps : List Str) (k : Nat), Mk X.K (kAddr (wd X T) c) fa ∧ Binds X.K fd ps [] ∧ Room (k + 1) X.A ∧ FnOk X.prog X.w X.K X.mg X.base (L2.CX X.prog X.w) k fa fd ps (cSp (wd X T) (C f))
  mth : ∀ m y f, T.mt m = some y → T.mf c m = some f → ∃ (fa : Addr) (fd : FuncData) (ps : List Str) (k : Nat), Meth X.K (kAddr (wd X T) c) y fa ∧ Binds X.K fd ps [] ∧ Room k X.A ∧ FnOk X.prog X.w X.K X.mg X.base (L2.CX X.prog X.w) k fa fd ps (cSp (wd X T) (C f))
theorem fld_get {K : PySem.W.Frag} {H : Hp} {T : Tb} (N : NmOk T) {f : Nat} {y : Str} (hf : T.fl f = some y) : ∀ {fs : List (Nat × AV)} {vs : List V} {v : AV}, Reps K H (fs.map (·.2)) vs → fs.lookup f = some v →
    ∃ w, (((fs.map fun f => fldName T f.1).zip vs).lookup y) = some w ∧ Rep K H v w
  | [], _, _, _, e => by cases e
  | (g, x) :: r, vs, v, k, e => by
    obtain ⟨w, ws, rfl, rw1, k2⟩ := reps_cons.mp k
    rw [List.map_cons, List.zip_cons_cons, List.lookup_cons]
    rw [List.lookup_cons] at e
    cases hb : f == g with
    | true =>
      rw [hb] at e
      cases e
      have : fldName T g = y := by
        rw [← eq_of_beq hb]; unfold fldName; rw [hf]; rfl
      rw [show (y == (fldName T (g, x).1)) = true from beq_iff_eq.mpr this.symm]
      exact ⟨w, rfl, rw1⟩
    | false =>
      rw [hb] at e
      have : (y == fldName T (g, x).1) = false := by
        cases hc : y == fldName T (g, x).1 with
        | false => rfl
        | true =>
          have := N.flj f g y hf (eq_of_beq hc).symm
          rw [this, beq_self_eq_true] at hb
          cases hb
      rw [this]
      exact fld_get N hf k2 e
theorem fld_none {K : PySem.W.Frag} {T : Tb} {y : Str} (hy : ∀ i, fldName T i ≠ y) : ∀ {fs : List (Nat × AV)} {vs : List V}, (((fs.map fun f => fldName T f.1).zip vs).lookup y) = none
  | [], _ => by simp
  | _ :: _, [] => by simp
  | (g, x) :: r, v :: vs => by
    rw [List.map_cons, List.zip_cons_cons, List.lookup_cons]
    have : (y == fldName T (g, x).1) = false := by
      cases hc : y == fldName T (g, x).1 with
      | false => rfl
      | true => exact absurd (eq_of_beq hc).symm (hy g)
    rw [this]
    exact fld_none (K := K) hy
theorem fld_put {K : PySem.W.Frag} {H : Hp} {T : Tb} (N : NmOk T) {f : Nat} {y : Str} (hf : T.fl f = some y) {x : AV} {w : V} (hx : Rep K H x w) : ∀ {fs : List (Nat × AV)} {vs : List V}, Reps K H (fs.map (·.2)) vs →
    ∃ ws, putF y w ((fs.map fun f => fldName T f.1).zip vs) = (((fput f x fs).map fun f => fldName T f.1).zip ws) ∧ Reps K H ((fput f x fs).map (·.2)) ws
  | [], vs, k => by
    rw [reps_nil.mp k]
    refine ⟨[w], ?_, Reps.one hx⟩
    show [(y, w)] = [(fldName T f, w)]
    unfold fldName; rw [hf]; rfl
  | (g, z) :: r, vs, k => by
    obtain ⟨v, ws, rfl, rw1, k2⟩ := reps_cons.mp k
    rw [List.map_cons, List.zip_cons_cons]
    by_cases hg : g = f
    · have en : fldName T (g, z).1 = y := by show fldName T g = y; rw [hg]; unfold fldName; rw [hf]; rfl
      refine ⟨w :: ws, ?_, ?_⟩
      · show (if fldName T (g, z).1 = y then _ else _) = _
        rw [if_pos en]
        show _ = ((List.map _ (if g = f then (g, x) :: r else _)).zip _)
        rw [if_pos hg]; rfl
      · show Reps K H (List.map _ (if g = f then (g, x) :: r else _)) _
        rw [if_pos hg]
        exact reps_cons.mpr ⟨w, ws, rfl, hx, k2⟩
    · have en : ¬ fldName T (g, z).1 = y := fun e => hg (N.flj f g y hf e)
      obtain ⟨us, e1, k3⟩ := fld_put N hf hx k2
      refine ⟨v :: us, ?_, ?_⟩
      · show (if fldName T (g, z).1 = y then _ else _) = _
        rw [if_neg en, e1]
        show _ = ((List.map _ (if g = f then _ else (g, z) :: fput f x r)).zip _)
        rw [if_neg hg]; rfl
      · show Reps K H (List.map _ (if g = f then _ else (g, z) :: fput f x r)) _
        rw [if_neg hg]
        exact reps_cons.mpr ⟨v, us, rfl, rw1, k3⟩
theorem zip_len {T : Tb} {fs : List (Nat × AV)} {vs : List V} (h : vs.length = fs.length) : ((fs.map fun f => fldName T f.1).zip vs).length = fs.length := by
  rw [List.length_zip, List.length_map, h, Nat.min_self]

def tMethT (X : Cx) (CX : CXT) (m : Str) (E : L2.St → XK) (ta : TE) (t : TA) : TE := fun σ H Q => ta σ H fun x H1 => ∃ a C dx fs g fd ps k sp, x = .ref a ∧ H1 a = some (.ins C dx fs) ∧ fs.lookup m = none ∧ Cls X.K C ∧ Meth X.K C m g ∧
  FnOk X.prog X.w X.K X.mg X.base CX k g fd ps sp ∧ Room k X.A ∧ Binds X.K fd ps [] ∧ t σ H1 fun vs H2 => sp (x :: vs) H2 Q (E σ)
section
variable {X : Cx} {CX : CXT} {E : L2.St → XK} {m : Str} {pos apos : Pos} {o e : Expr} {es : List Expr} {ta : TE} {t : TA}
theorem pe_methT (he : PE X o ta) (ha : PA X (e :: es) t) (hx : ∀ σ, PassesAt CX X σ (E σ)) (h1 : nocall o = true) (hl : (apos.endLine == pos.line) = true)
    (hn : nost e = true) (hn2 : es.all nost = true) (h30 : (e :: es).length < 30) : PE X (.Call (.Attribute o m apos) (e :: es) [] pos) (tMethT X CX m E ta t) := by
  refine ⟨fun pins s σ H Q I h => ?_⟩
  have hform : methodCallForm ((e :: es).length + ([] : List Keyword).length) (backTo pos (starEach (e :: es) X.env)) (backToKw pos (keywordEach [] X.env)) = true := by
    show ((backTo pos (starEach (e :: es) X.env)).all (fun x => !x.1) && true && decide ((e :: es).length + 0 + 0 < 30)) = true
    rw [star_all (by rw [List.all_cons, hn, hn2]; rfl), decide_eq_true (by omega)]; rfl
  have hpos : methodCallPos true o X.env apos pos = pure pos := by unfold methodCallPos; simp [hl]
  rw [arm_eval_Call, base_plain h1]
  refine wpAny_bind (wpAny_mono (he.run pins s σ H _ I h) (fun u s1 ⟨x, H1, I1, rx, a, C, dx, fs, g, fd, ps, k, sp, ex, ea, l, c, hm, F, hr, hb, q⟩ => ?_) fun _ _ e => e)
  subst ex
  obtain rfl : u = Value.ref a := rx
  refine wpAny_bind (wpAny_standAt ?_)
  unfold methodCall
  rw [hform]
  refine wpAny_bind (wpAny_holding (getmeth_ok I1 ea c hm l ?_))
  refine wpAny_bind (wpAny_of_eq hpos ?_)
  refine PySem.W.callWith_K (first := [.ref a]) (h₀ := X.base) I1.ok.mod.kin hm.kp (thn (ha.run pos pins s1 σ H1 _ I1 q) fun us s2 ⟨vs, H2, I2, r, q2⟩ => ⟨I2.kIn, ?_⟩) (star_cons hn) (star_any hn2)
  exact run_fnS (us := .ref a :: us) (vs := .ref a :: vs) F hr hb (hx σ) I2 (.cons rfl r) q2
theorem pe_methT0 (he : PE X o ta) (hx : ∀ σ, PassesAt CX X σ (E σ)) (h1 : nocall o = true) (hl : (apos.endLine == pos.line) = true) : PE X (.Call (.Attribute o m apos) [] [] pos) (tMethT X CX m E ta tNil) := by
  refine ⟨fun pins s σ H Q I h => ?_⟩
  have hform : methodCallForm (([] : List Expr).length + ([] : List Keyword).length) (backTo pos (starEach [] X.env)) (backToKw pos (keywordEach [] X.env)) = true := rfl
  have hpos : methodCallPos true o X.env apos pos = pure pos := by unfold methodCallPos; simp [hl]
  rw [arm_eval_Call, base_plain h1]
  refine wpAny_bind (wpAny_mono (he.run pins s σ H _ I h) (fun u s1 ⟨x, H1, I1, rx, a, C, dx, fs, g, fd, ps, k, sp, ex, ea, l, c, hm, F, hr, hb, q⟩ => ?_) fun _ _ e => e)
  subst ex
  obtain rfl : u = Value.ref a := rx
  refine wpAny_bind (wpAny_standAt ?_)
  unfold methodCall
  rw [hform]
  refine wpAny_bind (wpAny_holding (getmeth_ok I1 ea c hm l ?_))
  refine wpAny_bind (wpAny_of_eq hpos ?_)
  exact PySem.W.callWith_K0 (first := [.ref a]) I1.kIn hm.kp (run_fnS (us := [.ref a]) (vs := [.ref a]) F hr hb (hx σ) I1 (.cons rfl .nil) q)
def tMakeS (C : Addr) (sp : Sp) (E : L2.St → XK) (t : TA) : TE := fun σ H Q => t σ H fun vs H1 => ∀ x dx, H1 x = none → H1 dx = none → dx ≠ x →
  sp (.ref x :: vs) (upd (upd H1 dx (.own x)) x (.ins C dx [])) (fun v H2 => v = .non ∧ Q (.ref x) H2) (E σ)
theorem run_makeS {k : Nat} {f C : Addr} {fd : FuncData} {ps : List Str} {sp : Sp} {pins : List (Addr × Obj)} {σ : L2.St} {H : Hp} {s : Shared} {Q : VK} {us : List Value} {vs : List V} (M : Mk X.K C f) (F : FnOk X.prog X.w X.K X.mg X.base CX k f fd ps sp) (hr : Room (k + 1) X.A) (hb : Binds X.K fd ps [])
    (hx : PassesAt CX X σ (E σ)) (I : Inv X pins σ H s) (r : Vals vs us)
    (h : ∀ x dx, H x = none → H dx = none → dx ≠ x → sp (.ref x :: vs) (upd (upd H dx (.own x)) x (.ins C dx [])) (fun v H2 => v = .non ∧ Q (.ref x) H2) (E σ)) :
    wpAny (model X.prog X.w) X.A (call (.ref C) us) (EP X pins σ Q) X.xe s := by
  have hq := h (s.heap.objs.size + 1) s.heap.objs.size (I.hok.fresh (Nat.le_succ _)) (I.hok.fresh (Nat.le_refl _)) (Nat.ne_of_lt (Nat.lt_succ_self _))
  have I2 := Inv.made (C := C) I
  have r2 : Vals (V.ref (s.heap.objs.size + 1) :: vs) (Value.ref (s.heap.objs.size + 1) :: us) := .cons rfl r
  have hl : (Value.ref (s.heap.objs.size + 1) :: us).length = ps.length := by
    have e := r2.length
    rw [F.len _ _ _ _ hq] at e
    exact e.symm
  have b := hb _ (Value.ref (s.heap.objs.size + 1) :: us) I2.kIn (by rw [List.append_nil]; exact hl)
  rw [List.append_nil] at b
  refine wpAny_call (make_map (f := f) I.kIn M.makes M.init (beq_iff_eq.mp M.fn) (codeAny_mono (F.run _ X.stack _ _ ⟨Value.ref (s.heap.objs.size + 1) :: us, []⟩ (Value.ref (s.heap.objs.size + 1) :: us) _ _ (E σ) (hr.make C us [])
    (I2.env0.make C us []) b r2 hq) fun r s' hq' => ?_))
  cases r with
  | error e => exact hx pins _ _ e s' I2 hq'
  | ok fl =>
    cases fl with
    | ret u =>
      obtain ⟨v, H', I3, rv, ev, q3⟩ := I2.after hq'
      subst ev
      exact ⟨rv, ⟨V.ref (s.heap.objs.size + 1), H', I3, rfl, q3⟩⟩
    | next => exact False.elim hq'
    | brk => exact False.elim hq'
    | cont => exact False.elim hq'
variable {k : Nat} {f C : Addr} {fd : FuncData} {ps : List Str} {sp : Sp} {x : Str} {p : Pos}
theorem pe_makeS (M : Mk X.K C f) (F : FnOk X.prog X.w X.K X.mg X.base CX k f fd ps sp) (hr : Room (k + 1) X.A) (hg : Gl X x) (hm : X.mg x = some (.ref C)) (hb : Binds X.K fd ps []) (hx : ∀ σ, PassesAt CX X σ (E σ))
    (ha : PA X (e :: es) t) (hdb : (x == ("__debug__" : Str)) = false) (hn : nost e = true) (hn2 : es.all nost = true) :
    PE X (.Call (.Name x p) (e :: es) [] pos) (tMakeS C sp E t) := by
  refine ⟨fun pins s σ H Q I h => ?_⟩
  refine wpAny_Call_Name_kw (ld_glob I hg hm ?_ hdb)
  refine PySem.W.callWith_K (h₀ := X.base) I.ok.mod.kin M.kp (thn (ha.run pos pins s σ H _ I h) fun us s1 ⟨vs, H1, I1, r, q⟩ => ⟨I1.kIn, ?_⟩) (star_cons hn) (star_any hn2)
  exact run_makeS M F hr hb (hx σ) I1 r q
theorem pe_makeS0 (M : Mk X.K C f) (F : FnOk X.prog X.w X.K X.mg X.base CX k f fd ps sp) (hr : Room (k + 1) X.A) (hg : Gl X x) (hm : X.mg x = some (.ref C)) (hb : Binds X.K fd ps []) (hx : ∀ σ, PassesAt CX X σ (E σ))
    (hdb : (x == ("__debug__" : Str)) = false) : PE X (.Call (.Name x p) [] [] pos) (tMakeS C sp E tNil) := by
  refine ⟨fun pins s σ H Q I h => ?_⟩
  refine wpAny_Call_Name_kw (ld_glob I hg hm ?_ hdb)
  exact PySem.W.callWith_K0 I.kIn M.kp (run_makeS (us := []) M F hr hb (hx σ) I .nil h)
end
section
variable {X : Cx} {T : Tb} {C : ACall} {Wx : WX} (hC : CMono C) {a b c : CE} {ea eb ec : Expr} {pos : Pos}
theorem _root_.PL.RH.ins {W : Wd} {h : AH} {H : Hp} (r : RH W h H) {a : Addr} {c : Nat} {fs : List (Nat × AV)} (e : h a = some (.ins c fs)) :
    ∃ dx vs, H a = some (.ins (kAddr W c) dx ((fs.map fun f => fldName W.T f.1).zip vs)) ∧ Reps W.K H (fs.map (·.2)) vs ∧ (W.T.kc c).isSome = true := r a _ e
include hC in
theorem s_attr {f : Nat} {y : Str} (N : NmOk T) (kf : ∀ c, (T.kc c).isSome = true → KlsF X T c) (hf : T.fl f = some y) (ha : PE X ea (cE (wd X T) Wx (wpE C T a))) (h1 : nocall ea = true) : PE X (.Attribute ea y pos) (cE (wd X T) Wx (wpE C T (.attr a f))) :=
  (pe_fld ha (base_plain h1)).imp fun σ H Q ⟨env, h, re, rh, q⟩ => ⟨env, h, re, rh, wpE_mono hC a (fun x h1 q v H1 t1 r1 rv => by
    cases x with
    | ref p =>
      obtain ⟨c, fs, w, e, l, q⟩ := q
      obtain ⟨dx, vs, e1, k, hc⟩ := r1.ins e
      obtain ⟨u, e2, k2⟩ := fld_get N hf k l
      exact ⟨p, _, dx, _, u, rep_ref.mp rv, e1, (kf c hc).cls, (kf c hc).noat f y hf, e2, cQ.here (cQ.mono t1 _ _ q) r1 k2⟩
    | _ => exact False.elim q) (fun _ _ z => z) q⟩
include hC in
theorem s_umth0 {m : Nat} {y : Str} {apos : Pos} (N : NmOk T) (kf : ∀ c, (T.kc c).isSome = true → KlsF X T c) (kc : ∀ c x, T.kc c = some x → KlsC X T C c x) (tk : Takes X Wx) (hm : T.mt m = some y)
    (ha : PE X ea (cE (wd X T) Wx (wpE C T a))) (h1 : nocall ea = true) (hl : (apos.endLine == pos.line) = true) : PE X (.Call (.Attribute ea y apos) [] [] pos) (cE (wd X T) Wx (wpE C T (.umth m a .nil))) :=
  (pe_methT0 ha (passAt tk) h1 hl).imp fun σ H Q ⟨env, h, re, rh, q⟩ => ⟨env, h, re, rh, wpE_mono hC a (fun x h1 q v H1 t1 r1 rv => by
    cases x with
    | ref p =>
      obtain ⟨c, fs, f, e, l, q⟩ := q
      obtain ⟨dx, vs, e1, k, hc⟩ := r1.ins e
      obtain ⟨cx, ecx⟩ := Option.isSome_iff_exists.mp hc
      obtain ⟨fa, fd, ps, n, M, hb, hr, F⟩ := (kc c cx ecx).mth m y f hm l
      refine ⟨p, _, dx, _, fa, fd, ps, n, _, rep_ref.mp rv, e1, fld_none (K := X.K) (N.flm m y · hm), (kf c hc).cls, M, F, hr, hb, ?_⟩
      have q : C f (.ref p :: []) h1 (cQ (wd X T) H Q) (cX (wd X T) Wx σ H) := q
      exact ⟨[.ref p], h1, r1, Reps.one (by rw [rep_ref.mp rv]; exact rep_ref.mpr rfl), hC _ _ _ _ _ _ _ (cQ.mono t1) (cX.mono t1) q⟩
    | _ => exact False.elim q) (fun _ _ z => z) q⟩
include hC in
theorem s_umth {m : Nat} {y : Str} {es : CE} {e : Expr} {r : List Expr} {apos : Pos} (N : NmOk T) (kf : ∀ c, (T.kc c).isSome = true → KlsF X T c) (kc : ∀ c x, T.kc c = some x → KlsC X T C c x) (tk : Takes X Wx) (hm : T.mt m = some y)
    (ha : PE X ea (cE (wd X T) Wx (wpE C T a))) (h1 : nocall ea = true) (hl : (apos.endLine == pos.line) = true) (hs : PA X (e :: r) (cA (wd X T) Wx (wpEs C T es))) (hn : nost e = true) (hn2 : r.all nost = true) (h30 : (e :: r).length < 30) :
    PE X (.Call (.Attribute ea y apos) (e :: r) [] pos) (cE (wd X T) Wx (wpE C T (.umth m a es))) :=
  (pe_methT ha hs (passAt tk) h1 hl hn hn2 h30).imp fun σ H Q ⟨env, h, re, rh, q⟩ => ⟨env, h, re, rh, wpE_mono hC a (fun x h1 q v H1 t1 r1 rv => by
    cases x with
    | ref p =>
      obtain ⟨c, fs, f, e, l, q⟩ := q
      obtain ⟨dx, vs, e1, k, hc⟩ := r1.ins e
      obtain ⟨cx, ecx⟩ := Option.isSome_iff_exists.mp hc
      obtain ⟨fa, fd, ps, n, M, hb, hr, F⟩ := (kc c cx ecx).mth m y f hm l
      refine ⟨p, _, dx, _, fa, fd, ps, n, _, rep_ref.mp rv, e1, fld_none (K := X.K) (N.flm m y · hm), (kf c hc).cls, M, F, hr, hb, ?_⟩
      exact ⟨env, h1, re.mono t1, r1, wpEs_mono hC es (fun avs h2 q vs H2 t2 r2 rvs => ⟨.ref p :: avs, h2, r2, reps_cons.mpr ⟨_, _, rfl, by rw [rep_ref.mp rv]; exact rep_ref.mpr rfl, rvs⟩, hC _ _ _ _ _ _ _ (cQ.mono (t1.trans t2)) (cX.mono (t1.trans t2)) q⟩) (cX.mono t1) q⟩
    | _ => exact False.elim q) (fun _ _ z => z) q⟩
theorem made_rh {h : AH} {H : Hp} {c : Nat} {p dx : Addr} (rh : RH (wd X T) h H) (hc : (T.kc c).isSome = true) (hp : H p = none) (hd : H dx = none) (ne : dx ≠ p) : TLe X.K H (upd (upd H dx (.own p)) p (.ins (kAddr (wd X T) c) dx [])) ∧ RH (wd X T) (aupd h p (.ins c [])) (upd (upd H dx (.own p)) p (.ins (kAddr (wd X T) c) dx [])) := by
  have h1 : (upd H dx (.own p)) p = none := by rw [upd_ne (Ne.symm ne)]; exact hp
  have r1 : RH (wd X T) h (upd H dx (.own p)) := rh.fresh hd
  exact ⟨(TLe.fresh hd).trans (TLe.fresh h1), r1.new h1 (show RO (wd X T) _ p (.ins c []) from ⟨dx, [], upd_same, reps_nil.mpr rfl, hc⟩)⟩
include hC in
theorem s_new {c : Nat} {x : Str} {es : CE} {e : Expr} {r : List Expr} {p : Pos} (kc : ∀ c x, T.kc c = some x → KlsC X T C c x) (tk : Takes X Wx) (hc : T.kc c = some x) (hi : (T.ki c).isSome = true) (hg : Gl X x) (hdb : (x == ("__debug__" : Str)) = false)
    (hs : PA X (e :: r) (cA (wd X T) Wx (wpEs C T es))) (hn : nost e = true) (hn2 : r.all nost = true) : PE X (.Call (.Name x p) (e :: r) [] pos) (cE (wd X T) Wx (wpE C T (.new c es))) := by
  obtain ⟨f, ef⟩ := Option.isSome_iff_exists.mp hi
  obtain ⟨fa, fd, ps, k, M, hb, hr, F⟩ := (kc c x hc).ini f ef
  exact (pe_makeS M F hr hg (kc c x hc).mg hb (passAt tk) hs hdb hn hn2).imp fun σ H Q ⟨env, h, re, rh, q⟩ => ⟨env, h, re, rh, wpEs_mono hC es (fun avs h1 q vs H1 t1 r1 rvs p dx hp hd ne => by
    obtain ⟨f', ef', q⟩ := q
    rw [ef] at ef'; cases ef'
    obtain ⟨t2, r2⟩ := made_rh r1 (by rw [hc]; rfl) hp hd ne
    refine ⟨.ref p :: avs, _, r2, reps_cons.mpr ⟨_, _, rfl, rep_ref.mpr rfl, rvs.mono t2⟩, hC _ _ _ _ _ _ _ (fun v h3 z v' H3 t3 r3 rv => ?_) (cX.mono (t1.trans t2)) (q p (r1.isNone hp))⟩
    obtain ⟨rfl, z⟩ := z
    exact ⟨rep_non.mp rv, z _ _ (t1.trans (t2.trans t3)) r3 (rep_ref.mpr rfl)⟩) (fun _ _ z => z) q⟩
include hC in
theorem s_new0 {c : Nat} {x : Str} {p : Pos} (kc : ∀ c x, T.kc c = some x → KlsC X T C c x) (tk : Takes X Wx) (hc : T.kc c = some x) (hi : (T.ki c).isSome = true) (hg : Gl X x) (hdb : (x == ("__debug__" : Str)) = false) :
    PE X (.Call (.Name x p) [] [] pos) (cE (wd X T) Wx (wpE C T (.new c .nil))) := by
  obtain ⟨f, ef⟩ := Option.isSome_iff_exists.mp hi
  obtain ⟨fa, fd, ps, k, M, hb, hr, F⟩ := (kc c x hc).ini f ef
  exact (pe_makeS0 M F hr hg (kc c x hc).mg hb (passAt tk) hdb).imp fun σ H Q ⟨env, h, re, rh, q⟩ => fun p dx hp hd ne => by
    obtain ⟨f', ef', q⟩ := q
    rw [ef] at ef'; cases ef'
    obtain ⟨t2, r2⟩ := made_rh rh (by rw [hc]; rfl) hp hd ne
    refine ⟨[.ref p], _, r2, Reps.one (rep_ref.mpr rfl), hC _ _ _ _ _ _ _ (fun v h3 z v' H3 t3 r3 rv => ?_) (cX.mono t2) (q p (rh.isNone hp))⟩
    obtain ⟨rfl, z⟩ := z
    exact ⟨rep_non.mp rv, z _ _ (t2.trans t3) r3 (rep_ref.mpr rfl)⟩
structure DtF (X : Cx) (x : Str) (kvs : List (Str × AV)) : Prop where
  ex : ∃ d es n, X.mg x = some (.ref d) ∧ KDict X.K X.w d es n ∧ (∀ z, kvs.lookup z = none → PySem.W.nsIn X.K d z = some none) ∧ ∀ z av, kvs.lookup z = some av → ∃ u v, PySem.W.nsIn X.K d z = some (some u) ∧ RelV v u ∧ ∀ H, Rep X.K H av v
include hC in
theorem s_inD {g : Nat} {neg : Bool} {x : Str} {kvs : List (Str × AV)} {p : Pos} (hg : Gl X x) (hdb : (x == ("__debug__" : Str)) = false) (hd : T.dt g = some (x, kvs)) (F : DtF X x kvs) (ha : PE X ea (cE (wd X T) Wx (wpE C T a))) :
    PE X (.Compare ea [if neg = true then .NotIn else .In] [.Name x p] pos) (cE (wd X T) Wx (wpE C T (.inD a g neg))) := by
  obtain ⟨d, es, n, hm, KD, hno, hyes⟩ := F.ex
  have pn : PE X (.Name x p) (tC (.ref d)) := pe_glob hg hm rfl hdb
  have key : ∀ (x' : AV) (H1 : Hp) (h1 : AH) (v : V) (Q : Bool → Prop), Rep X.K H1 x' v → (∃ t, T.dt g = some t ∧ dtR t.2 x' fun r => Q r.isSome) → ∃ (z : Str) (r : Option Value), v = .str z ∧ PySem.W.nsIn X.K d z = some r ∧ Q r.isSome := by
    intro x' H1 h1 v Q rv q
    obtain ⟨t, et, q⟩ := q
    rw [hd] at et; cases et
    cases x' with
    | str z =>
      have q : Q (kvs.lookup z).isSome := q
      cases e : kvs.lookup z with
      | none => rw [e] at q; exact ⟨z, none, rep_str.mp rv, hno z e, q⟩
      | some av =>
        rw [e] at q
        obtain ⟨u, w, e1, _⟩ := hyes z av e
        exact ⟨z, some u, rep_str.mp rv, e1, q⟩
    | _ => exact False.elim q
  cases neg with
  | false =>
    exact (pe_cmpR (op_in_kd KD) ha pn rfl).imp fun σ H Q ⟨env, h, re, rh, q⟩ => ⟨env, h, re, rh, wpE_mono hC a (fun x' h1 q v H1 t1 r1 rv => by
      obtain ⟨z, r, e1, e2, q⟩ := key x' H1 h1 v (fun b => cQ (wd X T) H Q (.bl b) h1) rv q
      exact ⟨z, r, e1, rfl, e2, cQ.bl (cQ.mono t1 _ _ q) r1⟩) (fun _ _ z => z) q⟩
  | true =>
    exact (pe_cmpR (op_notIn_kd KD) ha pn rfl).imp fun σ H Q ⟨env, h, re, rh, q⟩ => ⟨env, h, re, rh, wpE_mono hC a (fun x' h1 q v H1 t1 r1 rv => by
      obtain ⟨z, r, e1, e2, q⟩ := key x' H1 h1 v (fun b => cQ (wd X T) H Q (.bl (!b)) h1) rv q
      exact ⟨z, r, e1, rfl, e2, cQ.bl (cQ.mono t1 _ _ q) r1⟩) (fun _ _ z => z) q⟩
include hC in
theorem t_inD {g : Nat} {neg : Bool} {x : Str} {kvs : List (Str × AV)} {p : Pos} (hg : Gl X x) (hdb : (x == ("__debug__" : Str)) = false) (hd : T.dt g = some (x, kvs)) (F : DtF X x kvs) (ha : PE X ea (cE (wd X T) Wx (wpE C T a))) :
    PT X (.Compare ea [if neg = true then .NotIn else .In] [.Name x p] pos) (cT (wd X T) Wx (wpT C T (.inD a g neg))) := by
  obtain ⟨d, es, n, hm, KD, hno, hyes⟩ := F.ex
  have pn : PE X (.Name x p) (tC (.ref d)) := pe_glob hg hm rfl hdb
  have key : ∀ (x' : AV) (H1 : Hp) (h1 : AH) (v : V) (Q : Bool → Prop), Rep X.K H1 x' v → (∃ t, T.dt g = some t ∧ dtR t.2 x' fun r => Q r.isSome) → ∃ (z : Str) (r : Option Value), v = .str z ∧ PySem.W.nsIn X.K d z = some r ∧ Q r.isSome := by
    intro x' H1 h1 v Q rv q
    obtain ⟨t, et, q⟩ := q
    rw [hd] at et; cases et
    cases x' with
    | str z =>
      have q : Q (kvs.lookup z).isSome := q
      cases e : kvs.lookup z with
      | none => rw [e] at q; exact ⟨z, none, rep_str.mp rv, hno z e, q⟩
      | some av =>
        rw [e] at q
        obtain ⟨u, w, e1, _⟩ := hyes z av e
        exact ⟨z, some u, rep_str.mp rv, e1, q⟩
    | _ => exact False.elim q
  cases neg with
  | false =>
    exact (pt_cmpR (op_in_kd KD) ha pn rfl).imp fun σ H Q ⟨env, h, re, rh, q⟩ => ⟨env, h, re, rh, wpE_mono hC a (fun x' h1 q v H1 t1 r1 rv => by
      obtain ⟨z, r, e1, e2, q⟩ := key x' H1 h1 v (fun b => bQ (wd X T) H Q b h1) rv q
      exact ⟨z, r, e1, rfl, e2, _, rfl, q _ t1 r1⟩) (fun _ _ z => z) q⟩
  | true =>
    exact (pt_cmpR (op_notIn_kd KD) ha pn rfl).imp fun σ H Q ⟨env, h, re, rh, q⟩ => ⟨env, h, re, rh, wpE_mono hC a (fun x' h1 q v H1 t1 r1 rv => by
      obtain ⟨z, r, e1, e2, q⟩ := key x' H1 h1 v (fun b => bQ (wd X T) H Q (!b) h1) rv q
      exact ⟨z, r, e1, rfl, e2, _, rfl, q _ t1 r1⟩) (fun _ _ z => z) q⟩
include hC in
theorem s_ixD {g : Nat} {x : Str} {kvs : List (Str × AV)} {p : Pos} (hg : Gl X x) (hdb : (x == ("__debug__" : Str)) = false) (hd : T.dt g = some (x, kvs)) (F : DtF X x kvs) (ha : PE X ea (cE (wd X T) Wx (wpE C T a))) (hs : nosl ea = true) :
    PE X (.Subscript (.Name x p) ea pos) (cE (wd X T) Wx (wpE C T (.ixD g a))) := by
  obtain ⟨d, es, n, hm, KD, hno, hyes⟩ := F.ex
  have pn : PE X (.Name x p) (tC (.ref d)) := pe_glob hg hm rfl hdb
  exact (pe_ix ix_kdict pn ha (ix_plain hs)).imp fun σ H Q ⟨env, h, re, rh, q⟩ => ⟨env, h, re, rh, wpE_mono hC a (fun x' h1 q v H1 t1 r1 rv => by
    obtain ⟨t, et, q⟩ := q
    rw [hd] at et; cases et
    cases x' with
    | str z =>
      obtain ⟨av, e, q⟩ := q
      obtain ⟨u, w, e1, e2, e3⟩ := hyes z av e
      exact ⟨d, z, w, rfl, rep_str.mp rv, ⟨es, n, u, KD.at_, KD.lit, e1, e2⟩, cQ.here (cQ.mono t1 _ _ q) r1 (e3 _)⟩
    | _ => exact False.elim q) (fun _ _ z => z) q⟩
end
end PL

namespace PL
open PySem PySem.Spec PyProof.Rows L2

def ItOk (W : Wd) (H0 : Hp) (J : It) (xs : List AV) (chk : AH → Prop) : Prop := ∀ (i : Nat) (H : Hp) (h : AH), TLe W.K H0 H → RH W h H → chk h →
  (∀ ax, xs[i]? = some ax → J.go i H ∧ ∀ x H', J.yld i H x H' → TLe W.K H H' ∧ (∀ h, RH W h H → RH W h H') ∧ Rep W.K H' ax x) ∧ (xs.length = i → J.stop i H)
theorem ItOk.mono {W : Wd} {H0 H1 : Hp} {J : It} {xs : List AV} {chk : AH → Prop} (k : ItOk W H0 J xs chk) (t : TLe W.K H0 H1) : ItOk W H1 J xs chk := fun i H h t1 => k i H h (t.trans t1)
abbrev ATI := AEnv → AH → (List AV → (AH → Prop) → AH → Prop) → AXQ → Prop
def iQ (W : Wd) (H : Hp) (R : It → Hp → Prop) : List AV → (AH → Prop) → AH → Prop := fun xs chk h' => ∀ J H', TLe W.K H H' → RH W h' H' → ItOk W H' J xs chk → R J H'
theorem iQ.mono {W : Wd} {H H' : Hp} {R : It → Hp → Prop} (t : TLe W.K H H') : ∀ xs c h, iQ W H R xs c h → iQ W H' R xs c h := fun _ _ _ q J H2 t2 => q J H2 (t.trans t2)
def cI (W : Wd) (Wx : WX) (t : ATI) : TI := fun σ H R => ∃ env h, REnv W.K H env σ ∧ RH W h H ∧ t env h (iQ W H R) (cX W Wx σ H)
theorem _root_.L2.PI.imp {X : Cx} {tg e : Expr} {t t' : TI} (p : PI X tg e t) (h : ∀ σ H Q, t' σ H Q → t σ H Q) : PI X tg e t' := ⟨fun pins s σ H Q I q => p.run pins s σ H Q I (h σ H Q q)⟩

def eQ (W : Wd) (H : Hp) (Q : L2.St → Hp → Prop) : AEnv → AH → Prop := fun env' h' => ∀ σ' H', TLe W.K H H' → REnv W.K H' env' σ' → RH W h' H' → Q σ' H'
theorem eQ.mono {W : Wd} {H H' : Hp} {Q : L2.St → Hp → Prop} (t : TLe W.K H H') : ∀ e h, eQ W H Q e h → eQ W H' Q e h := fun _ _ q σ H2 t2 => q σ H2 (t.trans t2)
abbrev ATG := AV → AEnv → AH → (AEnv → AH → Prop) → AXQ → Prop
def cG (W : Wd) (Wx : WX) (t : ATG) : TG := fun v σ H Q => ∃ av env h, Rep W.K H av v ∧ REnv W.K H env σ ∧ RH W h H ∧ t av env h (eQ W H Q) (cX W Wx σ H)
abbrev ATGs := List AV → AEnv → AH → (AEnv → AH → Prop) → AXQ → Prop
def cGs (W : Wd) (t : ATGs) : TGs := fun vs σ H Q => ∃ avs env h, Reps W.K H avs vs ∧ REnv W.K H env σ ∧ RH W h H ∧ t avs env h (eQ W H Q) (fun _ _ => False)
theorem _root_.L2.PG.imp {X : Cx} {e : Expr} {t t' : TG} (p : PG X e t) (h : ∀ v σ H Q, t' v σ H Q → t v σ H Q) : PG X e t' := ⟨fun pins s σ H v u Q I r q => p.run pins s σ H v u Q I r (h v σ H Q q)⟩
theorem _root_.L2.PGs.imp {X : Cx} {e : List Expr} {t t' : TGs} (p : PGs X e t) (h : ∀ v σ H Q, t' v σ H Q → t v σ H Q) : PGs X e t' := ⟨fun pins s σ H v u Q I r q => p.run pins s σ H v u Q I r (h v σ H Q q)⟩

theorem rangeL_get : ∀ {n : Nat} {lo : Int} {i : Nat} {ax : AV}, (rangeL lo n)[i]? = some ax → i < n ∧ ax = .int (lo + i)
  | 0, _, _, _, e => by unfold rangeL at e; simp at e
  | n + 1, lo, 0, ax, e => by unfold rangeL at e; simp at e; exact ⟨Nat.succ_pos _, by rw [← e]; simp⟩
  | n + 1, lo, i + 1, ax, e => by
    unfold rangeL at e
    obtain ⟨h1, h2⟩ := rangeL_get (n := n) (i := i) (by simpa using e)
    exact ⟨Nat.succ_lt_succ h1, by rw [h2]; congr 1; omega⟩
theorem rangeL_len : ∀ {n : Nat} {lo : Int}, (rangeL lo n).length = n
  | 0, _ => rfl
  | n + 1, lo => by unfold rangeL; rw [List.length_cons, rangeL_len]
theorem enumL_get : ∀ {xs : List AV} {k i : Nat} {ax : AV}, (enumL k xs)[i]? = some ax → ∃ x, xs[i]? = some x ∧ ax = .wt [.int ((k + i : Nat) : Int), x]
  | [], _, _, _, e => by unfold enumL at e; simp at e
  | x :: xs, k, 0, ax, e => by unfold enumL at e; simp at e; exact ⟨x, rfl, by rw [← e]; simp⟩
  | x :: xs, k, i + 1, ax, e => by
    unfold enumL at e
    obtain ⟨y, h1, h2⟩ := enumL_get (xs := xs) (i := i) (by simpa using e)
    exact ⟨y, by simpa using h1, by rw [h2]; congr 3; omega⟩
theorem enumL_len : ∀ {xs : List AV} {k : Nat}, (enumL k xs).length = xs.length
  | [], _ => rfl
  | x :: xs, k => by unfold enumL; rw [List.length_cons, enumL_len, List.length_cons]
theorem zipL_get : ∀ {xs ys : List AV} {i : Nat} {ax : AV}, (zipL xs ys)[i]? = some ax → ∃ x y, xs[i]? = some x ∧ ys[i]? = some y ∧ ax = .wt [x, y]
  | [], ys, _, _, e => by unfold zipL at e; simp at e
  | x :: xs, [], _, _, e => by unfold zipL at e; simp at e
  | x :: xs, y :: ys, 0, ax, e => by unfold zipL at e; simp at e; exact ⟨x, y, rfl, rfl, e.symm⟩
  | x :: xs, y :: ys, i + 1, ax, e => by
    unfold zipL at e
    obtain ⟨a, b, h1, h2, h3⟩ := zipL_get (xs := xs) (ys := ys) (i := i) (by simpa using e)
    exact ⟨a, b, by simpa using h1, by simpa using h2, h3⟩
theorem zipL_len : ∀ {xs ys : List AV}, (zipL xs ys).length = min xs.length ys.length
  | [], ys => by unfold zipL; simp
  | x :: xs, [] => by unfold zipL; simp
  | x :: xs, y :: ys => by unfold zipL; rw [List.length_cons, zipL_len, List.length_cons, List.length_cons]; omega

section
variable {W : Wd} {H0 : Hp} {a b : Addr} {xs ys : List AV} {vs ws : List V}
theorem it_list (h1 : SqF W.K H0 a vs) (k : Reps W.K H0 xs vs) : ItOk W H0 (Itl W.K a) xs fun _ => True := fun i H h t r _ => by
  have q := (t.f a vs h1).sq
  have k' := k.mono t
  refine ⟨fun ax e => ?_, fun hl => ⟨vs, q, by rw [k.length]; exact Nat.le_of_eq hl⟩⟩
  obtain ⟨v, e1, rv⟩ := k'.get e
  refine ⟨⟨vs, v, q, e1⟩, fun x H' y => ?_⟩
  obtain ⟨rfl, y⟩ := y
  have e2 := y vs q
  rw [e1] at e2; cases e2
  exact ⟨TLe.refl, fun _ z => z, rv⟩
theorem it_lst : ItOk W H0 (Itl W.K a) xs fun h' => h' a = some (.lst xs) := fun i H h t r c => by
  obtain ⟨vs, e, k⟩ := r.lst c
  have q : SqL W.K H a vs := SqL.of e
  refine ⟨fun ax e => ?_, fun hl => ⟨vs, q, by rw [k.length]; exact Nat.le_of_eq hl⟩⟩
  obtain ⟨v, e1, rv⟩ := k.get e
  refine ⟨⟨vs, v, q, e1⟩, fun x H' y => ?_⟩
  obtain ⟨rfl, y⟩ := y
  have e2 := y vs q
  rw [e1] at e2; cases e2
  exact ⟨TLe.refl, fun _ z => z, rv⟩
theorem it_tup (h1 : SqT W.K H0 a vs) (k : Reps W.K H0 xs vs) : ItOk W H0 (Itt W.K a) xs fun _ => True := fun i H h t r _ => by
  have q := t.t a vs h1
  have k' := k.mono t
  refine ⟨fun ax e => ?_, fun hl => ⟨vs, q, by rw [k.length]; exact Nat.le_of_eq hl⟩⟩
  obtain ⟨v, e1, rv⟩ := k'.get e
  refine ⟨⟨vs, v, q, e1⟩, fun x H' y => ?_⟩
  obtain ⟨rfl, y⟩ := y
  have e2 := y vs q
  rw [e1] at e2; cases e2
  exact ⟨TLe.refl, fun _ z => z, rv⟩
theorem it_rng {lo : Int} {n : Nat} : ItOk W H0 (Itr lo n) (rangeL lo n) fun _ => True := fun i H h t r _ => by
  refine ⟨fun ax e => ?_, fun hl => by rw [rangeL_len] at hl; exact Nat.le_of_eq hl⟩
  obtain ⟨hi, rfl⟩ := rangeL_get e
  refine ⟨hi, fun x H' y => ?_⟩
  obtain ⟨rfl, rfl⟩ := y
  exact ⟨TLe.refl, fun _ z => z, rep_int.mpr rfl⟩
theorem it_str {z : Str} : ItOk W H0 (Its z) (z.cps.toList.map fun c => .str ⟨#[c]⟩) fun _ => True := fun i H h t r _ => by
  refine ⟨fun ax e => ?_, fun hl => by rw [List.length_map, Array.length_toList] at hl; exact Nat.le_of_eq hl⟩
  rw [List.getElem?_map, Array.getElem?_toList] at e
  obtain ⟨c, ec, rfl⟩ := Option.map_eq_some_iff.mp e
  refine ⟨(Array.getElem?_eq_some_iff.mp ec).1, fun x H' y => ?_⟩
  obtain ⟨rfl, c', e', rfl⟩ := y
  rw [ec] at e'; cases e'
  exact ⟨TLe.refl, fun _ z => z, rep_str.mpr rfl⟩
theorem it_enum : ItOk W H0 (Ite W.K a) (enumL 0 xs) fun h' => h' a = some (.lst xs) := fun i H h t r c => by
  obtain ⟨vs, e, k⟩ := r.lst c
  have q : SqL W.K H a vs := SqL.of e
  refine ⟨fun ax e => ?_, fun hl => ⟨vs, q, by rw [enumL_len] at hl; rw [k.length]; exact Nat.le_of_eq hl⟩⟩
  obtain ⟨x0, e0, rfl⟩ := enumL_get e
  obtain ⟨v, e1, rv⟩ := k.get e0
  refine ⟨⟨vs, v, q, e1⟩, fun x H' y => ?_⟩
  obtain ⟨Tp, x', rfl, hT, rfl, y⟩ := y
  have e2 := y vs q
  rw [e1] at e2; cases e2
  have t1 : TLe W.K H (upd H Tp (.tup [.int (i : Nat), v])) := TLe.fresh hT
  refine ⟨t1, fun h z => z.fresh hT, rep_wt.mpr ⟨Tp, _, rfl, .inl (.inl upd_same), ?_⟩⟩
  rw [Nat.zero_add]
  exact reps_cons.mpr ⟨_, _, rfl, rep_int.mpr rfl, Reps.one (rv.mono t1)⟩
theorem it_zip : ItOk W H0 (Itz W.K a b) (zipL xs ys) fun h' => h' a = some (.lst xs) ∧ h' b = some (.lst ys) := fun i H h t r c => by
  obtain ⟨vs, e, k⟩ := r.lst c.1
  obtain ⟨ws, e', k'⟩ := r.lst c.2
  have q : SqL W.K H a vs := SqL.of e
  have q' : SqL W.K H b ws := SqL.of e'
  refine ⟨fun ax e => ?_, fun hl => ⟨vs, ws, q, q', ?_⟩⟩
  · obtain ⟨x0, y0, e0, f0, rfl⟩ := zipL_get e
    obtain ⟨v, e1, rv⟩ := k.get e0
    obtain ⟨w, f1, rw'⟩ := k'.get f0
    refine ⟨⟨vs, ws, v, w, q, q', e1, f1⟩, fun x H' y => ?_⟩
    obtain ⟨Tp, x', y', rfl, hT, rfl, y1, y2⟩ := y
    have e2 := y1 vs q
    rw [e1] at e2; cases e2
    have f2 := y2 ws q'
    rw [f1] at f2; cases f2
    have t1 : TLe W.K H (upd H Tp (.tup [v, w])) := TLe.fresh hT
    exact ⟨t1, fun h z => z.fresh hT, rep_wt.mpr ⟨Tp, _, rfl, .inl (.inl upd_same), reps_cons.mpr ⟨_, _, rfl, rv.mono t1, Reps.one (rw'.mono t1)⟩⟩⟩
  · rw [zipL_len] at hl
    rw [k.length, k'.length]
    omega
theorem it_zipT (h1 : SqT W.K H0 a vs) (k : Reps W.K H0 xs vs) (h2 : SqT W.K H0 b ws) (k' : Reps W.K H0 ys ws) : ItOk W H0 (RZ.ItzT W.K a b) (zipL xs ys) fun _ => True := fun i H h t r c => by
  have q := t.t a vs h1
  have q' := t.t b ws h2
  have k := k.mono t
  have k' := k'.mono t
  refine ⟨fun ax e => ?_, fun hl => ⟨vs, ws, q, q', ?_⟩⟩
  · obtain ⟨x0, y0, e0, f0, rfl⟩ := zipL_get e
    obtain ⟨v, e1, rv⟩ := k.get e0
    obtain ⟨w, f1, rw'⟩ := k'.get f0
    refine ⟨⟨vs, ws, v, w, q, q', e1, f1⟩, fun x H' y => ?_⟩
    obtain ⟨Tp, x', y', rfl, hT, rfl, y1, y2⟩ := y
    have e2 := y1 vs q
    rw [e1] at e2; cases e2
    have f2 := y2 ws q'
    rw [f1] at f2; cases f2
    have t1 : TLe W.K H (upd H Tp (.tup [v, w])) := TLe.fresh hT
    exact ⟨t1, fun h z => z.fresh hT, rep_wt.mpr ⟨Tp, _, rfl, .inl (.inl upd_same), reps_cons.mpr ⟨_, _, rfl, rv.mono t1, Reps.one (rw'.mono t1)⟩⟩⟩
  · rw [zipL_len] at hl
    rw [k.length, k'.length]
    omega
end

section
variable {X : Cx} {T : Tb} {C : ACall} {Wx : WX} (hC : CMono C) {a b c : CE} {ea eb ec tg : Expr} {pos : Pos}
theorem iter_val {pins : List (Addr × Obj)} {σ : L2.St} {H : Hp} {s : Shared} {R : It → Hp → Prop} {ax : AV} {x : V} {v : Value} {h : AH} (I : Inv X pins σ H s) (rx : RelV x v) (rh : RH (wd X T) h H) (r : Rep X.K H ax x) (q : itR ax h fun xs chk => iQ (wd X T) H R xs chk h) :
    wpAny (model X.prog X.w) X.A (pyIter v) (PIE X pins σ tg R) X.xe s := by
  cases ax with
  | tup xs =>
    obtain ⟨a, vs, rfl, t, k⟩ := rep_tupT r
    cases (show v = Value.ref a from rx)
    obtain ⟨its, rv, p, hz⟩ := I.tuple t
    refine wpAny_pyIter_tuple (show s.heap.IsTuple a its.toArray from p) ?_
    refine ⟨s.heap.objs.size, [s.heap.objs.size], _, _, H, rfl, I.kept (t' := s.toks) fun b o e => Heap.get?_push_of_some _ e, turn_tuple a _, ⟨_, Heap.get?_push_size _ rfl, rfl, rfl⟩, fun b hb => ?_, q _ _ TLe.refl rh (it_tup t k)⟩
    have e : b = s.heap.objs.size := by simpa using hb
    subst e
    exact I.fpOk (Nat.le_refl _) (I.hok.fresh (Nat.le_refl _))
  | rl xs =>
    obtain ⟨a, vs, rfl, t, k⟩ := rep_rl.mp r
    cases (show v = Value.ref a from rx)
    obtain ⟨its, rv, p, hz⟩ := I.list t.sq
    refine wpAny_pyIter_list p.isList ?_
    refine ⟨s.heap.objs.size, [s.heap.objs.size], _, _, H, rfl, I.kept (t' := s.toks) fun b o e => Heap.get?_push_of_some _ e, turn_list a _, ⟨_, Heap.get?_push_size _ rfl, rfl, rfl⟩, fun b hb => ?_, q _ _ TLe.refl rh (it_list t k)⟩
    have e : b = s.heap.objs.size := by simpa using hb
    subst e
    exact I.fpOk (Nat.le_refl _) (I.hok.fresh (Nat.le_refl _))
  | str z =>
    cases (show x = V.str z from rep_str.mp r)
    obtain ⟨t, rfl⟩ := (show ∃ t, v = Value.str z t from rx)
    have q := q _ _ TLe.refl rh (it_str (W := (wd X T)) (H0 := H) (z := z))
    cases ha : z.cps.all (· < 128)
    · exact wpAny_pyIter_wide ha (pi_one (tk := s.toks) I _ (turn_str _ z t "str_iterator" (.inr rfl)) ⟨_, Heap.get?_push_size _ rfl, rfl, rfl⟩ q)
    · exact wpAny_pyIter_ascii ha (pi_one (tk := s.toks) I _ (turn_str _ z t "str_ascii_iterator" (.inl rfl)) ⟨_, Heap.get?_push_size _ rfl, rfl, rfl⟩ q)
  | ref a =>
    obtain ⟨xs, e, q⟩ := q
    cases (show x = V.ref a from rep_ref.mp r)
    cases (show v = Value.ref a from rx)
    obtain ⟨vs, h1, k⟩ := rh.lst e
    obtain ⟨its, rv, p, hz⟩ := I.list (X := X) (SqL.of (K := X.K) h1)
    refine wpAny_pyIter_list p.isList ?_
    refine ⟨s.heap.objs.size, [s.heap.objs.size], _, _, H, rfl, I.kept (t' := s.toks) fun b o e => Heap.get?_push_of_some _ e, turn_list a _, ⟨_, Heap.get?_push_size _ rfl, rfl, rfl⟩, fun b hb => ?_, q _ _ TLe.refl rh it_lst⟩
    have e : b = s.heap.objs.size := by simpa using hb
    subst e
    exact I.fpOk (Nat.le_refl _) (I.hok.fresh (Nat.le_refl _))
  | _ => exact False.elim q
include hC in
theorem i_val (ha : PE X ea (cE (wd X T) Wx (wpE C T a))) : PI X tg ea (cI (wd X T) Wx (wpI C T (.val a))) := by
  refine ⟨fun pins s σ H R I h => ?_⟩
  obtain ⟨env, h, re, rh, q⟩ := h
  refine thn (ha.run pins s σ H (fun x H1 => ∃ ax h1, RH (wd X T) h1 H1 ∧ Rep X.K H1 ax x ∧ itR ax h1 fun xs chk => iQ (wd X T) H1 R xs chk h1) I ⟨env, h, re, rh, wpE_mono hC a (fun x h1 q v H1 t1 r1 rv => ⟨x, h1, r1, rv, itR_mono (fun xs c q => iQ.mono t1 _ _ _ q) q⟩) (fun _ _ z => z) q⟩) fun v s1 ⟨x, H1, I1, r1, ax, h1, rh1, rx1, q1⟩ => ?_
  exact iter_val I1 r1 rh1 rx1 q1
include hC in
theorem i_range1 {p : Pos} (hg : Gl X "range") (hm : X.mg "range" = none) (ha : PE X ea (cE (wd X T) Wx (wpE C T a))) (hn : nost ea = true) : PI X tg (.Call (.Name "range" p) [ea] [] pos) (cI (wd X T) Wx (wpI C T (.range1 a))) :=
  (pi_range1 hg hm (pa_cons ha pa_nil (star_cons hn)) (by rw [star_cons hn]; rfl)).imp fun σ H R ⟨env, h, re, rh, q⟩ => ⟨env, h, re, rh, wpE_mono hC a (fun x h1 ⟨n, e, b1, b2, q⟩ v H1 t1 r1 rv =>
    ⟨n, by rw [e] at rv; rw [rep_int.mp rv], b1, b2, q _ _ t1 r1 it_rng⟩) (fun _ _ z => z) q⟩
include hC in
theorem i_range2 {p : Pos} (hg : Gl X "range") (hm : X.mg "range" = none) (ha : PE X ea (cE (wd X T) Wx (wpE C T a))) (hb : PE X eb (cE (wd X T) Wx (wpE C T b))) (hn : nost ea = true) (hn2 : nost eb = true) : PI X tg (.Call (.Name "range" p) [ea, eb] [] pos) (cI (wd X T) Wx (wpI C T (.range2 a b))) :=
  (pi_range2 hg hm (pa_cons ha (pa_cons hb pa_nil (star_cons hn2)) (star_cons hn)) (by rw [star_cons hn, star_cons hn2]; rfl) (by rw [star_cons hn2]; rfl)).imp fun σ H R ⟨env, h, re, rh, q⟩ =>
    ⟨env, h, re, rh, wpE_mono hC a (fun x h1 q v H1 t1 r1 rv => ⟨env, h1, re.mono t1, r1, wpE_mono hC b (fun y h2 ⟨m, n, e1, e2, bs, q⟩ w H2 t2 r2 rw' =>
      ⟨m, n, by rw [e1] at rv; rw [e2] at rw'; rw [rep_int.mp rv, rep_int.mp rw'], bs, q _ _ (t1.trans t2) r2 it_rng⟩) (cX.mono t1) q⟩) (fun _ _ z => z) q⟩
theorem isL_ty {H : Hp} {h : AH} {ax : AV} {x : V} (rh : RH (wd X T) h H) (r : Rep X.K H ax x) (q : isL ax h) : tyV X.K "list" x H := by
  cases ax with
  | ref a =>
    obtain ⟨xs, e⟩ := q
    obtain ⟨vs, h1, _⟩ := rh.lst e
    rw [rep_ref.mp r]
    exact .inl ⟨rfl, vs, SqL.of h1⟩
  | _ => exact False.elim q
include hC in
theorem s_append {o ex : Expr} {eo ee : CE} {apos cpos : Pos} (ho : PE X o (cE (wd X T) Wx (wpE C T eo))) (hs : PA X [ex] (cA (wd X T) Wx (wpEs C T ee))) (h1 : nocall o = true) (hl : (apos.endLine == cpos.line) = true) (hn : nost ex = true) :
    PE X (.Call (.Attribute o "append" apos) [ex] [] cpos) (cE (wd X T) Wx (wpE C T (.mth .append eo ee))) :=
  (pe_bm PySem.F.plainAttrs_list PySem.F.slot_list_append PySem.F.type_list_append (m_append (T := T)) ho hs (base_plain h1) (by
      rw [star_cons hn]; rfl) hl (star_cons hn) rfl).imp fun σ H Q ⟨env, h, re, rh, q⟩ => ⟨env, h, re, rh, wpE_mono hC eo (fun x h1 q v H1 t1 r1 rv => ⟨isL_ty r1 rv q.1, env, h1, re.mono t1, r1,
        wpEs_mono hC ee (fun avs h2 q vs H2 t2 r2 rvs => ⟨x, avs, h2, r2, rv.mono t2, rvs, mthR_mono (cQ.mono (t1.trans t2)) q⟩) (cX.mono t1) q.2⟩) (fun _ _ z => z) q⟩
include hC in
theorem s_extend {o ex : Expr} {eo ee : CE} {apos cpos : Pos} (ho : PE X o (cE (wd X T) Wx (wpE C T eo))) (hs : PA X [ex] (cA (wd X T) Wx (wpEs C T ee))) (h1 : nocall o = true) (hl : (apos.endLine == cpos.line) = true) (hn : nost ex = true) :
    PE X (.Call (.Attribute o "extend" apos) [ex] [] cpos) (cE (wd X T) Wx (wpE C T (.mth .extend eo ee))) :=
  (pe_bm PySem.F.plainAttrs_list PySem.F.slot_list_extend PySem.F.type_list_extend (m_extend (T := T)) ho hs (base_plain h1) (by
      rw [star_cons hn]; rfl) hl (star_cons hn) rfl).imp fun σ H Q ⟨env, h, re, rh, q⟩ => ⟨env, h, re, rh, wpE_mono hC eo (fun x h1 q v H1 t1 r1 rv => ⟨isL_ty r1 rv q.1, env, h1, re.mono t1, r1,
        wpEs_mono hC ee (fun avs h2 q vs H2 t2 r2 rvs => ⟨x, avs, h2, r2, rv.mono t2, rvs, mthR_mono (cQ.mono (t1.trans t2)) q⟩) (cX.mono t1) q.2⟩) (fun _ _ z => z) q⟩
include hC in
theorem s_pop {o : Expr} {eo : CE} {apos cpos : Pos} (ho : PE X o (cE (wd X T) Wx (wpE C T eo))) (h1 : nocall o = true) (hl : (apos.endLine == cpos.line) = true) :
    PE X (.Call (.Attribute o "pop" apos) [] [] cpos) (cE (wd X T) Wx (wpE C T (.mth .pop eo .nil))) :=
  (pe_bm0 PySem.F.plainAttrs_list PySem.F.slot_list_pop PySem.F.type_list_pop (m_pop (T := T)) ho (base_plain h1) hl).imp fun σ H Q ⟨env, h, re, rh, q⟩ => ⟨env, h, re, rh, wpE_mono hC eo (fun x h1 q v H1 t1 r1 rv => ⟨isL_ty r1 rv q.1,
    x, [], h1, r1, rv, reps_nil.mpr rfl, mthR_mono (cQ.mono t1) q.2⟩) (fun _ _ z => z) q⟩
include hC in
theorem s_popA {o ex : Expr} {eo ee : CE} {apos cpos : Pos} (ho : PE X o (cE (wd X T) Wx (wpE C T eo))) (hs : PA X [ex] (cA (wd X T) Wx (wpEs C T ee))) (h1 : nocall o = true) (hl : (apos.endLine == cpos.line) = true) (hn : nost ex = true) :
    PE X (.Call (.Attribute o "pop" apos) [ex] [] cpos) (cE (wd X T) Wx (wpE C T (.mth .pop eo ee))) :=
  (pe_bm PySem.F.plainAttrs_list PySem.F.slot_list_pop PySem.F.type_list_pop (m_pop (T := T)) ho hs (base_plain h1) (by
      rw [star_cons hn]; rfl) hl (star_cons hn) rfl).imp fun σ H Q ⟨env, h, re, rh, q⟩ => ⟨env, h, re, rh, wpE_mono hC eo (fun x h1 q v H1 t1 r1 rv => ⟨isL_ty r1 rv q.1, env, h1, re.mono t1, r1,
        wpEs_mono hC ee (fun avs h2 q vs H2 t2 r2 rvs => ⟨x, avs, h2, r2, rv.mono t2, rvs, mthR_mono (cQ.mono (t1.trans t2)) q⟩) (cX.mono t1) q.2⟩) (fun _ _ z => z) q⟩
theorem isD_dat {H : Hp} {h : AH} {ax : AV} {x : V} (rh : RH (wd X T) h H) (r : Rep X.K H ax x) (q : PL.isD ax h) : ∃ a, x = .ref a ∧ IsD H a := by
  cases ax with
  | ref a =>
    obtain ⟨xs, e⟩ := q
    obtain ⟨vs, h1, _⟩ := rh.dK e
    exact ⟨a, rep_ref.mp r, .inl ⟨_, .inl h1⟩⟩
  | _ => exact False.elim q
theorem get_dat {H : Hp} {h : AH} {ax ak ad : AV} {x k d : V} {Q : VK} (rh : RH (wd X T) h H) (r : Rep X.K H ax x) (r2 : Rep X.K H ak k) (r3 : Rep X.K H ad d) (q : getR ax ak ad h (cQ (wd X T) H Q)) : ∀ a, x = .ref a → ∃ o, DGet H a k o ∧ Q (o.getD d) H := by
  intro b eb
  cases ax with
  | ref a =>
    obtain ⟨kvs, k', ek, e, q⟩ := q
    obtain ⟨vs, h1, h2⟩ := rh.dK e
    have ex := key_rep ek r2
    have ea := rep_ref.mp r
    rw [eb] at ea
    cases ea
    refine ⟨valV ((kvs.map (·.1)).zip vs) k', by rw [ex]; exact DGet.k h1, ?_⟩
    rcases dget_rel k' h2 with ⟨e1, e2⟩ | ⟨x', v', e1, e2, rv⟩
    · rw [e2]; rw [e1] at q; exact cQ.here (W := (wd X T)) q rh r3
    · rw [e2]; rw [e1] at q; exact cQ.here (W := (wd X T)) q rh rv
  | _ => exact False.elim q
include hC in
theorem s_get2 {o k d : Expr} {eo ek ed : CE} {apos cpos : Pos} (hu : X.A.units + 80 < cLine) (ho : PE X o (cE (wd X T) Wx (wpE C T eo))) (hk : PE X k (cE (wd X T) Wx (wpE C T ek))) (hd : PE X d (cE (wd X T) Wx (wpE C T ed))) (h1 : nocall o = true) (hl : (apos.endLine == cpos.line) = true) (hn : nost k = true) (hn2 : nost d = true) :
    PE X (.Call (.Attribute o "get" apos) [k, d] [] cpos) (cE (wd X T) Wx (wpE C T (.mth .get eo (.cons ek (.cons ed .nil))))) :=
  (pe_dget2 (by omega) ho hk hd ⟨base_plain h1, by rw [star_cons hn, star_cons hn2]; rfl, hl, by rw [star_cons hn, star_cons hn2]; rfl⟩).imp fun σ H Q ⟨env, h, re, rh, q⟩ =>
    ⟨env, h, re, rh, wpE_mono hC eo (fun x h1 q v H1 t1 r1 rv => by
      obtain ⟨a, ea, hd⟩ := isD_dat (T := T) r1 rv q.1
      refine ⟨a, ea, hd, env, h1, re.mono t1, r1, wpE_mono hC ek (fun y h2 q w H2 t2 r2 rw' => ⟨env, h2, re.mono (t1.trans t2), r2, wpE_mono hC ed (fun z h3 q u H3 t3 r3 ru =>
        get_dat (T := T) r3 (rv.mono (t2.trans t3)) (rw'.mono t3) ru (by
          have q : getR x y z h3 (cQ (wd X T) H Q) := q
          cases x with
          | ref _ => obtain ⟨kvs, k', e1, e2, q⟩ := q; exact ⟨kvs, k', e1, e2, cQ.mono ((t1.trans t2).trans t3) _ _ q⟩
          | _ => exact False.elim q) a ea) (cX.mono (t1.trans t2)) q⟩) (cX.mono t1) q.2⟩) (fun _ _ z => z) q⟩
include hC in
theorem s_get1 {o k : Expr} {eo ek : CE} {apos cpos : Pos} (hu : X.A.units + 80 < cLine) (ho : PE X o (cE (wd X T) Wx (wpE C T eo))) (hk : PE X k (cE (wd X T) Wx (wpE C T ek))) (h1 : nocall o = true) (hl : (apos.endLine == cpos.line) = true) (hn : nost k = true) :
    PE X (.Call (.Attribute o "get" apos) [k] [] cpos) (cE (wd X T) Wx (wpE C T (.mth .get eo (.cons ek .nil)))) :=
  (pe_dget1 (by omega) ho hk ⟨base_plain h1, by rw [star_cons hn]; rfl, hl, by rw [star_cons hn]; rfl⟩).imp fun σ H Q ⟨env, h, re, rh, q⟩ =>
    ⟨env, h, re, rh, wpE_mono hC eo (fun x h1 q v H1 t1 r1 rv => by
      obtain ⟨a, ea, hd⟩ := isD_dat (T := T) r1 rv q.1
      refine ⟨a, ea, hd, env, h1, re.mono t1, r1, wpE_mono hC ek (fun y h2 q w H2 t2 r2 rw' =>
        get_dat (T := T) (ad := .non) (d := .non) r2 (rv.mono t2) rw' (rep_non.mpr rfl) (by
          have q : getR x y .non h2 (cQ (wd X T) H Q) := q
          cases x with
          | ref _ => obtain ⟨kvs, k', e1, e2, q⟩ := q; exact ⟨kvs, k', e1, e2, cQ.mono (t1.trans t2) _ _ q⟩
          | _ => exact False.elim q) a ea) (cX.mono t1) q.2⟩) (fun _ _ z => z) q⟩
include hC in
theorem s_index {o ex : Expr} {eo ee : CE} {apos cpos : Pos} (ho : PE X o (cE (wd X T) Wx (wpE C T eo))) (hs : PA X [ex] (cA (wd X T) Wx (wpEs C T ee))) (h1 : nocall o = true) (hl : (apos.endLine == cpos.line) = true) (hn : nost ex = true) :
    PE X (.Call (.Attribute o "index" apos) [ex] [] cpos) (cE (wd X T) Wx (wpE C T (.mth .index eo ee))) :=
  (pe_bm PySem.F.plainAttrs_list PySem.F.slot_list_index PySem.F.type_list_index (m_index (T := T)) ho hs (base_plain h1) (by
      rw [star_cons hn]; rfl) hl (star_cons hn) rfl).imp fun σ H Q ⟨env, h, re, rh, q⟩ => ⟨env, h, re, rh, wpE_mono hC eo (fun x h1 q v H1 t1 r1 rv => ⟨isL_ty r1 rv q.1, env, h1, re.mono t1, r1,
        wpEs_mono hC ee (fun avs h2 q vs H2 t2 r2 rvs => ⟨x, avs, h2, r2, rv.mono t2, rvs, mthR_mono (cQ.mono (t1.trans t2)) q⟩) (cX.mono t1) q.2⟩) (fun _ _ z => z) q⟩
include hC in
theorem s_insert {o ex ey : Expr} {eo ee : CE} {apos cpos : Pos} (ho : PE X o (cE (wd X T) Wx (wpE C T eo))) (hs : PA X [ex, ey] (cA (wd X T) Wx (wpEs C T ee))) (h1 : nocall o = true) (hl : (apos.endLine == cpos.line) = true) (hn : nost ex = true) (hn2 : nost ey = true) :
    PE X (.Call (.Attribute o "insert" apos) [ex, ey] [] cpos) (cE (wd X T) Wx (wpE C T (.mth .insert eo ee))) :=
  (pe_bm PySem.F.plainAttrs_list PySem.F.slot_list_insert PySem.F.type_list_insert (m_insert (T := T)) ho hs (base_plain h1) (by
      rw [star_cons hn, star_cons hn2]; rfl) hl (star_cons hn) (by rw [star_cons hn2]; rfl)).imp fun σ H Q ⟨env, h, re, rh, q⟩ => ⟨env, h, re, rh, wpE_mono hC eo (fun x h1 q v H1 t1 r1 rv => ⟨isL_ty r1 rv q.1, env, h1, re.mono t1, r1,
        wpEs_mono hC ee (fun avs h2 q vs H2 t2 r2 rvs => ⟨x, avs, h2, r2, rv.mono t2, rvs, mthR_mono (cQ.mono (t1.trans t2)) q⟩) (cX.mono t1) q.2⟩) (fun _ _ z => z) q⟩
end
end PL

namespace PL
open PySem PySem.Spec PyProof.Rows L2
theorem vals_back {xs : List V} {us : List Value} (r : Vals xs us) : ∀ {i : Nat} {u : Value}, us[i]? = some u → ∃ v, xs[i]? = some v ∧ RelV v u := by
  induction r with
  | nil => intro i u h; simp at h
  | cons a b ih =>
    intro i u h
    cases i with
    | zero => simp at h; subst h; exact ⟨_, rfl, a⟩
    | succ i => exact ih (by simpa using h)
inductive Zk where | lst (a : Addr) | tup (a : Addr) | str (z : Str)
def Zk.own : Zk → List Addr | .lst a => [a] | .tup a => [a] | .str _ => []
def Zk.ln (K : PySem.W.Frag) (H : Hp) : Zk → Nat → Prop
  | .lst a, n => ∃ xs : List V, SqL K H a xs ∧ xs.length = n
  | .tup a, n => ∃ xs : List V, SqT K H a xs ∧ xs.length = n
  | .str z, n => z.cps.size = n
def Zk.is_ (K : PySem.W.Frag) (H : Hp) : Zk → Nat → V → Prop
  | .lst a, i, v => ∀ xs : List V, SqL K H a xs → xs[i]? = some v
  | .tup a, i, v => ∀ xs : List V, SqT K H a xs → xs[i]? = some v
  | .str z, i, v => ∃ c, z.cps[i]? = some c ∧ v = .str ⟨#[c]⟩
def Zk.tn : Zk → Addr → Nat → Heap → Prop
  | .lst a, it, i, h => h.IsListIter it a i
  | .tup a, it, i, h => h.IsTupleIter it a i
  | .str z, it, i, h => ∃ t, h.IsStrIter it (strIterType z) z t i
theorem Zk.tn_obj {k : Zk} {it : Addr} {i : Nat} {h : Heap} (st : k.tn it i h) : ∃ o, h.get? it = some o ∧ ∀ v, o.data ≠ .cell v := by
  cases k with
  | lst a => obtain ⟨o, e, _, d⟩ := st; exact ⟨o, e, fun v q => by rw [d] at q; cases q⟩
  | tup a => obtain ⟨o, e, _, d⟩ := st; exact ⟨o, e, fun v q => by rw [d] at q; cases q⟩
  | str z => obtain ⟨t, o, e, _, d⟩ := st; exact ⟨o, e, fun v q => by rw [d] at q; cases q⟩
theorem Zk.tn_at {k : Zk} {it : Addr} {i : Nat} {h h' : Heap} (st : k.tn it i h) (f : ∀ o, h.get? it = some o → h'.get? it = some o) : k.tn it i h' := by
  cases k with
  | lst a => exact Heap.IsListIter.at st f
  | tup a => exact Heap.IsTupleIter.at st f
  | str z => obtain ⟨t, o, e, r⟩ := st; exact ⟨t, o, f o e, r⟩
theorem Zk.draw {X : Cx} {pins : List (Addr × Obj)} {σ : L2.St} {H : Hp} {s : Shared} (I : Inv X pins σ H s) (hh : X.A.in1.handled = none) {k : Zk} {it : Addr} {i n : Nat} (st : k.tn it i s.heap) (ln : k.ln X.K H n) (hne : it ∉ k.own) :
    ∃ (fp : List Addr) (P : Nat → Value → Prop) (St : Nat → Heap → Prop), Draws X.prog X.w X.A.in1 it fp n P St ∧ St i s.heap ∧ fp = it :: k.own ∧ (∀ x, P i x → ∃ v, RelV v x ∧ k.is_ X.K H i v) ∧ ∀ j h, St j h → k.tn it j h := by
  cases k with
  | lst a =>
    obtain ⟨xs, hq, rfl⟩ := ln
    obtain ⟨its, rv, p, _⟩ := I.list hq
    have hl := rv.length
    have D := Draws.list (prog := X.prog) (w := X.w) hh it a (fun e => hne (by rw [e]; exact List.mem_cons_self)) its.toArray
    rw [show its.toArray.size = xs.length by simp [hl]] at D
    refine ⟨_, _, _, D, ⟨st, p.isList⟩, rfl, fun x hx => ?_, fun j h q => q.1⟩
    have hx : its[i]? = some x := by simpa using hx
    obtain ⟨v, e, r⟩ := vals_back rv hx
    exact ⟨v, r, fun ys hy => by rw [I.list_inj hy hq]; exact e⟩
  | tup a =>
    obtain ⟨xs, hq, rfl⟩ := ln
    obtain ⟨its, rv, p, _⟩ := I.tuple hq
    have hl := rv.length
    have D := Draws.tuple (prog := X.prog) (w := X.w) hh it a (fun e => hne (by rw [e]; exact List.mem_cons_self)) its.toArray
    rw [show its.toArray.size = xs.length by simp [hl]] at D
    refine ⟨_, _, _, D, ⟨st, p⟩, rfl, fun x hx => ?_, fun j h q => q.1⟩
    have hx : its[i]? = some x := by simpa using hx
    obtain ⟨v, e, r⟩ := vals_back rv hx
    exact ⟨v, r, fun ys hy => by rw [I.tuple_inj hy hq]; exact e⟩
  | str z =>
    obtain rfl : z.cps.size = n := ln
    obtain ⟨t, st⟩ := st
    refine ⟨_, _, _, Draws.text hh it z t, st, rfl, fun x hx => ?_, fun j h q => ⟨t, q⟩⟩
    obtain ⟨c, u, e, rfl⟩ := hx
    exact ⟨.str ⟨#[c]⟩, ⟨u, rfl⟩, c, e, rfl⟩
structure ZApart (z TI TO i1 i2 : Addr) (o1 o2 : List Addr) : Prop where
  nd : [z, TI, TO, i1, i2].Nodup
  n1 : ∀ a ∈ o1, a ∉ [z, TI, TO, i1, i2]
  n2 : ∀ a ∈ o2, a ∉ [z, TI, TO, i1, i2]
theorem ZApart.sep {z TI TO i1 i2 : Addr} {o1 o2 : List Addr} (D : ZApart z TI TO i1 i2 o1 o2) : ZipSep2 z TI TO i1 i2 (i1 :: o1) (i2 :: o2) := by
  obtain ⟨nd, n1, n2⟩ := D
  simp only [List.nodup_cons, List.mem_cons, List.not_mem_nil, or_false, not_or] at nd n1 n2
  obtain ⟨⟨a1, a2, a3, a4⟩, ⟨b1, b2, b3⟩, ⟨c1, c2⟩, d1, _⟩ := nd
  have f1 : ∀ x : Addr, x ≠ i1 → x ∉ o1 → x ∉ i1 :: o1 := fun x p q h => (List.mem_cons.mp h).elim p q
  have f2 : ∀ x : Addr, x ≠ i2 → x ∉ o2 → x ∉ i2 :: o2 := fun x p q h => (List.mem_cons.mp h).elim p q
  exact ⟨Ne.symm a1, Ne.symm a2, b1, b2, List.mem_cons_self, f1 _ a3 fun h => (n1 _ h).1 rfl, f1 _ c1 fun h => (n1 _ h).2.2.1 rfl, b3, List.mem_cons_self, f2 _ a4 fun h => (n2 _ h).1 rfl, f2 _ c2 fun h => (n2 _ h).2.2.1 rfl,
    f2 _ d1 fun h => (n2 _ h).2.2.2.1 rfl, f1 _ (Ne.symm d1) fun h => (n1 _ h).2.2.2.2 rfl⟩
def ItzG (K : PySem.W.Frag) (k1 k2 : Zk) : It :=
  ⟨fun i H => ∃ n m, k1.ln K H n ∧ k2.ln K H m ∧ i < n ∧ i < m,
    fun i H v H' => ∃ T x y, v = .ref T ∧ H T = none ∧ H' = upd H T (.tup [x, y]) ∧ k1.is_ K H i x ∧ k2.is_ K H i y,
    fun i H => ∃ n m, k1.ln K H n ∧ k2.ln K H m ∧ i ≤ n ∧ i ≤ m ∧ (i = n ∨ i = m)⟩
theorem turn_zipG {P : Program} {w : World} {K : PySem.W.Frag} {elts : List Expr} {kk : Nat} {tpos : Pos} {k1 k2 : Zk} {z TI TO i1 i2 : Addr} (D : ZApart z TI TO i1 i2 k1.own k2.own) :
    Turn P w K (.Tuple elts kk tpos) (ItzG K k1 k2) [z, TI, TO, i1, i2] z (fun i h => IsZip h z TI TO .none ∧ IsTupOf2 h TI (.ref i1) (.ref i2) ∧ (∃ x y, IsTupOf2 h TO x y) ∧ k1.tn i1 i h ∧ k2.tn i2 i h) where
  mem := by simp
  obj := fun i h st c hc => by
    obtain ⟨hz, hTI, ⟨x, y, hTO⟩, h1, h2⟩ := st
    have e' : c = z ∨ c = TI ∨ c = TO ∨ c = i1 ∨ c = i2 := by simpa using hc
    rcases e' with q | q | q | q | q
    · rw [q]; exact ⟨_, hz, fun v q => nomatch q⟩
    · rw [q]; exact ⟨_, hTI, fun v q => nomatch q⟩
    · rw [q]; exact ⟨_, hTO, fun v q => nomatch q⟩
    · rw [q]; exact Zk.tn_obj h1
    · rw [q]; exact Zk.tn_obj h2
  keep := fun i h h' st k => by
    obtain ⟨hz, hTI, ⟨x, y, hTO⟩, h1, h2⟩ := st
    exact ⟨k z (by simp) _ hz, k TI (by simp) _ hTI, ⟨x, y, k TO (by simp) _ hTO⟩, Zk.tn_at h1 fun o q => k i1 (by simp) o q, Zk.tn_at h2 fun o q => k i2 (by simp) o q⟩
  item := by
    intro X hP hw hK hc i pins s σ H E I hf st hg
    subst hP hw hK
    obtain ⟨hz, hTI, ⟨x0, y0, hTO⟩, h1, h2⟩ := st
    obtain ⟨n, m, l1, l2, lt1, lt2⟩ := hg
    have S := D.sep
    have ne1 : i1 ∉ k1.own := fun h => D.n1 _ h (by simp)
    have ne2 : i2 ∉ k2.own := fun h => D.n2 _ h (by simp)
    obtain ⟨fp1, P1, St1, D1, st1, rfl, r1, b1⟩ := Zk.draw I (I.ok.hd hc) h1 l1 ne1
    obtain ⟨fp2, P2, St2, D2, st2, rfl, r2, b2⟩ := Zk.draw I (I.ok.hd hc) h2 l2 ne2
    have hzl : z < s.heap.objs.size := Heap.lt_size hz
    refine wpAny_pyNext_zipD2_item S D1 D2 hz hTI hTO st1 st2 lt1 lt2 fun x1 x2 h' tk y1 y2 z' TO' s1' s2' hT hsz hk => ?_
    obtain ⟨x, rx, ix⟩ := r1 x1 y1
    obtain ⟨y, ry, iy⟩ := r2 x2 y2
    refine ⟨_, rfl, wpAny_letOwnedTupleGo_zip (s := { s with heap := h', toks := tk }) z' fun h'' z'' sb => ?_⟩
    have hT2 : h''.get? s.heap.objs.size = some { cls := .type "tuple", data := .seq #[x1, x2] } := (sb.2 _ (Nat.ne_of_gt hzl)).trans hT
    have new : ObjOk X.prog X.w (upd H s.heap.objs.size (.tup [x, y])) h'' s.heap.objs.size (.tup [x, y]) :=
      ⟨by show 2 ≤ sizeLine; decide, [x1, x2], .cons rx (.cons ry .nil), ⟨_, hT2, rfl, _, rfl⟩⟩
    have I1 : Inv X pins σ (upd H s.heap.objs.size (.tup [x, y])) { s with heap := h'', toks := tk } :=
      I.turnedNew (t' := tk) (ch := [z, TI, TO, i1, i2]) (fun c o hb q => (sb.2 c (fun q' => hb (by simp [q']))).trans (hk c o (fun q' => hb (by simp [q'])) (fun q' => hb (by simp [q'])) (fun q' => hb (by simp [q'])) (fun q' => hb (by simp [q'])) q)) hf (Nat.le_refl _) new
    refine ⟨.ref s.heap.objs.size, _, I1, rfl, ⟨_, x, y, rfl, I.hok.fresh (Nat.le_refl _), rfl, ix, iy⟩, ⟨z'', ?_, ⟨x1, x2, ?_⟩, ?_, ?_⟩, fun c hcm => ?_⟩
    · exact (sb.2 _ S.TIz).trans (hk _ _ S.TIz S.TITO S.TIi1 S.TIi2 hTI)
    · exact (sb.2 _ S.TOz).trans TO'
    · exact Zk.tn_at (b1 _ _ s1') fun o q => (sb.2 _ (Ne.symm S.zi1)).trans q
    · exact Zk.tn_at (b2 _ _ s2') fun o q => (sb.2 _ (Ne.symm S.zi2)).trans q
    · have hlt : c < s.heap.objs.size := by
        have e' : c = z ∨ c = TI ∨ c = TO ∨ c = i1 ∨ c = i2 := by simpa using hcm
        rcases e' with q | q | q | q | q
        · rw [q]; exact hzl
        · rw [q]; exact Heap.lt_size hTI
        · rw [q]; exact Heap.lt_size hTO
        · rw [q]; obtain ⟨_, e1, _⟩ := Zk.tn_obj h1; exact Heap.lt_size e1
        · rw [q]; obtain ⟨_, e2, _⟩ := Zk.tn_obj h2; exact Heap.lt_size e2
      rw [upd_ne (Nat.ne_of_lt hlt)]
      exact (hf c hcm).1
  done := by
    intro X hP hw hK hc i pins s σ H E I hf st hg
    subst hP hw hK
    obtain ⟨hz, hTI, ⟨x0, y0, hTO⟩, h1, h2⟩ := st
    obtain ⟨n, m, l1, l2, le1, le2, hend⟩ := hg
    have S := D.sep
    have ne1 : i1 ∉ k1.own := fun h => D.n1 _ h (by simp)
    have ne2 : i2 ∉ k2.own := fun h => D.n2 _ h (by simp)
    obtain ⟨fp1, P1, St1, D1, st1, rfl, r1, b1⟩ := Zk.draw I (I.ok.hd hc) h1 l1 ne1
    obtain ⟨fp2, P2, St2, D2, st2, rfl, r2, b2⟩ := Zk.draw I (I.ok.hd hc) h2 l2 ne2
    exact wpAny_pyNext_zipD2_end S D1 D2 hz hTI hTO st1 st2 le1 le2 hend fun h' tk hk => ⟨rfl, I.turnedL (t' := tk) (ch := [z, TI, TO, i1, i2]) (fun c o hb q =>
      hk c o (fun q' => hb (by simp [q'])) (fun q' => hb (by simp [q'])) (fun q' => hb (by simp [q'])) (fun q' => hb (by simp [q'])) q) hf⟩
  self := fun A i s Q E st h => wpAny_pyIter_zip st.1 h
def zkOf (K : PySem.W.Frag) (H : Hp) (v : V) (k : Zk) : Prop := match k with
  | .lst a => v = .ref a ∧ ∃ xs : List V, SqL K H a xs
  | .tup a => v = .ref a ∧ ∃ xs : List V, SqT K H a xs
  | .str z => v = .str z
theorem zk_begins {X : Cx} {pins : List (Addr × Obj)} {σ : L2.St} {H : Hp} {s : Shared} (I : Inv X pins σ H s) {v : V} {u : Value} {k : Zk} (h : zkOf X.K H v k) (r : RelV v u) :
    ∃ (o : Obj) (HH : Heap → Prop), Begins u o HH ∧ HH s.heap ∧ (∀ a ∈ k.own, a < s.heap.objs.size) ∧ ∀ (h' : Heap) (it : Addr), h'.get? it = some o → k.tn it 0 h' := by
  cases k with
  | lst a =>
    obtain ⟨rfl, xs, hq⟩ := h
    cases r
    obtain ⟨its, rv, p, _⟩ := I.list hq
    exact ⟨_, _, begins_list a its.toArray, p.isList, fun b hb => by obtain rfl : b = a := by simpa [Zk.own] using hb
                                                                     exact p.lt, fun h' it e => ⟨_, e, rfl, rfl⟩⟩
  | tup a =>
    obtain ⟨rfl, xs, hq⟩ := h
    cases r
    obtain ⟨its, rv, p, _⟩ := I.tuple hq
    obtain ⟨o1, ho1, _⟩ := id p
    exact ⟨_, _, begins_tuple a its.toArray, p, fun b hb => by obtain rfl : b = a := by simpa [Zk.own] using hb
                                                               exact Heap.lt_size ho1, fun h' it e => ⟨_, e, rfl, rfl⟩⟩
  | str z =>
    obtain rfl : v = .str z := h
    obtain ⟨t, rfl⟩ := r
    exact ⟨_, _, begins_text z t, trivial, fun b hb => by simp [Zk.own] at hb, fun h' it e => ⟨t, _, e, rfl, rfl⟩⟩
def iZipG (K : PySem.W.Frag) (ta : TA) : TI := fun σ H R => ta σ H fun vs H1 => ∃ x y k1 k2, vs = [x, y] ∧ zkOf K H1 x k1 ∧ zkOf K H1 y k2 ∧ R (ItzG K k1 k2) H1
theorem zapart {n : Nat} {o1 o2 : List Addr} (h1 : ∀ a ∈ o1, a < n) (h2 : ∀ a ∈ o2, a < n) : ZApart (n + 4) (n + 2) (n + 3) n (n + 1) o1 o2 := by
  refine ⟨by simp [List.nodup_cons], fun a ha => ?_, fun a ha => ?_⟩
  · have := h1 a ha
    simp only [List.mem_cons, List.not_mem_nil, or_false, not_or]
    refine ⟨?_, ?_, ?_, ?_, ?_⟩ <;> (unfold Addr at *; omega)
  · have := h2 a ha
    simp only [List.mem_cons, List.not_mem_nil, or_false, not_or]
    refine ⟨?_, ?_, ?_, ?_, ?_⟩ <;> (unfold Addr at *; omega)
theorem pi_zipG {X : Cx} {e e2 : Expr} {ta : TA} {p pos tpos : Pos} {elts : List Expr} {kk : Nat} (hg : Gl X "zip") (hm : X.mg "zip" = none) (ha : PA X [e, e2] ta)
    (hs : starEach [e, e2] X.env = (false, eval e X.env) :: starEach [e2] X.env) (hpl : (backTo pos (starEach [e2] X.env)).any (·.1) = false) :
    PI X (.Tuple elts kk tpos) (.Call (.Name "zip" p) [e, e2] [] pos) (iZipG X.K ta) := by
  refine ⟨fun pins s σ H R I h => ?_⟩
  refine Call_ (ld_blt I hg hm PyProof.Rows.boot_zip (PyProof.Rows.callWith_type1 (thn (ha.run pos pins s σ H _ I h) fun us s1 ⟨vs, H1, I1, r1, q1⟩ => ?_) hs hpl))
  obtain ⟨x, y, k1, k2, ex, z1, z2, q⟩ := q1
  subst ex
  cases r1 with
  | cons r rr =>
    cases rr with
    | cons r' rr =>
      cases rr
      obtain ⟨o1, H1', B1, h1, l1, t1⟩ := zk_begins I1 z1 r
      obtain ⟨o2, H2', B2, h2, l2, t2⟩ := zk_begins I1 z2 r'
      have fresh5 : ∀ c, c ∈ [s1.heap.objs.size + 4, s1.heap.objs.size + 2, s1.heap.objs.size + 3, s1.heap.objs.size, s1.heap.objs.size + 1] → FpOk X pins H1 c := fun c hcm => by
        have e' : c = s1.heap.objs.size + 4 ∨ c = s1.heap.objs.size + 2 ∨ c = s1.heap.objs.size + 3 ∨ c = s1.heap.objs.size ∨ c = s1.heap.objs.size + 1 := by simpa using hcm
        have hle : s1.heap.objs.size ≤ c := by
          rcases e' with z | z | z | z | z
          · rw [z]; exact Nat.le_add_right _ _
          · rw [z]; exact Nat.le_add_right _ _
          · rw [z]; exact Nat.le_add_right _ _
          · rw [z]; exact Nat.le_refl _
          · rw [z]; exact Nat.le_add_right _ _
        exact I1.fpOk hle (I1.hok.fresh hle)
      refine zip_begins2 B1 B2 h1 h2 fun h' hz hTI hTO g1 g2 hsz hk => wpAny_pyIter_zip hz ?_
      have I2 : Inv X pins σ H1 { s1 with heap := h' } := I1.kept (t' := s1.toks) hk
      exact ⟨s1.heap.objs.size + 4, [s1.heap.objs.size + 4, s1.heap.objs.size + 2, s1.heap.objs.size + 3, s1.heap.objs.size, s1.heap.objs.size + 1], _, _, H1, rfl, I2, turn_zipG (zapart l1 l2), ⟨hz, hTI, ⟨_, _, hTO⟩, t1 _ _ g1, t2 _ _ g2⟩, fresh5, q⟩
def ZkOk (W : Wd) (H0 : Hp) (k : Zk) (xs : List AV) (chk : AH → Prop) : Prop := ∀ (H : Hp) (h : AH), TLe W.K H0 H → RH W h H → chk h → k.ln W.K H xs.length ∧ ∀ (i : Nat) (v : V) (ax : AV), k.is_ W.K H i v → xs[i]? = some ax → Rep W.K H ax v
section
variable {X : Cx} {T : Tb} {C : ACall} {Wx : WX} (hC : CMono C) {a b c : CE} {ea eb ec tg : Expr} {pos : Pos}
theorem zk_of {h : AH} {H : Hp} {ax : AV} {x : V} {F : List AV → (AH → Prop) → Prop} (rh : RH (wd X T) h H) (r : Rep X.K H ax x) (q : itR ax h F) : ∃ k xs c, F xs c ∧ zkOf X.K H x k ∧ ZkOk (wd X T) H k xs c := by
  cases ax with
  | tup xs =>
    obtain ⟨a, vs, rfl, st, k⟩ := rep_tupT r
    refine ⟨.tup a, xs, _, q, ⟨rfl, vs, st⟩, fun H1 h1 t r1 _ => ⟨⟨vs, t.t _ _ st, k.length⟩, fun i v ax hi hx => ?_⟩⟩
    obtain ⟨v', e, rv⟩ := (k.mono t).get hx
    have := hi vs (t.t _ _ st)
    rw [e] at this; cases this; exact rv
  | rl xs =>
    obtain ⟨a, vs, rfl, st, k⟩ := rep_rl.mp r
    refine ⟨.lst a, xs, _, q, ⟨rfl, vs, st.sq⟩, fun H1 h1 t r1 _ => ⟨⟨vs, (t.f _ _ st).sq, k.length⟩, fun i v ax hi hx => ?_⟩⟩
    obtain ⟨v', e, rv⟩ := (k.mono t).get hx
    have := hi vs (t.f _ _ st).sq
    rw [e] at this; cases this; exact rv
  | str z =>
    obtain rfl := rep_str.mp r
    refine ⟨.str z, _, _, q, rfl, fun H1 h1 t r1 _ => ⟨by show z.cps.size = _; simp, fun i v ax hi hx => ?_⟩⟩
    obtain ⟨c, e, rfl⟩ := hi
    rw [List.getElem?_map] at hx
    have e2 : z.cps.toList[i]? = some c := by simpa using e
    rw [e2] at hx
    cases hx
    exact rep_str.mpr rfl
  | ref a =>
    obtain ⟨xs, e, q⟩ := q
    obtain ⟨vs, e1, k⟩ := rh.lst e
    obtain rfl := rep_ref.mp r
    refine ⟨.lst a, xs, _, q, ⟨rfl, vs, SqL.of e1⟩, fun H1 h1 t r1 ck => ?_⟩
    obtain ⟨ws, e2, k2⟩ := r1.lst ck
    refine ⟨⟨ws, SqL.of e2, k2.length⟩, fun i v ax hi hx => ?_⟩
    obtain ⟨v', e, rv⟩ := k2.get hx
    have := hi ws (SqL.of e2)
    rw [e] at this; cases this; exact rv
  | _ => exact False.elim q
theorem it_zipG {H0 : Hp} {k1 k2 : Zk} {xs ys : List AV} {c1 c2 : AH → Prop} (z1 : ZkOk (wd X T) H0 k1 xs c1) (z2 : ZkOk (wd X T) H0 k2 ys c2) : ItOk (wd X T) H0 (ItzG X.K k1 k2) (zipL xs ys) fun h' => c1 h' ∧ c2 h' := fun i H h t r c => by
  obtain ⟨l1, g1⟩ := z1 H h t r c.1
  obtain ⟨l2, g2⟩ := z2 H h t r c.2
  refine ⟨fun ax e => ?_, fun hl => ⟨_, _, l1, l2, ?_⟩⟩
  · obtain ⟨x0, y0, e0, f0, rfl⟩ := zipL_get e
    refine ⟨⟨_, _, l1, l2, (List.getElem?_eq_some_iff.mp e0).1, (List.getElem?_eq_some_iff.mp f0).1⟩, fun x H' y => ?_⟩
    obtain ⟨Tp, v, w, rfl, hT, rfl, y1, y2⟩ := y
    have t1 : TLe X.K H (upd H Tp (.tup [v, w])) := TLe.fresh hT
    exact ⟨t1, fun h z => z.fresh hT, rep_wt.mpr ⟨Tp, _, rfl, .inl (.inl upd_same), reps_cons.mpr ⟨_, _, rfl, (g1 i v x0 y1 e0).mono t1, Reps.one ((g2 i w y0 y2 f0).mono t1)⟩⟩⟩
  · rw [zipL_len] at hl
    omega
include hC in
theorem i_zip {p tpos : Pos} {elts : List Expr} {kk : Nat} (hg : Gl X "zip") (hm : X.mg "zip" = none) (ha : PE X ea (cE (wd X T) Wx (wpE C T a))) (hb : PE X eb (cE (wd X T) Wx (wpE C T b))) (hn : nost ea = true) (hn2 : nost eb = true) :
    PI X (.Tuple elts kk tpos) (.Call (.Name "zip" p) [ea, eb] [] pos) (cI (wd X T) Wx (wpI C T (.zip a b))) :=
  (pi_zipG hg hm (pa_cons ha (pa_cons hb pa_nil (star_cons hn2)) (star_cons hn)) (star_cons hn) (star_any (by simp [hn2]))).imp fun σ H R ⟨env, h, re, rh, q⟩ =>
    ⟨env, h, re, rh, wpE_mono hC a (fun x h1 q v H1 t1 r1 rv => ⟨env, h1, re.mono t1, r1, wpE_mono hC b (fun y h2 q w H2 t2 r2 rw' => by
      have rv := rv.mono t2
      obtain ⟨k1, xs, c1, q, z1, o1⟩ := zk_of (T := T) r2 rv q
      obtain ⟨k2, ys, c2, q, z2, o2⟩ := zk_of (T := T) r2 rw' q
      exact ⟨v, w, k1, k2, rfl, z1, z2, q _ _ (t1.trans t2) r2 (it_zipG o1 o2)⟩) (cX.mono t1) q⟩) (fun _ _ z => z) q⟩
end
end PL

namespace PL
open PySem PySem.Spec PyProof.Rows L2
theorem meets_enum1 {v : Value} {o : Obj} {H : Heap → Prop} (B : Begins v o H) :
    Meets (Builtin.«enumerate.__new__» ⟨[.type "enumerate", v], []⟩) (fun _ R s => H s.heap ∧
      R (.ok (.ret (.ref (s.heap.push o).objs.size))) { s with heap := (s.heap.push o).push { cls := .type "enumerate", data := .fields #[.none, .bool false, .ref s.heap.objs.size, rawInt 0, .none, .none] } }) :=
  .of_wp fun prog w A R s h => by
    obtain ⟨hp, g, d, tk, os⟩ := s; obtain ⟨h1, h⟩ := h
    have hsub := sub_enumerate
    have q1 : ∀ {A' : Around} {E : Value → Shared → Prop} {Q : Value → Shared → Prop}, Q (.ref hp.objs.size) ⟨hp.push o, g, d, tk, os⟩ → wpAny (model prog w) A' (pyIter v) Q E ⟨hp, g, d, tk, os⟩ :=
      fun q => B.iter prog w _ _ ⟨hp, g, d, tk, os⟩ _ h1 q
    wp_walk using q1
    refine wpAny_stack_any fun st => wpAny_pure ?_
    split
    · rename_i c _ _ _ _ _
      cases (c == Value.type "enumerate")
      · wp_walk using q1
        exact ⟨_, rfl, h⟩
      · wp_walk using q1
        exact ⟨_, rfl, h⟩
    · wp_walk using q1
      exact ⟨_, rfl, h⟩
theorem enum_begins1 {prog : Program} {w : World} {A : Around} {E : Value → Shared → Prop} {s : Shared} {v : Value} {o : Obj} {H : Heap → Prop} {Q : Value → Shared → Prop} (B : Begins v o H) (h1 : H s.heap)
    (h : ∀ h', IsEnum h' (s.heap.objs.size + 1) s.heap.objs.size 0 .none → h'.get? s.heap.objs.size = some o → h'.objs.size = s.heap.objs.size + 2 →
      (∀ b o, s.heap.get? b = some o → h'.get? b = some o) → Q (.ref (s.heap.objs.size + 1)) { s with heap := h' }) :
    wpAny (model prog w) A (call (.type "enumerate") [v]) Q E s := by
  refine callType_new F.called_enumerate (by decide) (F.typeCall_enumerate_1 _) (F.newCall_enumerate_1 _) (fun obj => F.args_object_init_2 obj _) F.entry_enumerate_new
    (meets_enum1 B) ⟨h1, ?_⟩
  have hz : (s.heap.push o).objs.size = s.heap.objs.size + 1 := Heap.size_push ..
  show _ ∧ _
  rw [hz]
  have he : IsEnum ((s.heap.push o).push { cls := .type "enumerate", data := .fields #[.none, .bool false, .ref s.heap.objs.size, rawInt 0, .none, .none] }) (s.heap.objs.size + 1) s.heap.objs.size 0 .none := by
    have := Heap.get?_push_size (s.heap.push o) (o := { cls := .type "enumerate", data := .fields #[.none, .bool false, .ref s.heap.objs.size, rawInt 0, .none, .none] }) rfl
    rw [hz] at this; exact this
  refine ⟨⟨_, he, rfl⟩, h _ he (Heap.get?_push_of_some _ (Heap.get?_push_size _ B.free)) (by rw [Heap.size_push, hz]) fun b o x => Heap.get?_push_of_some _ (Heap.get?_push_of_some _ x)⟩
def IteG (K : PySem.W.Frag) (k : Zk) : It :=
  ⟨fun i H => ∃ n, k.ln K H n ∧ i < n,
    fun i H v H' => ∃ T x, v = .ref T ∧ H T = none ∧ H' = upd H T (.tup [.int (i : Nat), x]) ∧ k.is_ K H i x,
    fun i H => ∃ n, k.ln K H n ∧ i = n⟩
theorem turn_enumG {P : Program} {w : World} {K : PySem.W.Frag} {elts : List Expr} {kk : Nat} {tpos : Pos} {k : Zk} {e it : Addr} (hne : e ≠ it) (no1 : e ∉ k.own) (no2 : it ∉ k.own) :
    Turn P w K (.Tuple elts kk tpos) (IteG K k) [e, it] e (fun i h => (∃ old, IsEnum h e it ((i : Nat) : Int) old) ∧ k.tn it i h) where
  mem := by simp
  obj := fun i h st b hb => by
    obtain ⟨⟨old, he⟩, hi⟩ := st
    have e' : b = e ∨ b = it := by simpa using hb
    rcases e' with z | z
    · rw [z]; exact ⟨_, he, fun v q => nomatch q⟩
    · rw [z]; exact Zk.tn_obj hi
  keep := fun i h h' st kp => let ⟨⟨old, he⟩, hi⟩ := st; ⟨⟨old, kp e (by simp) _ he⟩, Zk.tn_at hi fun o q => kp it (by simp) o q⟩
  item := by
    intro X hP hw hK hc i pins s σ H E I hf st hg
    subst hP hw hK
    obtain ⟨⟨old, he⟩, hit⟩ := st
    obtain ⟨n, ln, lt⟩ := hg
    have hel : e < s.heap.objs.size := Heap.lt_size he
    have hil : it < s.heap.objs.size := by obtain ⟨_, q, _⟩ := Zk.tn_obj hit; exact Heap.lt_size q
    obtain ⟨fp1, P1, St1, D1, st1, rfl, r1, b1⟩ := Zk.draw I (I.ok.hd hc) hit ln no2
    have hef : e ∉ it :: k.own := fun h => (List.mem_cons.mp h).elim hne no1
    refine wpAny_pyNext_enum_itemD D1 he st1 lt hne hef fun u h' tk y1 ho s1' hT hsz hk => ?_
    obtain ⟨x, rx, ix⟩ := r1 u y1
    refine ⟨_, rfl, wpAny_letOwnedTupleGo_enum (s := { s with heap := h', toks := tk + 1 }) ho fun h'' he' sb => ?_⟩
    have hT2 : h''.get? s.heap.objs.size = some { cls := .type "tuple", data := .seq #[.int i tk, u] } := (sb.2 _ (Nat.ne_of_gt hel)).trans hT
    have new : ObjOk X.prog X.w (upd H s.heap.objs.size (.tup [.int (i : Nat), x])) h'' s.heap.objs.size (.tup [.int (i : Nat), x]) :=
      ⟨by show 2 ≤ sizeLine; decide, [.int i tk, u], .cons ⟨_, rfl⟩ (.cons rx .nil), ⟨_, hT2, rfl, _, rfl⟩⟩
    have I1 : Inv X pins σ (upd H s.heap.objs.size (.tup [.int (i : Nat), x])) { s with heap := h'', toks := tk + 1 } :=
      I.turnedNew (t' := tk + 1) (ch := [e, it]) (fun b ob hb q => (sb.2 b (fun z => hb (by simp [z]))).trans (hk b ob (fun z => hb (by simp [z])) (fun z => hb (by simp [z])) q)) hf (Nat.le_refl _) new
    refine ⟨.ref s.heap.objs.size, _, I1, rfl, ⟨_, x, rfl, I.hok.fresh (Nat.le_refl _), rfl, ix⟩, ⟨⟨u, ?_⟩, Zk.tn_at (b1 _ _ s1') fun o q => (sb.2 it (Ne.symm hne)).trans q⟩, fun b hb => ?_⟩
    · have e1 : ((i + 1 : Nat) : Int) = (i : Int) + 1 := by omega
      rw [e1]; exact he'
    · have hb' : b < s.heap.objs.size := by
        have e' : b = e ∨ b = it := by simpa using hb
        rcases e' with z | z
        · rw [z]; exact hel
        · rw [z]; exact hil
      rw [upd_ne (Nat.ne_of_lt hb')]
      exact (hf b hb).1
  done := by
    intro X hP hw hK hc i pins s σ H E I hf st hg
    subst hP hw hK
    obtain ⟨⟨old, he⟩, hit⟩ := st
    obtain ⟨n, ln, rfl⟩ := hg
    obtain ⟨fp1, P1, St1, D1, st1, rfl, r1, b1⟩ := Zk.draw I (I.ok.hd hc) hit ln no2
    obtain ⟨f0, f1, f2, f3, f4, f5⟩ := hf it (by simp)
    exact wpAny_pyNext_enum_endD D1 he st1 fun h' eb => ⟨rfl, I.turned (t' := s.toks) (fun b o hb q => eb b o hb q) f0 f1 f3 f4 f5⟩
  self := fun A i s Q E st h => let ⟨⟨_, he⟩, _⟩ := st; wpAny_pyIter_enum he h
def iEnumG (K : PySem.W.Frag) (ta : TA) : TI := fun σ H R => ta σ H fun vs H1 => ∃ x k, vs = [x] ∧ zkOf K H1 x k ∧ R (IteG K k) H1
theorem pi_enumG {X : Cx} {e : Expr} {ta : TA} {p pos tpos : Pos} {elts : List Expr} {kk : Nat} (hg : Gl X "enumerate") (hm : X.mg "enumerate" = none) (ha : PA X [e] ta) (hs : starEach [e] X.env = [(false, eval e X.env)] := by rfl) :
    PI X (.Tuple elts kk tpos) (.Call (.Name "enumerate" p) [e] [] pos) (iEnumG X.K ta) := by
  refine ⟨fun pins s σ H R I h => ?_⟩
  refine Call_ (ld_blt I hg hm boot_enumerate (PyProof.Rows.callWith_type1 (thn (ha.run pos pins s σ H _ I h) fun us s1 ⟨vs, H1, I1, r1, q1⟩ => ?_) hs rfl))
  obtain ⟨x, k, ex, z1, q⟩ := q1
  subst ex
  cases r1 with
  | cons r rr =>
    cases rr
    obtain ⟨o1, H1', B1, h1, l1, t1⟩ := zk_begins I1 z1 r
    refine enum_begins1 B1 h1 fun h' he hit hsz hk => wpAny_pyIter_enum he ?_
    have I2 : Inv X pins σ H1 { s1 with heap := h' } := I1.kept (t' := s1.toks) hk
    have na : ∀ a, s1.heap.objs.size ≤ a → a ∉ k.own := fun a ha hm => absurd (l1 a hm) (Nat.not_lt.mpr ha)
    refine ⟨s1.heap.objs.size + 1, [s1.heap.objs.size + 1, s1.heap.objs.size], _, _, H1, rfl, I2, turn_enumG (k := k) (e := s1.heap.objs.size + 1) (it := s1.heap.objs.size) (Nat.succ_ne_self _) (na _ (Nat.le_succ _)) (na _ (Nat.le_refl _)), ⟨⟨.none, he⟩, t1 _ _ hit⟩, fun b hb => ?_, q⟩
    have e' : b = s1.heap.objs.size + 1 ∨ b = s1.heap.objs.size := by simpa using hb
    have hle : s1.heap.objs.size ≤ b := by
      rcases e' with z | z
      · rw [z]; exact Nat.le_add_right _ _
      · rw [z]; exact Nat.le_refl _
    exact I1.fpOk hle (I1.hok.fresh hle)
section
variable {X : Cx} {T : Tb} {C : ACall} {Wx : WX} (hC : CMono C) {a b c : CE} {ea eb ec tg : Expr} {pos : Pos}
theorem it_enumG {H0 : Hp} {k : Zk} {xs : List AV} {c : AH → Prop} (z1 : ZkOk (wd X T) H0 k xs c) : ItOk (wd X T) H0 (IteG X.K k) (enumL 0 xs) c := fun i H h t r ck => by
  obtain ⟨l1, g1⟩ := z1 H h t r ck
  refine ⟨fun ax e => ?_, fun hl => ⟨_, l1, ?_⟩⟩
  · obtain ⟨x0, e0, rfl⟩ := enumL_get e
    refine ⟨⟨_, l1, (List.getElem?_eq_some_iff.mp e0).1⟩, fun x H' y => ?_⟩
    obtain ⟨Tp, v, rfl, hT, rfl, y1⟩ := y
    have t1 : TLe X.K H (upd H Tp (.tup [.int (i : Nat), v])) := TLe.fresh hT
    refine ⟨t1, fun h z => z.fresh hT, rep_wt.mpr ⟨Tp, _, rfl, .inl (.inl upd_same), ?_⟩⟩
    rw [Nat.zero_add]
    exact reps_cons.mpr ⟨_, _, rfl, rep_int.mpr rfl, Reps.one ((g1 i v x0 y1 e0).mono t1)⟩
  · rw [enumL_len] at hl
    omega
include hC in
theorem i_enum {p tpos : Pos} {elts : List Expr} {kk : Nat} (hg : Gl X "enumerate") (hm : X.mg "enumerate" = none) (ha : PE X ea (cE (wd X T) Wx (wpE C T a))) (hn : nost ea = true) : PI X (.Tuple elts kk tpos) (.Call (.Name "enumerate" p) [ea] [] pos) (cI (wd X T) Wx (wpI C T (.enum a))) :=
  (pi_enumG hg hm (pa_cons ha pa_nil (star_cons hn)) (by rw [star_cons hn]; rfl)).imp fun σ H R ⟨env, h, re, rh, q⟩ => ⟨env, h, re, rh, wpE_mono hC a (fun x h1 q v H1 t1 r1 rv => by
    obtain ⟨k1, xs, c1, q, z1, o1⟩ := zk_of (T := T) r1 rv q
    exact ⟨v, k1, rfl, z1, q _ _ t1 r1 (it_enumG o1)⟩) (fun _ _ z => z) q⟩
end
end PL

namespace PL
open PySem PySem.Spec PyProof.Rows L2

theorem wipe_get (σ : L2.St) (j : Nat) : ∀ vs : List Nat, (wipe σ vs)[j]? = if j ∈ vs then (if j < σ.length then some none else none) else σ[j]?
  | [] => rfl
  | v :: vs => by
    show ((wipe σ vs).set v none)[j]? = _
    by_cases e : v = j
    · subst e
      rw [if_pos List.mem_cons_self]
      by_cases hl : v < σ.length
      · rw [if_pos hl, List.getElem?_set_self (by rw [wipe_length]; exact hl)]
      · rw [if_neg hl, List.getElem?_eq_none (by rw [List.length_set, wipe_length]; omega)]
    · rw [List.getElem?_set_ne e, wipe_get σ j vs]
      have h : j ∈ v :: vs ↔ j ∈ vs := by rw [List.mem_cons]; exact ⟨fun z => z.resolve_left fun q => e q.symm, .inr⟩
      by_cases hm : j ∈ vs
      · rw [if_pos hm, if_pos (h.mpr hm)]
      · rw [if_neg hm, if_neg fun z => hm (h.mp z)]
theorem wipe_set {σ : L2.St} {i : Nat} {x : Option V} {vs : List Nat} (h : i ∈ vs) : wipe (σ.set i x) vs = wipe σ vs := by
  refine List.ext_getElem? fun j => ?_
  rw [wipe_get, wipe_get, List.length_set]
  by_cases hm : j ∈ vs
  · rw [if_pos hm, if_pos hm]
  · rw [if_neg hm, if_neg hm, List.getElem?_set_ne (by rintro rfl; exact hm h)]

abbrev ATG' := AV → AEnv → AH → (AEnv → AH → Prop) → Prop
abbrev ATGs' := List AV → AEnv → AH → (AEnv → AH → Prop) → Prop
def eQo (W : Wd) (own : Option (List Nat)) (σ : L2.St) (H : Hp) (Q : L2.St → Hp → Prop) : AEnv → AH → Prop := fun env' h' => ∀ σ' H', (∀ vs, own = some vs → wipe σ' vs = wipe σ vs) → TLe W.K H H' → REnv W.K H' env' σ' → RH W h' H' → Q σ' H'
def cGt (W : Wd) (own : Option (List Nat)) (t : ATG') : TG := fun v σ H Q => ∃ av env h, Rep W.K H av v ∧ REnv W.K H env σ ∧ RH W h H ∧ t av env h (eQo W own σ H Q)
def cGts (W : Wd) (own : Option (List Nat)) (t : ATGs') : TGs := fun v σ H Q => ∃ av env h, Reps W.K H av v ∧ REnv W.K H env σ ∧ RH W h H ∧ t av env h (eQo W own σ H Q)
theorem unst {e : Expr} {es : List Expr} {env : Env} (h : nost e = true) : assignEach (e :: es) env = (false, assign e env) :: assignEach es env := by
  cases e <;> first | rfl | cases h
theorem unst_len {env : Env} : ∀ {es : List Expr}, es.all nost = true → (assignEach es env).length = es.length
  | [], _ => rfl
  | e :: es, h => by
    rw [List.all_cons, Bool.and_eq_true] at h
    rw [unst h.1, List.length_cons, List.length_cons, unst_len h.2]
theorem unst_find {env : Env} : ∀ {es : List Expr}, es.all nost = true → (assignEach es env).findIdx? (·.1) = none
  | [], _ => rfl
  | e :: es, h => by
    rw [List.all_cons, Bool.and_eq_true] at h
    rw [unst h.1, List.findIdx?_cons]
    simp [unst_find h.2]
section
variable {X : Cx} {T : Tb} {C : ACall} {Wx : WX} (hC : CMono C) {a b c : CE} {ea eb ec tg : Expr} {pos : Pos} {own : Option (List Nat)}
theorem g_var {i : Nat} {x : Str} (hN : X.N.Nodup) (hi : X.N[i]? = some x) (hx : Loc X.env.scope x) (hf : X.fn x = true ∨ X.env.scope.names.lookup x = some .local) (ho : ∀ vs, own = some vs → i ∈ vs) : PG X (.Name x pos) (cGt (wd X T) own (wpG C T (.var i))) :=
  (pg_name hN hi hx hf).imp fun v σ H Q ⟨av, env, h, rv, re, rh, q⟩ => q (σ.set i (some v)) H (fun vs e => wipe_set (ho vs e)) TLe.refl (re.set i rv) rh
theorem gs_nil : PGs X [] (cGts (wd X T) own (wpGs C T .nil)) := pgs_nil.imp fun v σ H Q ⟨av, env, h, rv, re, rh, q⟩ => by
  obtain ⟨rfl, q⟩ := q
  exact ⟨reps_nil.mp rv, q σ H (fun _ _ => rfl) TLe.refl re rh⟩
include hC in
theorem gs_cons {g gs : CE} {eg : Expr} {es : List Expr} (hg : PG X eg (cGt (wd X T) own (wpG C T g))) (hs : PGs X es (cGts (wd X T) own (wpGs C T gs))) (hn : nost eg = true) : PGs X (eg :: es) (cGts (wd X T) own (wpGs C T (.cons g gs))) := by
  refine (pgs_cons (t := cGt (wd X T) own (wpG C T g)) (u := cGts (wd X T) own (wpGs C T gs)) hg hs (by rw [unst hn]; rfl)).imp fun vs σ H Q ⟨avs, env, h, rv, re, rh, q⟩ => ?_
  obtain ⟨v, r, rfl, q⟩ := q
  obtain ⟨cv, cr, rfl, r1, r2⟩ := reps_cons.mp rv
  refine ⟨cv, cr, rfl, v, env, h, r1, re, rh, wpG_mono hC g (fun env1 h1 q σ1 H1 hw t1 re1 rh1 => ?_) q⟩
  exact ⟨r, env1, h1, r2.mono t1, re1, rh1, wpGs_mono hC gs (fun env2 h2 q σ2 H2 hw2 t2 re2 rh2 => q σ2 H2 (fun vs e => (hw2 vs e).trans (hw vs e)) (t1.trans t2) re2 rh2) q⟩
include hC in
theorem g_tup {gs : CE} {es : List Expr} {k : Nat} (hc : X.calm = true) (hs : PGs X es (cGts (wd X T) own (wpGs C T gs))) (hn : es.all nost = true) (hl : gs.len = es.length) : PG X (.Tuple es k pos) (cGt (wd X T) own (wpG C T (.tup gs))) := by
  refine ⟨fun pins s σ H v u Q I r q => ?_⟩
  obtain ⟨av, env, h, rv, re, rh, q⟩ := q
  rcases q with ⟨vs, ev, hle, q⟩ | ⟨a, vs, rfl, e, hle, q⟩
  · have rv' : ∃ a ws, v = .ref a ∧ SqT X.K H a ws ∧ Reps X.K H vs ws := by
      rcases ev with rfl | rfl
      · exact rep_tupT rv
      · exact rep_wt.mp rv
    obtain ⟨a, ws, rfl, st, k⟩ := rv'
    exact (pg_tup hc hs (unst_len hn) (unst_find hn)).run pins s σ H _ u Q I r ⟨a, ws, rfl, st, by rw [k.length, hle]; exact hl, vs, env, h, k, re, rh, q⟩
  · obtain ⟨ws, h1, k⟩ := rh.lst e
    exact (pg_lst hc hs (unst_len hn) (unst_find hn)).run pins s σ H _ u Q I r ⟨a, ws, rep_ref.mp rv, SqL.of h1, by rw [k.length, hle]; exact hl, vs, env, h, k, re, rh, q⟩
theorem set_or (hu : X.A.units + 1 < cLine) : PSet X (fun o i v H Q => rSetL o i v H Q ∨ rSetD o i v H Q) := by
  intro pins s σ H o i v ov iv u Q I ro ri rv q
  rcases q with q | q
  · exact set_list pins s σ H o i v ov iv u Q I ro ri rv q
  · exact set_dict (by omega) pins s σ H o i v ov iv u Q I ro ri rv q
theorem asg_sub {o i : Expr} {env : Env} (h : nosl i = true) : ∀ v, assign (.Subscript o i pos) env v = (do
      let ov ← holding [v] (eval o env)
      let iv ← holding [v, ov] (eval i env)
      standAt pos
      holding [v, ov, iv] (setItem ov iv v)
      release [v, ov, iv] []) := by
  intro v
  cases i <;> first | rfl | cases h
include hC in
theorem g_idx (hu : X.A.units + 80 < cLine) (ha : PE X ea (cE (wd X T) (fun _ _ _ _ => False) (wpE C T a))) (hb : PE X eb (cE (wd X T) (fun _ _ _ _ => False) (wpE C T b))) (hs : nosl eb = true) :
    PG X (.Subscript ea eb pos) (cGt (wd X T) none (wpG C T (.idx a b))) :=
  (pg_sub ha hb (set_or (by omega)) (asg_sub hs)).imp fun v σ H Q ⟨av, env, h, rv, re, rh, q⟩ => ⟨env, h, re, rh, wpE_mono hC a (fun x h1 q cx H1 t1 r1 rx => ⟨env, h1, re.mono t1, r1,
    wpE_mono hC b (fun y h2 q cy H2 t2 r2 ry => by
      obtain ⟨p, ex0, q2⟩ := q
      rw [ex0] at rx
      have ex := rep_ref.mp rx
      have rv := rv.mono (t1.trans t2)
      clear q
      have q := q2
      rcases q with ⟨xs, i, j, rfl, hj, e, q⟩ | ⟨kvs, k, ek, e, hl, q⟩
      · obtain ⟨vs, e1, kk⟩ := r2.lst e
        refine .inl ⟨p, vs, i, j, ex, rep_int.mp ry, e1, ?_, ?_⟩
        · rw [kk.length]; exact hj
        · have t3 : TLe X.K H2 (upd H2 p (.lst (vs.set j v))) := TLe.write e1 trivial
          exact q σ _ (fun _ z => nomatch z) ((t1.trans t2).trans t3) (((re.mono t1).mono t2).mono t3) (r2.write e1 trivial (show RO (wd X T) _ p (.lst _) from ⟨_, upd_same, (kk.set j rv).mono t3⟩))
      · obtain ⟨vs, e1, kk⟩ := r2.dK e
        obtain ⟨ws, e2, k2⟩ := dput_rel (k := k) rv kk
        have hkv : ((kvs.map (·.1)).zip vs).length < sizeLine := by
          have := kk.length
          rw [List.length_zip, List.length_map, this, List.length_map, Nat.min_self]
          exact hl
        have ey := key_rep ek ry
        refine .inr ⟨p, _, ex, by rw [ey]; exact DPut.k e1 hkv, ?_⟩
        have t3 : TLe X.K H2 (upd H2 p (.dK (putK ((kvs.map (·.1)).zip vs) k v))) := TLe.write e1 trivial
        exact q σ _ (fun _ z => nomatch z) ((t1.trans t2).trans t3) (((re.mono t1).mono t2).mono t3) (r2.write e1 trivial (show RO (wd X T) _ p (.dK _) from ⟨ws, by rw [upd_same, e2], k2.mono t3⟩)))
      (fun _ _ z => z.elim) q⟩) (fun _ _ z => z.elim) q⟩

include hC in
theorem lc_ok {σ : L2.St} {H : Hp} {Q : VK} {owns : List Nat} {g it ifs elt : CE} {env : AEnv} {h : AH} (re : REnv X.K H env σ) (rh : RH (wd X T) h H)
    (q : wpE C T (.comp owns g it ifs elt) env h (cQ (wd X T) H Q) (cX (wd X T) Wx σ H)) :
    tLc (cI (wd X T) Wx (wpI C T it)) (cGt (wd X T) (some owns) (wpG C T g)) (cT (wd X T) (fun _ _ _ _ => False) (wpTs C T ifs)) (cE (wd X T) (fun _ _ _ _ => False) (wpE C T elt)) owns σ H Q := by
  refine ⟨env, h, re, rh, wpI_mono hC it (fun xs chk h1 q J H1 t1 r1 ok D hD => ?_) (fun _ _ z => z) q⟩
  have q := q D (r1.isNone hD)
  have tD : TLe X.K H1 (upd H1 D (.lst [])) := TLe.fresh hD
  refine ⟨fun i m H2 => m = xs.length - i ∧ i ≤ xs.length ∧ TLe X.K H1 H2 ∧ ∃ h2, RH (wd X T) h2 H2 ∧ lcL D owns (fun x σ h k => wpG C T g x σ h k) (fun σ h k => wpTs C T ifs σ h k fun _ _ => False) (fun σ h k => wpE C T elt σ h k fun _ _ => False) chk (fun h' => cQ (wd X T) H Q (.ref D) h') env (xs.drop i) h2,
    ⟨xs.length, by simp, Nat.zero_le _, tD, _, r1.new hD (show RO (wd X T) _ D (.lst []) from ⟨[], upd_same, reps_nil.mpr rfl⟩), q⟩, ?_⟩
  rintro i m H2 ⟨rfl, hi, t2, h2, r2, w⟩
  by_cases hlt : i < xs.length
  · rw [List.drop_eq_getElem_cons hlt] at w
    obtain ⟨ck, w⟩ := w
    obtain ⟨go, yl⟩ := (ok i H2 h2 t2 r2 ck).1 xs[i] (List.getElem?_eq_getElem hlt)
    refine .inr ⟨go, fun H' => TLe X.K H1 H' ∧ ∃ h', RH (wd X T) h' H' ∧ lcL D owns (fun x σ h k => wpG C T g x σ h k) (fun σ h k => wpTs C T ifs σ h k fun _ _ => False) (fun σ h k => wpE C T elt σ h k fun _ _ => False) chk (fun h' => cQ (wd X T) H Q (.ref D) h') env (xs.drop (i + 1)) h',
      fun H' ⟨t', h', r', w'⟩ => ⟨xs.length - (i + 1), by omega, rfl, hlt, t', h', r', w'⟩, fun x H' y => ?_⟩
    obtain ⟨t3, keep, rx⟩ := yl x H' y
    refine ⟨_, awipe env owns, h2, rx, (re.mono ((t1.trans t2).trans t3)).wipe owns, keep h2 r2, wpG_mono hC g (fun e4 h4 w σ4 H4 hw t4 re4 r4 => ⟨?_, ?_⟩) w⟩
    · have e := hw owns rfl
      rw [e]
      refine List.ext_getElem? fun j => ?_
      rw [wipe_get, wipe_get, wipe_length]
      by_cases hm : j ∈ owns
      · rw [if_pos hm, if_pos hm]
      · rw [if_neg hm]
    · refine ⟨e4, h4, re4, r4, wpTs_mono hC ifs (fun b h5 w H5 t5 r5 => ?_) (fun _ _ z => z.elim) w⟩
      have tt : TLe X.K H1 H5 := ((t2.trans t3).trans t4).trans t5
      cases b with
      | true =>
        refine ⟨e4, h5, re4.mono t5, r5, wpE_mono hC elt (fun z h6 w cz H6 t6 r6 rz => ?_) (fun _ _ z => z.elim) w⟩
        obtain ⟨acc, ea, hl, hs, le, w⟩ := w
        obtain ⟨vs, e1, kk⟩ := r6.lst ea
        have t7 : TLe X.K H6 (upd H6 D (.lst (vs ++ [cz]))) := TLe.write e1 trivial
        exact ⟨vs, e1, by rw [kk.length]; exact hl, (tt.trans t6).trans t7, hs, (r6.write e1 trivial (show RO (wd X T) _ D (.lst (acc ++ [z])) from ⟨_, upd_same, (kk.append (Reps.one rz)).mono t7⟩)).sub le, w⟩
      | false =>
        obtain ⟨hs, le, w⟩ := w
        exact ⟨tt, hs, r5.sub le, w⟩
  · have e : i = xs.length := by omega
    subst e
    rw [List.drop_length] at w
    obtain ⟨ck, w⟩ := w
    exact .inl ⟨(ok _ H2 h2 t2 r2 ck).2 rfl, w _ H2 (t1.trans t2) r2 (rep_ref.mpr rfl)⟩

def absD (W : Wd) (Wx : WX) (H : Hp) (D : Ends) : AEnds where
  nx := eQ W H D.nx
  rt := cQ W H D.rt
  bk := eQ W H D.bk
  ct := eQ W H D.ct
  ex := fun ax env' h' => ∀ cls d σ' H', TLe W.K H H' → REnv W.K H' env' σ' → RH W h' H' → RX W H' ax cls d → Wx cls d σ' H'
theorem absD.mono {W : Wd} {Wx : WX} {H H' : Hp} (t : TLe W.K H H') (D : Ends) : DLe (absD W Wx H D) (absD W Wx H' D) :=
  ⟨eQ.mono t, cQ.mono t, eQ.mono t, eQ.mono t, fun _ _ _ q cls d σ H2 t2 => q cls d σ H2 (t.trans t2)⟩
theorem absD.xle {W : Wd} {Wx : WX} {H : Hp} {D : Ends} {env : AEnv} {σ : L2.St} (re : REnv W.K H env σ) : XLe (fun x h' => (absD W Wx H D).ex x env h') (cX W Wx σ H) := fun ax h' q cls d H' t r rx => q cls d σ H' t (re.mono t) r rx
abbrev ATS := AEnds → AEnv → AH → Prop
def cS (W : Wd) (Wx : WX) (t : ATS) : TS := fun D σ H => ∃ env h, REnv W.K H env σ ∧ RH W h H ∧ t (absD W Wx H D) env h
theorem _root_.L2.PS.imp {st : Stmt} {t t' : TS} (p : PS X st t) (h : ∀ D σ H, t' D σ H → t D σ H) : PS X st t' := ⟨fun pins s σ H D I q => p.run pins s σ H D I (h D σ H q)⟩
theorem _root_.L2.PSs.imp {st : List Stmt} {t t' : TS} (p : PSs X st t) (h : ∀ D σ H, t' D σ H → t D σ H) : PSs X st t' := ⟨fun pins s σ H D I q => p.run pins s σ H D I (h D σ H q)⟩
variable {sub : Nat → Nat → Bool}
theorem b_nil : PSs X [] (cS (wd X T) Wx (wpB C T sub .nil)) := pss_nil.imp fun D σ H ⟨env, h, re, rh, q⟩ => q σ H TLe.refl re rh
include hC in
theorem b_cons {s r : CS} {st : Stmt} {rest : List Stmt} (h1 : PS X st (cS (wd X T) Wx (wpS C T sub s))) (h2 : PSs X rest (cS (wd X T) Wx (wpB C T sub r))) : PSs X (st :: rest) (cS (wd X T) Wx (wpB C T sub (.cons s r))) :=
  (pss_cons h1 h2).imp fun D σ H ⟨env, h, re, rh, q⟩ => ⟨env, h, re, rh, wpS_mono hC s (D := { absD (wd X T) Wx H D with nx := fun σ1 h1 => wpB C T sub r (absD (wd X T) Wx H D) σ1 h1 }) ⟨fun e1 h1 q σ1 H1 t1 re1 r1 => ⟨e1, h1, re1, r1, wpB_mono hC r (absD.mono t1 D) q⟩, fun _ _ z => z, fun _ _ z => z, fun _ _ z => z, fun _ _ _ z => z⟩ q⟩
include hC in
theorem st_asg {g : CE} {line : Nat} (he : PE X ea (cE (wd X T) Wx (wpE C T a))) (hg : PG X tg (cGt (wd X T) none (wpG C T g))) (hs : swapsWithSole [tg] ea pos.line X.env = pure false) (hw : swappedStores [tg] ea X.env = pure none) (hn : nost tg = true) : PS X (.Assign [tg] ea pos) (cS (wd X T) Wx (wpS C T sub (.asg g a))) :=
  (ps_asg he hg hs hw (by rw [unst hn]; rfl)).imp fun D σ H ⟨env, h, re, rh, q⟩ => ⟨env, h, re, rh, wpE_mono hC a (fun x h1 q v H1 t1 r1 rv => ⟨x, env, h1, rv, re.mono t1, r1, wpG_mono hC g (fun e2 h2 q σ2 H2 _ t2 re2 r2 => q σ2 H2 (t1.trans t2) re2 r2) q⟩) (absD.xle re) q⟩
include hC in
theorem st_par {i j : Nat} {x y : Str} {px py pt : Pos} {kt k2 : Nat} {pt2 : Pos} (hc : X.calm = true) (hN : X.N.Nodup) (hi : X.N[i]? = some x) (hj : X.N[j]? = some y) (hij : i ≠ j)
    (hx : X.env.scope.names.lookup x = some .local) (hy : X.env.scope.names.lookup y = some .local) (ha : PE X ea (cE (wd X T) Wx (wpE C T a))) (hb : PE X eb (cE (wd X T) Wx (wpE C T b))) (hn : nost ea = true) (hn2 : nost eb = true)
    (hw : swappedStores [.Tuple [.Name x px, .Name y py] kt pt] (.Tuple [ea, eb] k2 pt2) X.env = pure (some [x, y])) :
    PS X (.Assign [.Tuple [.Name x px, .Name y py] kt pt] (.Tuple [ea, eb] k2 pt2) pos) (cS (wd X T) Wx (wpS C T sub (.par i j a b))) :=
  (ps_par hc hN hi hj hij hx hy (pa_cons ha (pa_cons hb pa_nil (star_cons hn2)) (star_cons hn)) hw rfl).imp fun D σ H ⟨env, h, re, rh, q⟩ => ⟨env, h, re, rh, wpE_mono hC a (fun x h1 q v H1 t1 r1 rv => ⟨env, h1, re.mono t1, r1,
    wpE_mono hC b (fun y h2 q w H2 t2 r2 rw' => ⟨v, w, rfl, q _ _ (t1.trans t2) (((re.mono t1).mono t2).set i (rv.mono t2) |>.set j rw') r2⟩) (fun ax h' q => cX.mono t1 _ _ (absD.xle re _ _ q)) q⟩) (absD.xle re) q⟩
include hC in
theorem st_par3 {i j k : Nat} {x y z : Str} {px py pz pt : Pos} {kt k2 : Nat} {pt2 : Pos} (hc : X.calm = true) (hN : X.N.Nodup) (hi : X.N[i]? = some x) (hj : X.N[j]? = some y) (hk : X.N[k]? = some z) (hij : i ≠ j) (hik : i ≠ k) (hjk : j ≠ k)
    (hx : X.env.scope.names.lookup x = some .local) (hy : X.env.scope.names.lookup y = some .local) (hz : X.env.scope.names.lookup z = some .local) (ha : PE X ea (cE (wd X T) Wx (wpE C T a))) (hb : PE X eb (cE (wd X T) Wx (wpE C T b))) (hcc : PE X ec (cE (wd X T) Wx (wpE C T c))) (hn : nost ea = true) (hn2 : nost eb = true) (hn3 : nost ec = true)
    (hw : swappedStores [.Tuple [.Name x px, .Name y py, .Name z pz] kt pt] (.Tuple [ea, eb, ec] k2 pt2) X.env = pure (some [x, y, z])) :
    PS X (.Assign [.Tuple [.Name x px, .Name y py, .Name z pz] kt pt] (.Tuple [ea, eb, ec] k2 pt2) pos) (cS (wd X T) Wx (wpS C T sub (.par3 i j k a b c))) :=
  (ps_par3 hc hN hi hj hk hij hik hjk hx hy hz (pa_cons ha (pa_cons hb (pa_cons hcc pa_nil (star_cons hn3)) (star_cons hn2)) (star_cons hn)) hw rfl).imp fun D σ H ⟨env, h, re, rh, q⟩ => ⟨env, h, re, rh, wpE_mono hC a (fun x h1 q v H1 t1 r1 rv => ⟨env, h1, re.mono t1, r1,
    wpE_mono hC b (fun y h2 q w H2 t2 r2 rw' => ⟨env, h2, (re.mono t1).mono t2, r2, wpE_mono hC c (fun z h3 q u H3 t3 r3 ru => ⟨v, w, u, rfl, q _ _ ((t1.trans t2).trans t3) (((((re.mono t1).mono t2).mono t3).set i ((rv.mono t2).mono t3)).set j (rw'.mono t3) |>.set k ru) r3⟩)
      (fun ax h' q => cX.mono (t1.trans t2) _ _ (absD.xle re _ _ q)) q⟩) (fun ax h' q => cX.mono t1 _ _ (absD.xle re _ _ q)) q⟩) (absD.xle re) q⟩
theorem pip_or : PIp X .Add (ipI fun i j => i + j) ∧ PIp X .Sub (ipI fun i j => i - j) := ⟨ip_add, ip_sub⟩
include hC in
theorem st_aug {i : Nat} {x : Str} {op : BOp} {p : Pos} (hop : op = .add ∨ op = .sub) (hN : X.N.Nodup) (hi : X.N[i]? = some x) (hx : Loc X.env.scope x) (hf : X.fn x = true ∨ X.env.scope.names.lookup x = some .local) (he : PE X ea (cE (wd X T) Wx (wpE C T a))) : PS X (.AugAssign (.Name x p) (bopPy op) ea pos) (cS (wd X T) Wx (wpS C T sub (.aug i op a))) := by
  rcases hop with rfl | rfl
  · exact (ps_aug hN hi hx he ip_add hf).imp fun D σ H ⟨env, h, re, rh, av, e, q⟩ => by
      obtain ⟨v, e1, rv⟩ := re.get i av e
      refine ⟨v, e1, env, h, re, rh, wpE_mono hC a (fun y h1 q w H1 t1 r1 rw' => ?_) (absD.xle re) q⟩
      obtain ⟨m, n, rfl, rfl, q⟩ := q
      rcases q with ⟨_, q⟩ | ⟨z, _⟩
      · exact ⟨m, n, rep_int.mp rv, rep_int.mp rw', q _ _ t1 ((re.mono t1).set i (rep_int.mpr rfl)) r1⟩
      · cases z
  · exact (ps_aug hN hi hx he ip_sub hf).imp fun D σ H ⟨env, h, re, rh, av, e, q⟩ => by
      obtain ⟨v, e1, rv⟩ := re.get i av e
      refine ⟨v, e1, env, h, re, rh, wpE_mono hC a (fun y h1 q w H1 t1 r1 rw' => ?_) (absD.xle re) q⟩
      obtain ⟨m, n, rfl, rfl, q⟩ := q
      rcases q with ⟨z, _⟩ | ⟨_, q⟩
      · cases z
      · exact ⟨m, n, rep_int.mp rv, rep_int.mp rw', q _ _ t1 ((re.mono t1).set i (rep_int.mpr rfl)) r1⟩
include hC in
theorem st_sat {o : CE} {eo : Expr} {f : Nat} {y : Str} {pos' : Pos} (N : NmOk T) (kf : ∀ c, (T.kc c).isSome = true → KlsF X T c) (hf : T.fl f = some y) (ho : PE X eo (cE (wd X T) Wx (wpE C T o))) (he : PE X ea (cE (wd X T) Wx (wpE C T a)))
    (hs : swapsWith ea (some (.Attribute eo y pos')) pos.line X.env = pure false) : PS X (.Assign [.Attribute eo y pos'] ea pos) (cS (wd X T) Wx (wpS C T sub (.sat o f a))) :=
  (ps_fld ho he hs).imp fun D σ H ⟨env, h, re, rh, q⟩ => ⟨env, h, re, rh, wpE_mono hC a (fun x h1 q v H1 t1 r1 rv => ⟨env, h1, re.mono t1, r1, wpE_mono hC o (fun z h2 q w H2 t2 r2 rw' => by
    cases z with
    | ref p =>
      obtain ⟨c, fs, e, hl, q⟩ := q
      obtain ⟨dx, vs, e1, k, hc⟩ := r2.ins e
      obtain ⟨ws, e2, k2⟩ := fld_put N hf (rv.mono t2) k
      have hl2 : vs.length = fs.length := by rw [k.length, List.length_map]
      have tw : TLe X.K H2 (upd H2 p (.ins (kAddr (wd X T) c) dx (((fput f x fs).map fun f => fldName T f.1).zip ws))) := TLe.write e1 trivial
      refine ⟨p, _, dx, _, rep_ref.mp rw', e1, (kf c hc).cls, (kf c hc).noat f y hf, by rw [zip_len hl2]; exact hl, ?_⟩
      rw [e2]
      exact q σ _ ((t1.trans t2).trans tw) (((re.mono t1).mono t2).mono tw) (r2.write e1 trivial (show RO (wd X T) _ p (.ins c (fput f x fs)) from ⟨dx, ws, upd_same, k2.mono tw, hc⟩))
    | _ => exact False.elim q) (fun ax h' q => cX.mono t1 _ _ (absD.xle re _ _ q)) q⟩) (absD.xle re) q⟩
include hC in
theorem st_expr (he : PE X ea (cE (wd X T) Wx (wpE C T a))) (hs : swapsWith ea none pos.line X.env = pure false) : PS X (.Expr ea pos) (cS (wd X T) Wx (wpS C T sub (.expr a))) :=
  (ps_expr he hs).imp fun D σ H ⟨env, h, re, rh, q⟩ => ⟨env, h, re, rh, wpE_mono hC a (fun x h1 q v H1 t1 r1 rv => q σ H1 t1 (re.mono t1) r1) (absD.xle re) q⟩
include hC in
theorem st_ret (he : PE X ea (cE (wd X T) Wx (wpE C T a))) : PS X (.Return (some ea) pos) (cS (wd X T) Wx (wpS C T sub (.ret a))) :=
  (ps_ret he).imp fun D σ H ⟨env, h, re, rh, q⟩ => ⟨env, h, re, rh, wpE_mono hC a (fun _ _ q => q) (absD.xle re) q⟩
theorem st_retN : PS X (.Return none pos) (cS (wd X T) Wx (wpS C T sub .retN)) := ps_retN.imp fun D σ H ⟨env, h, re, rh, q⟩ => cQ.here (W := (wd X T)) q rh (rep_non.mpr rfl)
theorem st_pass : PS X (.Pass pos) (cS (wd X T) Wx (wpS C T sub .pass)) := ps_pass.imp fun D σ H ⟨env, h, re, rh, q⟩ => q σ H TLe.refl re rh
theorem st_brk : PS X (.Break pos) (cS (wd X T) Wx (wpS C T sub .brk)) := ps_break.imp fun D σ H ⟨env, h, re, rh, q⟩ => q σ H TLe.refl re rh
theorem st_cont : PS X (.Continue pos) (cS (wd X T) Wx (wpS C T sub .cont)) := ps_continue.imp fun D σ H ⟨env, h, re, rh, q⟩ => q σ H TLe.refl re rh
include hC in
theorem st_if {t f : CS} {st sf : List Stmt} (hc : PT X ec (cT (wd X T) Wx (wpT C T c))) (ht : PSs X st (cS (wd X T) Wx (wpB C T sub t))) (hf : PSs X sf (cS (wd X T) Wx (wpB C T sub f))) : PS X (.If ec st sf pos) (cS (wd X T) Wx (wpS C T sub (.iff c t f))) :=
  (ps_if hc ht hf).imp fun D σ H ⟨env, h, re, rh, q⟩ => ⟨env, h, re, rh, wpT_mono hC c (fun r h1 q H1 t1 r1 => by
    cases r with
    | true => exact ⟨env, h1, re.mono t1, r1, wpB_mono hC t (absD.mono t1 D) q⟩
    | false => exact ⟨env, h1, re.mono t1, r1, wpB_mono hC f (absD.mono t1 D) q⟩) (absD.xle re) q⟩
include hC in
theorem st_whl {b : CS} {sb : List Stmt} (hp : PassesOwn (model X.prog X.w) X.A X.env X.xe) (hc : PT X ec (cT (wd X T) Wx (wpT C T c))) (hb : PSs X sb (cS (wd X T) Wx (wpB C T sub b))) : PS X (.While ec sb [] pos) (cS (wd X T) Wx (wpS C T sub (.whl c b))) :=
  (ps_while hp hc hb).imp fun D σ H ⟨env, h, re, rh, n, q⟩ => by
    refine ⟨fun m σ1 H1 => TLe X.K H H1 ∧ ∃ e1 h1, REnv X.K H1 e1 σ1 ∧ RH (wd X T) h1 H1 ∧ whlL (fun σ h k => wpT C T c σ h k (fun x h' => (absD (wd X T) Wx H D).ex x σ h')) (fun nx σ h => wpB C T sub b { absD (wd X T) Wx H D with nx := nx, ct := nx, bk := (absD (wd X T) Wx H D).nx } σ h) (absD (wd X T) Wx H D).nx m e1 h1,
      ⟨n, TLe.refl, env, h, re, rh, q⟩, ?_⟩
    rintro m σ1 H1 ⟨t1, e1, h1, re1, r1, w⟩
    cases m with
    | zero => exact w.elim
    | succ m =>
      refine ⟨e1, h1, re1, r1, wpT_mono hC c (fun b' h2 q H2 t2 r2 => ?_) (fun ax h' q => absD.xle (W := (wd X T)) (D := D) re1 _ _ (fun cls d σ' H' t' => q cls d σ' H' (t1.trans t'))) w⟩
      cases b' with
      | false => exact q σ1 H2 (t1.trans t2) (re1.mono t2) r2
      | true =>
        refine ⟨fun σ3 H3 => TLe X.K H H3 ∧ ∃ e1 h1, REnv X.K H3 e1 σ3 ∧ RH (wd X T) h1 H3 ∧ whlL (fun σ h k => wpT C T c σ h k (fun x h' => (absD (wd X T) Wx H D).ex x σ h')) (fun nx σ h => wpB C T sub b { absD (wd X T) Wx H D with nx := nx, ct := nx, bk := (absD (wd X T) Wx H D).nx } σ h) (absD (wd X T) Wx H D).nx m e1 h1,
          fun σ' H' w' => ⟨m, Nat.lt_succ_self m, w'⟩, e1, h2, re1.mono t2, r2, wpB_mono hC b ?_ q⟩
        have again : ∀ e h', Shs (whlL (fun σ h k => wpT C T c σ h k (fun x h' => (absD (wd X T) Wx H D).ex x σ h')) (fun nx σ h => wpB C T sub b { absD (wd X T) Wx H D with nx := nx, ct := nx, bk := (absD (wd X T) Wx H D).nx } σ h) (absD (wd X T) Wx H D).nx m) e h' → eQ (wd X T) H2 (fun σ3 H3 => TLe X.K H H3 ∧ ∃ e1 h1, REnv X.K H3 e1 σ3 ∧ RH (wd X T) h1 H3 ∧ whlL (fun σ h k => wpT C T c σ h k (fun x h' => (absD (wd X T) Wx H D).ex x σ h')) (fun nx σ h => wpB C T sub b { absD (wd X T) Wx H D with nx := nx, ct := nx, bk := (absD (wd X T) Wx H D).nx } σ h) (absD (wd X T) Wx H D).nx m e1 h1) e h' := by
          rintro e h' ⟨e4, h4, l1, l2, w⟩ σ5 H5 t5 re5 r5
          exact ⟨(t1.trans t2).trans t5, e4, h4, re5.sub l1, r5.sub l2, w⟩
        exact ⟨again, cQ.mono (t1.trans t2), eQ.mono (t1.trans t2), again, fun _ _ _ q cls d σ' H' t' => q cls d σ' H' ((t1.trans t2).trans t')⟩
include hC in
theorem st_for {b : CS} {g it : CE} {ei : Expr} {sb : List Stmt} (hp : PassesOwn (model X.prog X.w) X.A X.env X.xe) (hc : X.calm = true) (hi : PI X tg ei (cI (wd X T) Wx (wpI C T it))) (hg : PG X tg (cGt (wd X T) none (wpG C T g))) (hb : PSs X sb (cS (wd X T) Wx (wpB C T sub b)))
    (hs : ∀ x, foldedSetIterable ei X.env x = pure x) : PS X (.For tg ei sb [] pos) (cS (wd X T) Wx (wpS C T sub (.forr g it b))) :=
  (ps_for hp hc hi hg hb hs).imp fun D σ H ⟨env, h, re, rh, q⟩ => by
    refine ⟨env, h, re, rh, wpI_mono hC it (fun xs chk h1 q J H1 t1 r1 ok => ?_) (absD.xle re) q⟩
    refine ⟨fun i m σ2 H2 => m = xs.length - i ∧ i ≤ xs.length ∧ TLe X.K H1 H2 ∧ ∃ e2 h2, REnv X.K H2 e2 σ2 ∧ RH (wd X T) h2 H2 ∧ forL (fun x nx σ h => wpG C T g x σ h (fun σ2 h2 => wpB C T sub b { absD (wd X T) Wx H D with nx := nx, ct := nx, bk := (absD (wd X T) Wx H D).nx } σ2 h2)) chk (absD (wd X T) Wx H D).nx (xs.drop i) e2 h2,
      ⟨xs.length, by simp, Nat.zero_le _, TLe.refl, env, h1, re.mono t1, r1, q⟩, ?_⟩
    rintro i m σ2 H2 ⟨rfl, hi, t2, e2, h2, re2, r2, w⟩
    by_cases hlt : i < xs.length
    · rw [List.drop_eq_getElem_cons hlt] at w
      obtain ⟨ck, w⟩ := w
      obtain ⟨go, yl⟩ := (ok i H2 h2 t2 r2 ck).1 xs[i] (List.getElem?_eq_getElem hlt)
      refine .inr ⟨go, fun σ3 H3 => TLe X.K H1 H3 ∧ ∃ e3 h3, REnv X.K H3 e3 σ3 ∧ RH (wd X T) h3 H3 ∧ forL (fun x nx σ h => wpG C T g x σ h (fun σ2 h2 => wpB C T sub b { absD (wd X T) Wx H D with nx := nx, ct := nx, bk := (absD (wd X T) Wx H D).nx } σ2 h2)) chk (absD (wd X T) Wx H D).nx (xs.drop (i + 1)) e3 h3,
        fun σ' H' ⟨t', e', h', re', r', w'⟩ => ⟨xs.length - (i + 1), by omega, rfl, hlt, t', e', h', re', r', w'⟩, fun x H' y => ?_⟩
      obtain ⟨t3, keep, rx⟩ := yl x H' y
      refine ⟨_, e2, h2, rx, re2.mono t3, keep h2 r2, wpG_mono hC g (fun e4 h4 w σ4 H4 _ t4 re4 r4 => ⟨e4, h4, re4, r4, wpB_mono hC b ?_ w⟩) w⟩
      have t14 : TLe X.K H1 H4 := (t2.trans t3).trans t4
      have again : ∀ e h', Shs (forL (fun x nx σ h => wpG C T g x σ h (fun σ2 h2 => wpB C T sub b { absD (wd X T) Wx H D with nx := nx, ct := nx, bk := (absD (wd X T) Wx H D).nx } σ2 h2)) chk (absD (wd X T) Wx H D).nx (xs.drop (i + 1))) e h' →
          eQ (wd X T) H4 (fun σ3 H3 => TLe X.K H1 H3 ∧ ∃ e3 h3, REnv X.K H3 e3 σ3 ∧ RH (wd X T) h3 H3 ∧ forL (fun x nx σ h => wpG C T g x σ h (fun σ2 h2 => wpB C T sub b { absD (wd X T) Wx H D with nx := nx, ct := nx, bk := (absD (wd X T) Wx H D).nx } σ2 h2)) chk (absD (wd X T) Wx H D).nx (xs.drop (i + 1)) e3 h3) e h' := by
        rintro e h' ⟨e5, h5, l1, l2, w⟩ σ5 H5 t5 re5 r5
        exact ⟨t14.trans t5, e5, h5, re5.sub l1, r5.sub l2, w⟩
      exact ⟨again, cQ.mono (t1.trans t14), eQ.mono (t1.trans t14), again, fun _ _ _ q cls d σ' H' t' => q cls d σ' H' ((t1.trans t14).trans t')⟩
    · have e : i = xs.length := by omega
      subst e
      rw [List.drop_length] at w
      obtain ⟨ck, w⟩ := w
      exact .inl ⟨(ok _ H2 h2 t2 r2 ck).2 rfl, w σ2 H2 (t1.trans t2) re2 r2⟩
end
end PL

namespace PL
open PySem PySem.Spec PyProof.Rows L2
structure ExcF (X : Cx) (T : Tb) (c : Nat) (x : Str) : Prop where
  mg : X.mg x = some (.ref (clsAddr (wd X T) c))
  ex : PySem.W.excIn X.K (clsAddr (wd X T) c) He.veBase "ValueError.__new__" = true
  kp : PySem.W.keepIn X.K (.ref (clsAddr (wd X T) c)) = true
  su : PySem.W.subIn X.K (.ref (clsAddr (wd X T) c)) (.type "BaseException") = some true
  ty : PySem.W.typeIn X.K (.ref (clsAddr (wd X T) c)) = some (.type "type")
def hLst (X : Cx) (T : Tb) (C : ACall) (sub : Nat → Nat → Bool) : CS → List (Value × (Addr → Value → Option Addr → TS))
  | .hcons c b r => (.ref (clsAddr (wd X T) c), fun _ _ _ => cS (wd X T) (fun _ _ _ _ => False) (wpB C T sub b)) :: hLst X T C sub r
  | _ => []
def hOk (T : Tb) : CS → Bool
  | .hnil => true
  | .hcons c _ r => (T.cn c).isSome && hOk T r
  | _ => false
section
variable {X : Cx} {T : Tb} {C : ACall} {Wx : WX} (hC : CMono C) {sub : Nat → Nat → Bool} {pos : Pos}
theorem pmk_own0 {CC : Addr} {bmB : List Value} {B newId initId : String} {x : Str} {p : Pos} (F : ExcBaseFacts B newId initId bmB) (q : PySem.W.excIn X.K CC bmB newId = true) (gC : X.mg x = some (.ref CC))
    (kC : PySem.W.keepIn X.K (.ref CC) = true) (r : Raises X (.ref CC)) (hg : Gl X x) (hdb : (x == ("__debug__" : Str)) = false) : PMk X (.Call (.Name x p) [] [] pos) (fun _ H Q => Q (.ref CC) none H) := by
  intro pins s σ H Q I h
  refine wpAny_Call_Name_kw (ld_glob I hg gC ?_ hdb)
  refine PySem.W.callWith_K0 I.kIn kC ?_
  show wpAny _ _ (call (.ref CC) []) _ _ _
  obtain ⟨bm, N, nm, qn, bs, hdct, sn, sub, ab, col, dd, k0, k1, k2, k3, k5, mN, hC, hN, hni, T⟩ := exc_obj I.kIn q
  refine wpAny_call_exc_subT F T hC hN hni (fun h' e hm => ?_) (by show 0 ≤ sizeLine; omega)
  exact mk_of I hm r h (I.hok.gone hm.new)
theorem st_raise0 {c : Nat} {x : Str} {p p2 : Pos} (hc : X.calm = true) (tk : Takes X Wx) (F : ExcF X T c x) (hcn : T.cn c = some x) (hg : Gl X x) (hdb : (x == ("__debug__" : Str)) = false) :
    PS X (.Raise (some (.Call (.Name x p) [] [] p2)) none pos) (cS (wd X T) Wx (wpS C T sub (.raise c .nil))) :=
  (ps_raise hc tk (pmk_own0 PySem.F.excBase_ValueError F.ex F.mg F.kp (raises_own F.su F.ty) hg hdb)).imp fun D σ H ⟨env, h, re, rh, q⟩ => q _ _ σ H TLe.refl re rh ⟨rfl, rfl, x, hcn⟩

include hC in
theorem hs_many (hsub : ∀ c d x y, T.cn c = some x → T.cn d = some y → PySem.W.exmOne X.K (.ref (clsAddr (wd X T) c)) (.ref (clsAddr (wd X T) d)) = some (sub c d)) {D : Ends} {H : Hp} : ∀ (hs : CS) {ax : AX} {env : AEnv} {h : AH} {cls : Value} {d : Option Addr} {σ' : L2.St} {H' : Hp},
    hOk T hs = true → TLe X.K H H' → REnv X.K H' env σ' → RH (wd X T) h H' → RX (wd X T) H' ax cls d → wpH C T sub hs ax (absD (wd X T) Wx H D) env h → wMany X.K Wx D (hLst X T C sub hs) cls d σ' H'
  | .hnil, ax, env, h, cls, d, σ', H', _, t, re, rh, rx, q => q cls d σ' H' t re rh rx
  | .hcons c b r, ax, env, h, cls, d, σ', H', ok, t, re, rh, rx, q => by
    have ok : ((T.cn c).isSome && hOk T r) = true := ok
    rw [Bool.and_eq_true] at ok
    obtain ⟨y, hy⟩ := Option.isSome_iff_exists.mp ok.1
    obtain ⟨e1, e2, x, hx⟩ := id rx
    refine ⟨sub ax.cls c, by rw [e1]; exact hsub _ _ _ _ hx hy, fun hb a _ => ?_, fun hb => ?_⟩
    · have q : (if sub ax.cls c = true then wpB C T sub b { absD (wd X T) Wx H D with ex := fun _ _ _ => False } env h else wpH C T sub r ax (absD (wd X T) Wx H D) env h) := q
      rw [if_pos hb] at q
      exact ⟨env, h, re, rh, wpB_mono hC b (D := { absD (wd X T) Wx H D with ex := fun _ _ _ => False }) ⟨eQ.mono t, cQ.mono t, eQ.mono t, eQ.mono t, fun _ _ _ z => z.elim⟩ q⟩
    · have q : (if sub ax.cls c = true then wpB C T sub b { absD (wd X T) Wx H D with ex := fun _ _ _ => False } env h else wpH C T sub r ax (absD (wd X T) Wx H D) env h) := q
      rw [if_neg (by rw [hb]; decide)] at q
      exact hs_many hsub r ok.2 t re rh rx q
  | .asg _ _, _, _, _, _, _, _, _, ok, _, _, _, _, _ => by cases ok
  | .slc _ _, _, _, _, _, _, _, _, ok, _, _, _, _, _ => by cases ok
  | .par _ _ _ _, _, _, _, _, _, _, _, ok, _, _, _, _, _ => by cases ok
  | .par3 _ _ _ _ _ _, _, _, _, _, _, _, _, ok, _, _, _, _, _ => by cases ok
  | .aug _ _ _, _, _, _, _, _, _, _, ok, _, _, _, _, _ => by cases ok
  | .expr _, _, _, _, _, _, _, _, ok, _, _, _, _, _ => by cases ok
  | .ret _, _, _, _, _, _, _, _, ok, _, _, _, _, _ => by cases ok
  | .retN, _, _, _, _, _, _, _, ok, _, _, _, _, _ => by cases ok
  | .iff _ _ _, _, _, _, _, _, _, _, ok, _, _, _, _, _ => by cases ok
  | .whl _ _, _, _, _, _, _, _, _, ok, _, _, _, _, _ => by cases ok
  | .forr _ _ _, _, _, _, _, _, _, _, ok, _, _, _, _, _ => by cases ok
  | .raise _ _, _, _, _, _, _, _, _, ok, _, _, _, _, _ => by cases ok
  | .tri _ _, _, _, _, _, _, _, _, ok, _, _, _, _, _ => by cases ok
  | .pass, _, _, _, _, _, _, _, ok, _, _, _, _, _ => by cases ok
  | .brk, _, _, _, _, _, _, _, ok, _, _, _, _, _ => by cases ok
  | .cont, _, _, _, _, _, _, _, ok, _, _, _, _, _ => by cases ok
  | .sat _ _ _, _, _, _, _, _, _, _, ok, _, _, _, _, _ => by cases ok
  | .nil, _, _, _, _, _, _, _, ok, _, _, _, _, _ => by cases ok
  | .cons _ _, _, _, _, _, _, _, _, ok, _, _, _, _, _ => by cases ok
include hC in
theorem st_tri {b hs : CS} {sb : List Stmt} {h₀ : ExceptHandler} {hds : List ExceptHandler} (hst : X.stack = X.env :: X.outer) (hf : X.env.frame = some X.env.locals) (tk : Takes X Wx)
    (hsub : ∀ c d x y, T.cn c = some x → T.cn d = some y → PySem.W.exmOne X.K (.ref (clsAddr (wd X T) c)) (.ref (clsAddr (wd X T) d)) = some (sub c d)) (hok : hOk T hs = true)
    (hb : ∀ (W' : WX) (pn : List (Addr × Obj)) (xe : Value → Shared → Prop), Takes (X.tr pn xe) W' → PassesOwn (model X.prog X.w) X.A X.env xe → PSs (X.tr pn xe) sb (cS (wd X T) W' (wpB C T sub b)))
    (hh : HdsOk X (h₀ :: hds) (hLst X T C sub hs)) : PS X (.Try sb (h₀ :: hds) [] [] pos) (cS (wd X T) Wx (wpS C T sub (.tri b hs))) :=
  (ps_try_many (tb := fun W' => cS (wd X T) W' (wpB C T sub b)) hst hf tk hb hh).imp fun D σ H ⟨env, h, re, rh, q⟩ => ⟨env, h, re, rh, wpB_mono hC b (D := { absD (wd X T) Wx H D with ex := fun x σ' h' => wpH C T sub hs x (absD (wd X T) Wx H D) σ' h' })
    ⟨fun _ _ z => z, fun _ _ z => z, fun _ _ z => z, fun _ _ z => z, fun ax e1 h1 q cls d σ' H' t re1 r1 rx => hs_many hC hsub hs hok t re1 r1 rx q⟩ q⟩
end

def visB (sc : Scope) (x : Str) : Bool := match sc.names.lookup x with | some .local => true | some .cell => true | some .free => true | _ => false
def locB (sc : Scope) (fb : Str → Bool) (x : Str) : Bool := match sc.names.lookup x with | some .local => true | some .cell => fb x | _ => false
def glB (sc : Scope) (x : Str) : Bool := match sc.names.lookup x with | some .globalImplicit => true | _ => false
def nmOk (x : Str) : Bool := !(x == ("__debug__" : Str)) && !(x == ("__classdict__" : Str))
def mthNm : Mth → Str
  | .append => "append" | .extend => "extend" | .pop => "pop" | .get => "get" | .items => "items" | .index => "index" | .insert => "insert" | .join => "join" | .split => "split" | .lstrip => "lstrip" | .clear => "clear" | .upper => "upper" | .replace => "replace" | .count => "count" | .startswith => "startswith"
def tysB (T : Tb) (sc : Scope) : List Ty → List Expr → Bool
  | [], [] => true
  | t :: ts, .Name x _ :: es => decide (x = tyNmS t) && glB sc x && T.free.contains x && tysB T sc ts es
  | _, _ => false
def tyB (T : Tb) (sc : Scope) (ts : List Ty) : Expr → Bool
  | .Tuple es _ _ => decide (ts.length ≤ 20) && tysB T sc ts es
  | .Name x p => match ts with | [t] => tysB T sc [t] [.Name x p] | _ => false
  | _ => false
def isTup : Expr → Bool | .Tuple .. => true | _ => false
def ownPairs (N : List Str) (own : List Nat) : List (Str × Nat) := own.map fun i => (N.getD i "", i)
def blkF (scope : Scope) : Str → Bool := fun x => scope.names.lookup x == some .cell

def mthOk : Mth → List Expr → CE → Bool
  | .append, [_], _ => true
  | .extend, [_], _ => true
  | .pop, [], .nil => true
  | .pop, [_], .cons _ .nil => true
  | .get, [_, _], .cons _ (.cons _ .nil) => true
  | .get, [_], .cons _ .nil => true
  | .insert, [_, _], _ => true
  | .index, [_], _ => true
  | _, _, _ => false

def dtB (T : Tb) (g : Nat) (x : Str) : Bool := match T.dt g with | some t => decide (t.1 = x) | none => false
theorem dt_ok {T : Tb} {g : Nat} {x : Str} (h : dtB T g x = true) : ∃ kvs, T.dt g = some (x, kvs) := by
  unfold dtB at h
  split at h
  · rename_i t e
    have e2 := of_decide_eq_true h
    obtain ⟨a, b⟩ := t
    cases e2
    exact ⟨b, e⟩
  · cases h
mutual
def mE (T : Tb) (N : List Str) (hot : Bool) : CE → Scope → (Str → Bool) → Expr → Bool
  | .non, _, _, e => match e with | .Constant .none _ _ => true | _ => false
  | .bl b, _, _, e => match e with | .Constant (.bool c) _ _ => b == c | _ => false
  | .int b, _, _, e => match e with | .Constant (.int c) _ _ => decide (b = c) | _ => false
  | .str b, _, _, e => match e with | .Constant (.str c) _ _ => decide (b = c) | _ => false
  | .var i, sc, _, e => match e with | .Name x _ => decide (N[i]? = some x) && visB sc x && nmOk x | _ => false
  | .glob g, sc, _, e => match e with | .Name x _ => decide (T.gn g = some x) && glB sc x && nmOk x | _ => false
  | .tup es, sc, fb, e => match e with | .Tuple l _ _ => mEs T N hot es sc fb l | _ => false
  | .lst es, sc, fb, e => match e with | .List l _ => mEs T N hot es sc fb l | _ => false
  | .dct0, _, _, e => match e with | .Dict [] [] _ => true | _ => false
  | .bin op a b, sc, fb, e => match e with | .BinOp l o r _ => decide (o = bopPy op) && mE T N hot a sc fb l && mE T N hot b sc fb r | _ => false
  | .neg a, sc, fb, e => match e with | .UnaryOp .USub x _ => mE T N hot a sc fb x | _ => false
  | .not a, sc, fb, e => match e with | .UnaryOp .Not x _ => mE T N hot a sc fb x | _ => false
  | .cmp op a b, sc, fb, e => match e with | .Compare l [o] [r] _ => decide (o = copPy op) && noset r && mE T N hot a sc fb l && mE T N hot b sc fb r | _ => false
  | .chain o1 o2 a b c, sc, fb, e => match e with | .Compare l [o, o'] [r, s] _ => decide (o = copPy o1) && decide (o' = copPy o2) && noset s && mE T N hot a sc fb l && mE T N hot b sc fb r && mE T N hot c sc fb s | _ => false
  | .and es, sc, fb, e => match e with | .BoolOp .And l _ => mEs T N hot es sc fb l && !l.isEmpty | _ => false
  | .or es, sc, fb, e => match e with | .BoolOp .Or l _ => mEs T N hot es sc fb l && !l.isEmpty | _ => false
  | .ifx c a b, sc, fb, e => match e with | .IfExp t x y _ => mT T N hot c sc fb t && mE T N hot a sc fb x && mE T N hot b sc fb y | _ => false
  | .call f es, sc, fb, e => match e with | .Call (.Name x _) xs [] _ => !hot && decide (T.nm f = some x) && glB sc x && nmOk x && mEs T N hot es sc fb xs | _ => false
  | .blt f es, sc, fb, e => match e with | .Call (.Name x _) (y :: ys) [] _ => !hot && decide (x = bltNm f) && glB sc x && T.free.contains x && mEs T N hot es sc fb (y :: ys) | _ => false
  | .isin a ts, sc, fb, e => match e with | .Call (.Name x _) [y, z] [] _ => decide (x = "isinstance") && glB sc x && T.free.contains x && nost y && mE T N hot a sc fb y && tyB T sc ts z | _ => false
  | .idx a i, sc, fb, e => match e with | .Subscript x y _ => nosl y && mE T N hot a sc fb x && mE T N hot i sc fb y | _ => false
  | .slc a lo hi, sc, fb, e => match e with | .Subscript x (.Slice l h none _) _ => mE T N hot a sc fb x && mP T N hot lo sc fb l && mP T N hot hi sc fb h | _ => false
  | .rev a, sc, fb, e => match e with | .Subscript x (.Slice none none (some (.UnaryOp .USub (.Constant (.int 1) _ _) _)) _) _ => mE T N hot a sc fb x | _ => false
  | .mth m o es, sc, fb, e => match e with | .Call (.Attribute x nm apos) xs [] cpos => decide (nm = mthNm m) && nocall x && (apos.endLine == cpos.line) && mE T N hot o sc fb x && mEs T N hot es sc fb xs && mthOk m xs es | _ => false
  | .comp own g it ifs elt, sc, fb, e => match e with
    | .ListComp el [⟨tg, itr, cs, 0⟩] scope _ => !hot && blkC N sc scope (ownPairs N own) && mI T N hot it sc fb tg itr && noset itr && mG T N hot (some own) g (relS scope sc) (blkF scope) tg && mTs T N hot ifs (relS scope sc) (blkF scope) cs && mE T N hot elt (relS scope sc) (blkF scope) el
    | _ => false
  | .attr o f, sc, fb, e => match e with | .Attribute x y _ => decide (T.fl f = some y) && nocall x && mE T N hot o sc fb x | _ => false
  | .umth m o es, sc, fb, e => match e with | .Call (.Attribute x nm apos) xs [] cpos => !hot && decide (T.mt m = some nm) && nocall x && (apos.endLine == cpos.line) && decide (xs.length < 30) && mE T N hot o sc fb x && mEs T N hot es sc fb xs | _ => false
  | .new c es, sc, fb, e => match e with | .Call (.Name x _) xs [] _ => !hot && decide (T.kc c = some x) && (T.ki c).isSome && glB sc x && nmOk x && mEs T N hot es sc fb xs | _ => false
  | .inD a g neg, sc, fb, e => match e with | .Compare l [o] [.Name x _] _ => decide (o = if neg = true then .NotIn else .In) && dtB T g x && glB sc x && nmOk x && mE T N hot a sc fb l | _ => false
  | .ixD g a, sc, fb, e => match e with | .Subscript (.Name x _) y _ => nosl y && dtB T g x && glB sc x && nmOk x && mE T N hot a sc fb y | _ => false
  | _, _, _, _ => false
def mEs (T : Tb) (N : List Str) (hot : Bool) : CE → Scope → (Str → Bool) → List Expr → Bool
  | .nil, _, _, l => l.isEmpty
  | .cons e es, sc, fb, l => match l with | x :: xs => nost x && mE T N hot e sc fb x && mEs T N hot es sc fb xs | [] => false
  | _, _, _, _ => false
def mP (T : Tb) (N : List Str) (hot : Bool) : CE → Scope → (Str → Bool) → Option Expr → Bool
  | .nil, _, _, l => l.isNone
  | .cons e _, sc, fb, l => match l with | some x => mE T N hot e sc fb x | none => false
  | _, _, _, _ => false
def mT (T : Tb) (N : List Str) (hot : Bool) : CE → Scope → (Str → Bool) → Expr → Bool
  | .cmp op a b, sc, fb, e => match e with | .Compare l [o] [r] _ => decide (o = copPy op) && noset r && mE T N hot a sc fb l && mE T N hot b sc fb r | _ => false
  | .chain o1 o2 a b c, sc, fb, e => match e with | .Compare l [o, o'] [r, s] _ => decide (o = copPy o1) && decide (o' = copPy o2) && noset s && mE T N hot a sc fb l && mE T N hot b sc fb r && mE T N hot c sc fb s | _ => false
  | .not a, sc, fb, e => match e with | .UnaryOp .Not x _ => mT T N hot a sc fb x | _ => false
  | .and es, sc, fb, e => match e with | .BoolOp .And l _ => mTl T N hot es sc fb l && !l.isEmpty | _ => false
  | .or es, sc, fb, e => match e with | .BoolOp .Or l _ => mTl T N hot es sc fb l && !l.isEmpty | _ => false
  | .tru a, sc, fb, e => byval e && mE T N hot a sc fb e
  | .inD a g neg, sc, fb, e => match e with | .Compare l [o] [.Name x _] _ => decide (o = if neg = true then .NotIn else .In) && dtB T g x && glB sc x && nmOk x && mE T N hot a sc fb l | _ => false
  | _, _, _, _ => false
def mTl (T : Tb) (N : List Str) (hot : Bool) : CE → Scope → (Str → Bool) → List Expr → Bool
  | .nil, _, _, l => l.isEmpty
  | .cons e es, sc, fb, l => match l with | x :: xs => mT T N hot e sc fb x && mTl T N hot es sc fb xs | [] => false
  | _, _, _, _ => false
def mTs (T : Tb) (N : List Str) (hot : Bool) : CE → Scope → (Str → Bool) → List Expr → Bool
  | .nil, _, _, l => l.isEmpty
  | .cons e es, sc, fb, l => match l, es with | [x], .nil => mT T N hot e sc fb x | _, _ => false
  | _, _, _, _ => false
def mI (T : Tb) (N : List Str) (hot : Bool) : CE → Scope → (Str → Bool) → Expr → Expr → Bool
  | .range1 a, sc, fb, _, e => match e with | .Call (.Name x _) [y] [] _ => decide (x = "range") && glB sc x && T.free.contains x && nost y && mE T N hot a sc fb y | _ => false
  | .range2 a b, sc, fb, _, e => match e with | .Call (.Name x _) [y, z] [] _ => decide (x = "range") && glB sc x && T.free.contains x && nost y && nost z && mE T N hot a sc fb y && mE T N hot b sc fb z | _ => false
  | .enum a, sc, fb, tg, e => match e with | .Call (.Name x _) [y] [] _ => isTup tg && decide (x = "enumerate") && glB sc x && T.free.contains x && nost y && mE T N hot a sc fb y | _ => false
  | .zip a b, sc, fb, tg, e => match e with | .Call (.Name x _) [y, z] [] _ => isTup tg && decide (x = "zip") && glB sc x && T.free.contains x && nost y && nost z && mE T N hot a sc fb y && mE T N hot b sc fb z | _ => false
  | .val a, sc, fb, _, e => mE T N hot a sc fb e
  | _, _, _, _, _ => false
def mG (T : Tb) (N : List Str) (hot : Bool) (own : Option (List Nat)) : CE → Scope → (Str → Bool) → Expr → Bool
  | .var i, sc, fb, e => match e with | .Name x _ => decide (N[i]? = some x) && locB sc fb x && (match own with | some o => o.contains i | none => true) | _ => false
  | .tup gs, sc, fb, e => match e with | .Tuple l _ _ => !hot && l.all nost && mGs T N hot own gs sc fb l | _ => false
  | .idx o i, sc, fb, e => match e with | .Subscript x y _ => own.isNone && nosl y && mE T N hot o sc fb x && mE T N hot i sc fb y | _ => false
  | _, _, _, _ => false
def mGs (T : Tb) (N : List Str) (hot : Bool) (own : Option (List Nat)) : CE → Scope → (Str → Bool) → List Expr → Bool
  | .nil, _, _, l => l.isEmpty
  | .cons g gs, sc, fb, l => match l with | x :: xs => nost x && mG T N hot own g sc fb x && mGs T N hot own gs sc fb xs | [] => false
  | _, _, _, _ => false
end
end PL

namespace PL
open PySem PySem.Spec PyProof.Rows L2

structure CG (X : Cx) (T : Tb) (C : ACall) (N : List Str) (hot : Bool) (sc : Scope) (fb : Str → Bool) (Wx : WX) : Prop where
  mono : CMono C
  hN : X.N = N
  nd : N.Nodup
  hsc : X.env.scope = sc
  hfb : X.fn = fb
  hu : X.A.units + 80 < cLine
  calm : hot = false → X.calm = true
  fns : hot = false → ∀ f x, T.nm f = some x → FnC X T C f x
  gvs : ∀ g x, T.gn g = some x → ∃ v u, X.mg x = some u ∧ RelV v u ∧ ∀ av, T.gv g = some av → ∀ H, Rep X.K H av v
  free : ∀ x, T.free.contains x = true → X.mg x = none
  tk : Takes X Wx
  nmk : NmOk T
  kf : ∀ c, (T.kc c).isSome = true → KlsF X T c
  kc : hot = false → ∀ c x, T.kc c = some x → KlsC X T C c x
  dts : ∀ g x kvs, T.dt g = some (x, kvs) → DtF X x kvs
section
variable {T : Tb} {C : ACall} {N : List Str} {hot : Bool}
theorem CG.quiet {X : Cx} {sc : Scope} {fb : Str → Bool} {Wx : WX} (G : CG X T C N hot sc fb Wx) : CG X T C N hot sc fb (fun _ _ _ _ => False) := ⟨G.mono, G.hN, G.nd, G.hsc, G.hfb, G.hu, G.calm, G.fns, G.gvs, G.free, takes0, G.nmk, fun c h => ⟨(G.kf c h).cls, (G.kf c h).noat⟩, fun hh c x h => ⟨(G.kc hh c x h).mg, (G.kc hh c x h).ini, (G.kc hh c x h).mth⟩, fun g x kvs h => ⟨(G.dts g x kvs h).ex⟩⟩
theorem CG.blk {X : Cx} {sc : Scope} {fb : Str → Bool} {Wx : WX} (G : CG X T C N hot sc fb Wx) (s : Shared) (H : Hp) (scope : Scope) (C' : Addr) (cl : List (Str × Addr)) (fp : List Addr) : CG (X.blk s H scope (compEnvC scope cl C' X.env) fp) T C N hot (relS scope sc) (blkF scope) (fun _ _ _ _ => False) :=
  ⟨G.mono, G.hN, G.nd, by rw [← G.hsc]; rfl, rfl, G.hu, G.calm, G.fns, G.gvs, G.free, takes0, G.nmk, fun c h => ⟨(G.kf c h).cls, (G.kf c h).noat⟩, fun hh c x h => ⟨(G.kc hh c x h).mg, (G.kc hh c x h).ini, (G.kc hh c x h).mth⟩, fun g x kvs h => ⟨(G.dts g x kvs h).ex⟩⟩
theorem vis_ok {sc : Scope} {x : Str} (h : visB sc x = true) : Vis sc x := by
  unfold visB at h
  split at h <;> first | exact .inl (by assumption) | exact .inr (.inl (by assumption)) | exact .inr (.inr (by assumption)) | cases h
theorem loc_ok {sc : Scope} {fb : Str → Bool} {x : Str} (h : locB sc fb x = true) : Loc sc x ∧ (fb x = true ∨ sc.names.lookup x = some .local) := by
  unfold locB at h
  split at h
  · rename_i e; exact ⟨.inl e, .inr e⟩
  · rename_i e; exact ⟨.inr e, .inl h⟩
  · cases h
theorem gl_ok {X : Cx} {sc : Scope} {fb : Str → Bool} {Wx : WX} (G : CG X T C N hot sc fb Wx) {x : Str} (h : glB sc x = true) : Gl X x := by
  unfold glB at h
  unfold Gl Env.kindOf
  rw [G.hsc]
  split at h
  · assumption
  · cases h
theorem nm_ok {x : Str} (h : nmOk x = true) : (x == ("__debug__" : Str)) = false ∧ (x == ("__classdict__" : Str)) = false := by
  unfold nmOk at h
  rw [Bool.and_eq_true] at h
  simpa using h
theorem tys_ok {X : Cx} {sc : Scope} {fb : Str → Bool} {Wx : WX} (G : CG X T C N hot sc fb Wx) : ∀ {ts : List Ty} {es : List Expr}, tysB T sc ts es = true → ∃ ps, es = tyEs ts ps ∧ ts.length = ps.length ∧ ∀ t ∈ ts, Gl X (tyNmS t) ∧ X.mg (tyNmS t) = none
  | [], [], _ => ⟨[], rfl, rfl, fun _ h => nomatch h⟩
  | [], _ :: _, h => nomatch h
  | t :: ts, [], h => nomatch h
  | t :: ts, e :: es, h => by
    unfold tysB at h
    split at h
    · rename_i e1 e2; cases e1
    · rename_i x p _ _ e1 e2
      simp only [Bool.and_eq_true, decide_eq_true_eq] at h
      obtain ⟨⟨⟨h1, h2⟩, h3⟩, h4⟩ := h
      cases e1
      cases e2
      subst h1
      obtain ⟨ps, rfl, hl, ha⟩ := tys_ok G h4
      refine ⟨_ :: ps, rfl, by rw [List.length_cons, List.length_cons, hl], fun u hu => ?_⟩
      rcases List.mem_cons.mp hu with rfl | hu
      · exact ⟨gl_ok G h2, G.free _ h3⟩
      · exact ha u hu
    · cases h
theorem mGs_len {own : Option (List Nat)} {sc : Scope} {fb : Str → Bool} : ∀ {g : CE} {l : List Expr}, mGs T N hot own g sc fb l = true → g.len = l.length := by
  intro g
  induction g with
  | nil =>
    intro l h
    simp only [mGs, List.isEmpty_iff] at h
    subst h; rfl
  | cons g gs _ ih =>
    intro l h
    simp only [mGs] at h
    split at h
    · rw [Bool.and_eq_true] at h
      show gs.len + 1 = _
      rw [ih h.2, List.length_cons]
    · cases h
  | _ => intro l h; simp [mGs] at h
theorem mEs_nost {sc : Scope} {fb : Str → Bool} : ∀ {g : CE} {l : List Expr}, mEs T N hot g sc fb l = true → l.all nost = true := by
  intro g
  induction g with
  | nil =>
    intro l h
    simp only [mEs, List.isEmpty_iff] at h
    subst h; rfl
  | cons g gs _ ih =>
    intro l h
    simp only [mEs] at h
    split at h
    · rw [Bool.and_eq_true, Bool.and_eq_true] at h
      rw [List.all_cons, h.1.1, ih h.2]; rfl
    · cases h
  | _ => intro l h; simp [mEs] at h
theorem noset_fold {e : Expr} {env : Env} (h : noset e = true) : ∀ x, foldedSetIterable e env x = pure x := by
  intro x
  cases e <;> first | rfl | cases h

def allPE (X : Cx) (T : Tb) (C : ACall) (Wx : WX) : CE → List Expr → Prop
  | .cons a es, x :: xs => PE X x (cE (wd X T) Wx (wpE C T a)) ∧ allPE X T C Wx es xs
  | _, _ => True

mutual
theorem sE : ∀ (e : CE) {X : Cx} {sc : Scope} {fb : Str → Bool} {Wx : WX}, CG X T C N hot sc fb Wx → ∀ {ex : Expr}, mE T N hot e sc fb ex = true → PE X ex (cE (wd X T) Wx (wpE C T e))
  | .non, X, sc, fb, Wx, G, ex, h => by
    simp only [mE] at h; split at h
    · exact s_const pe_non (fun H => rep_non.mpr rfl) fun _ _ _ _ q => q
    · cases h
  | .bl b, X, sc, fb, Wx, G, ex, h => by
    simp only [mE] at h; split at h
    · rename_i c _ _
      have h : b = c := by simpa using h
      subst h
      exact s_const pe_bl (fun H => rep_bl.mpr rfl) fun _ _ _ _ q => q
    · cases h
  | .int b, X, sc, fb, Wx, G, ex, h => by
    simp only [mE] at h; split at h
    · rename_i c _ _
      have h : b = c := by simpa using h
      subst h
      exact s_const pe_int (fun H => rep_int.mpr rfl) fun _ _ _ _ q => q
    · cases h
  | .str b, X, sc, fb, Wx, G, ex, h => by
    simp only [mE] at h; split at h
    · rename_i c _ _
      have h : b = c := by simpa using h
      subst h
      exact s_const pe_str (fun H => rep_str.mpr rfl) fun _ _ _ _ q => q
    · cases h
  | .var i, X, sc, fb, Wx, G, ex, h => by
    simp only [mE] at h; split at h
    · simp only [Bool.and_eq_true, decide_eq_true_eq] at h
      exact s_var (by rw [G.hN]; exact h.1.1) (by rw [G.hsc]; exact vis_ok h.1.2) (nm_ok h.2).1 (nm_ok h.2).2
    · cases h
  | .glob g, X, sc, fb, Wx, G, ex, h => by
    simp only [mE] at h; split at h
    · simp only [Bool.and_eq_true, decide_eq_true_eq] at h
      obtain ⟨v, u, hm, hr, hv⟩ := G.gvs _ _ h.1.1
      exact (pe_glob (gl_ok G h.1.2) hm hr (nm_ok h.2).1).imp fun σ H Q ⟨env, hh, re, rh, av, e, q⟩ => cQ.here (W := wd X T) q rh (hv av e H)
    · cases h
  | .tup es, X, sc, fb, Wx, G, ex, h => by
    simp only [mE] at h; split at h
    · exact s_tup G.mono (sEs es G h)
    · cases h
  | .lst es, X, sc, fb, Wx, G, ex, h => by
    simp only [mE] at h; split at h
    · exact s_lst G.mono (sEs es G h)
    · cases h
  | .dct0, X, sc, fb, Wx, G, ex, h => by
    simp only [mE] at h; split at h
    · exact s_dct0
    · cases h
  | .bin op a b, X, sc, fb, Wx, G, ex, h => by
    simp only [mE] at h; split at h
    · simp only [Bool.and_eq_true, decide_eq_true_eq] at h
      obtain ⟨⟨rfl, h1⟩, h2⟩ := h
      exact s_bin G.mono (sE a G h1) (sE b G h2)
    · cases h
  | .neg a, X, sc, fb, Wx, G, ex, h => by
    simp only [mE] at h; split at h
    · exact s_neg G.mono (sE a G h)
    · cases h
  | .not a, X, sc, fb, Wx, G, ex, h => by
    simp only [mE] at h; split at h
    · exact s_not G.mono (sE a G h)
    · cases h
  | .cmp op a b, X, sc, fb, Wx, G, ex, h => by
    simp only [mE] at h; split at h
    · simp only [Bool.and_eq_true, decide_eq_true_eq] at h
      obtain ⟨⟨⟨rfl, h0⟩, h1⟩, h2⟩ := h
      exact s_cmp G.mono G.hu (sE a G h1) (sE b G h2) h0
    · cases h
  | .chain o1 o2 a b c, X, sc, fb, Wx, G, ex, h => by
    simp only [mE] at h; split at h
    · simp only [Bool.and_eq_true, decide_eq_true_eq] at h
      obtain ⟨⟨⟨⟨⟨rfl, rfl⟩, h0⟩, h1⟩, h2⟩, h3⟩ := h
      exact s_chain G.mono G.hu (sE a G h1) (sE b G h2) (sE c G h3) h0
    · cases h
  | .and es, X, sc, fb, Wx, G, ex, h => by
    simp only [mE] at h; split at h
    · simp only [Bool.and_eq_true] at h
      have q := sAndV es G h.1 (by simpa using h.2)
      exact q _
    · cases h
  | .or es, X, sc, fb, Wx, G, ex, h => by
    simp only [mE] at h; split at h
    · simp only [Bool.and_eq_true] at h
      have q := sOrV es G h.1 (by simpa using h.2)
      exact q _
    · cases h
  | .ifx c a b, X, sc, fb, Wx, G, ex, h => by
    simp only [mE] at h; split at h
    · simp only [Bool.and_eq_true] at h
      exact s_ifx G.mono (sT c G h.1.1) (sE a G h.1.2) (sE b G h.2)
    · cases h
  | .call f es, X, sc, fb, Wx, G, ex, h => by
    simp only [mE] at h; split at h
    · simp only [Bool.and_eq_true, decide_eq_true_eq] at h
      obtain ⟨⟨⟨⟨h0, h1⟩, h2⟩, h3⟩, h4⟩ := h
      have hh : hot = false := by simpa using h0
      have F := G.fns hh _ _ h1
      have ns := mEs_nost h4
      have pa := sEs es G h4
      rename_i _ _ xs _
      cases xs with
      | nil =>
        cases es with
        | nil => exact s_call0 G.mono G.tk F (gl_ok G h2) (nm_ok h3).1
        | _ => simp [mEs] at h4
      | cons y ys =>
        rw [List.all_cons, Bool.and_eq_true] at ns
        exact s_call G.mono G.tk F (gl_ok G h2) (nm_ok h3).1 pa ns.1 ns.2
    · cases h
  | .blt f es, X, sc, fb, Wx, G, ex, h => by
    simp only [mE] at h; split at h
    · simp only [Bool.and_eq_true, decide_eq_true_eq] at h
      obtain ⟨⟨⟨⟨h0, rfl⟩, h2⟩, h3⟩, h4⟩ := h
      have ns := mEs_nost h4
      rw [List.all_cons, Bool.and_eq_true] at ns
      exact s_blt G.mono (G.calm (by simpa using h0)) G.hu (gl_ok G h2) (G.free _ h3) (sEs es G h4) ns.1 ns.2
    · cases h
  | .isin a ts, X, sc, fb, Wx, G, ex, h => by
    simp only [mE] at h; split at h
    · simp only [Bool.and_eq_true, decide_eq_true_eq] at h
      obtain ⟨⟨⟨⟨⟨rfl, h1⟩, h2⟩, h3⟩, h4⟩, h5⟩ := h
      unfold tyB at h5
      split at h5
      · simp only [Bool.and_eq_true, decide_eq_true_eq] at h5
        obtain ⟨ps, rfl, hl, ha⟩ := tys_ok G h5.2
        exact s_isinT G.mono hl h5.1 (gl_ok G h1) (G.free _ h2) ha (sE a G h4) h3
      · split at h5
        · obtain ⟨ps, e, hl, ha⟩ := tys_ok G h5
          cases ps with
          | nil => cases e
          | cons p ps =>
            unfold tyEs at e
            cases e
            have q := ha _ List.mem_cons_self
            exact s_isin1 G.mono (gl_ok G h1) (G.free _ h2) q.1 q.2 (sE a G h4) h3
        · cases h5
      · cases h5
    · cases h
  | .idx a i, X, sc, fb, Wx, G, ex, h => by
    simp only [mE] at h; split at h
    · simp only [Bool.and_eq_true] at h
      exact s_idx G.mono G.hu (sE a G h.1.2) (sE i G h.2) h.1.1
    · cases h
  | .slc a lo hi, X, sc, fb, Wx, G, ex, h => by
    simp only [mE] at h; split at h
    · simp only [Bool.and_eq_true] at h
      exact s_slc G.mono (sE a G h.1.1) (sP lo G h.1.2) (sP hi G h.2)
    · cases h
  | .rev a, X, sc, fb, Wx, G, ex, h => by
    simp only [mE] at h; split at h
    · exact s_rev G.mono (sE a G h)
    · cases h
  | .mth m o es, X, sc, fb, Wx, G, ex, h => by
    simp only [mE] at h; split at h
    · simp only [Bool.and_eq_true, decide_eq_true_eq] at h
      obtain ⟨⟨⟨⟨⟨rfl, h1⟩, h2⟩, h3⟩, h4⟩, h5⟩ := h
      have ns := mEs_nost h4
      have al := sAll es G h4
      have ps := sEs es G h4
      unfold mthOk at h5
      split at h5
      · rw [List.all_cons, Bool.and_eq_true] at ns
        exact s_append G.mono (sE o G h3) (sEs es G h4) h1 h2 ns.1
      · rw [List.all_cons, Bool.and_eq_true] at ns
        exact s_extend G.mono (sE o G h3) (sEs es G h4) h1 h2 ns.1
      · exact s_pop G.mono (sE o G h3) h1 h2
      · rw [List.all_cons, Bool.and_eq_true] at ns
        exact s_popA G.mono (sE o G h3) ps h1 h2 ns.1
      · rename_i y z a b
        simp only [mEs, Bool.and_eq_true] at h4
        exact s_get2 G.mono G.hu (sE o G h3) al.1 al.2.1 h1 h2 h4.1.1 h4.2.1.1
      · rename_i y a
        simp only [mEs, Bool.and_eq_true] at h4
        exact s_get1 G.mono G.hu (sE o G h3) al.1 h1 h2 h4.1.1
      · rw [List.all_cons, List.all_cons, Bool.and_eq_true, Bool.and_eq_true] at ns
        exact s_insert G.mono (sE o G h3) ps h1 h2 ns.1 ns.2.1
      · rw [List.all_cons, Bool.and_eq_true] at ns
        exact s_index G.mono (sE o G h3) ps h1 h2 ns.1
      · cases h5
    · cases h
  | .comp own g it ifs elt, X, sc, fb, Wx, G, ex, h => by
    simp only [mE] at h; split at h
    · simp only [Bool.and_eq_true] at h
      obtain ⟨⟨⟨⟨⟨⟨h0, h1⟩, h2⟩, h3⟩, h4⟩, h5⟩, h6⟩ := h
      have hb := blkOk_by h1
      have ho : (ownPairs N own).map (·.2) = own := by unfold ownPairs; rw [List.map_map]; exact List.map_id' own
      exact (pe_lc (G.calm (by simpa using h0)) (by rw [G.hN]; exact G.nd) (sI it G h2) (by rw [G.hN, G.hsc]; exact hb)
        (fun s H C' cl fp => sG (some own) g (G.blk s H _ C' cl fp) h4) (fun s H C' cl fp => sTs ifs (G.blk s H _ C' cl fp) h5) (fun s H C' cl fp => sE elt (G.blk s H _ C' cl fp) h6) (noset_fold h3)).imp
        fun σ H Q ⟨env, hh, re, rh, q⟩ => by rw [ho]; exact lc_ok G.mono re rh q
    · cases h
  | .nil, _, _, _, _, _, _, h => (Bool.false_ne_true h).elim
  | .cons _ _, _, _, _, _, _, _, h => (Bool.false_ne_true h).elim
  | .attr o f, X, sc, fb, Wx, G, ex, h => by
    simp only [mE] at h; split at h
    · simp only [Bool.and_eq_true, decide_eq_true_eq] at h
      exact s_attr G.mono G.nmk G.kf h.1.1 (sE o G h.2) h.1.2
    · cases h
  | .umth m o es, X, sc, fb, Wx, G, ex, h => by
    simp only [mE] at h; split at h
    · simp only [Bool.and_eq_true, decide_eq_true_eq] at h
      obtain ⟨⟨⟨⟨⟨⟨h0, h1⟩, h2⟩, h3⟩, h30⟩, h4⟩, h5⟩ := h
      have hh : hot = false := by simpa using h0
      have ns := mEs_nost h5
      have pa := sEs es G h5
      rename_i _ _ _ xs _
      cases xs with
      | nil =>
        cases es with
        | nil => exact s_umth0 G.mono G.nmk G.kf (G.kc hh) G.tk h1 (sE o G h4) h2 h3
        | _ => simp [mEs] at h5
      | cons y ys =>
        rw [List.all_cons, Bool.and_eq_true] at ns
        exact s_umth G.mono G.nmk G.kf (G.kc hh) G.tk h1 (sE o G h4) h2 h3 pa ns.1 ns.2 h30
    · cases h
  | .new c es, X, sc, fb, Wx, G, ex, h => by
    simp only [mE] at h; split at h
    · simp only [Bool.and_eq_true, decide_eq_true_eq] at h
      obtain ⟨⟨⟨⟨⟨h0, h1⟩, h2⟩, h3⟩, h4⟩, h5⟩ := h
      have hh : hot = false := by simpa using h0
      have ns := mEs_nost h5
      have pa := sEs es G h5
      rename_i _ _ xs _
      cases xs with
      | nil =>
        cases es with
        | nil => exact s_new0 G.mono (G.kc hh) G.tk h1 h2 (gl_ok G h3) (nm_ok h4).1
        | _ => simp [mEs] at h5
      | cons y ys =>
        rw [List.all_cons, Bool.and_eq_true] at ns
        exact s_new G.mono (G.kc hh) G.tk h1 h2 (gl_ok G h3) (nm_ok h4).1 pa ns.1 ns.2
    · cases h
  | .inD a g neg, X, sc, fb, Wx, G, ex, h => by
    simp only [mE] at h; split at h
    · simp only [Bool.and_eq_true, decide_eq_true_eq] at h
      obtain ⟨⟨⟨⟨rfl, h1⟩, h2⟩, h3⟩, h4⟩ := h
      obtain ⟨kvs, hd⟩ := dt_ok h1
      exact s_inD G.mono (gl_ok G h2) (nm_ok h3).1 hd (G.dts _ _ _ hd) (sE a G h4)
    · cases h
  | .ixD g a, X, sc, fb, Wx, G, ex, h => by
    simp only [mE] at h; split at h
    · simp only [Bool.and_eq_true, decide_eq_true_eq] at h
      obtain ⟨⟨⟨⟨h0, h1⟩, h2⟩, h3⟩, h4⟩ := h
      obtain ⟨kvs, hd⟩ := dt_ok h1
      exact s_ixD G.mono (gl_ok G h2) (nm_ok h3).1 hd (G.dts _ _ _ hd) (sE a G h4) h0
    · cases h
  | .tru _, _, _, _, _, _, _, h => (Bool.false_ne_true h).elim
  | .val _, _, _, _, _, _, _, h => (Bool.false_ne_true h).elim
  | .range1 _, _, _, _, _, _, _, h => (Bool.false_ne_true h).elim
  | .range2 _ _, _, _, _, _, _, _, h => (Bool.false_ne_true h).elim
  | .range3 _ _ _, _, _, _, _, _, _, h => (Bool.false_ne_true h).elim
  | .enum _, _, _, _, _, _, _, h => (Bool.false_ne_true h).elim
  | .zip _ _, _, _, _, _, _, _, h => (Bool.false_ne_true h).elim
  | .ditems _, _, _, _, _, _, _, h => (Bool.false_ne_true h).elim
theorem sEs : ∀ (e : CE) {X : Cx} {sc : Scope} {fb : Str → Bool} {Wx : WX}, CG X T C N hot sc fb Wx → ∀ {l : List Expr}, mEs T N hot e sc fb l = true → PA X l (cA (wd X T) Wx (wpEs C T e))
  | .nil, X, sc, fb, Wx, G, l, h => by
    simp only [mEs, List.isEmpty_iff] at h
    subst h; exact a_nil
  | .cons e es, X, sc, fb, Wx, G, l, h => by
    simp only [mEs] at h; split at h
    · simp only [Bool.and_eq_true] at h
      exact a_cons G.mono (sE e G h.1.2) (sEs es G h.2) h.1.1
    · cases h
  | .non, _, _, _, _, _, _, h => (Bool.false_ne_true h).elim
  | .bl _, _, _, _, _, _, _, h => (Bool.false_ne_true h).elim
  | .int _, _, _, _, _, _, _, h => (Bool.false_ne_true h).elim
  | .str _, _, _, _, _, _, _, h => (Bool.false_ne_true h).elim
  | .var _, _, _, _, _, _, _, h => (Bool.false_ne_true h).elim
  | .glob _, _, _, _, _, _, _, h => (Bool.false_ne_true h).elim
  | .tup _, _, _, _, _, _, _, h => (Bool.false_ne_true h).elim
  | .lst _, _, _, _, _, _, _, h => (Bool.false_ne_true h).elim
  | .dct0, _, _, _, _, _, _, h => (Bool.false_ne_true h).elim
  | .bin _ _ _, _, _, _, _, _, _, h => (Bool.false_ne_true h).elim
  | .neg _, _, _, _, _, _, _, h => (Bool.false_ne_true h).elim
  | .not _, _, _, _, _, _, _, h => (Bool.false_ne_true h).elim
  | .cmp _ _ _, _, _, _, _, _, _, h => (Bool.false_ne_true h).elim
  | .chain _ _ _ _ _, _, _, _, _, _, _, h => (Bool.false_ne_true h).elim
  | .and _, _, _, _, _, _, _, h => (Bool.false_ne_true h).elim
  | .or _, _, _, _, _, _, _, h => (Bool.false_ne_true h).elim
  | .ifx _ _ _, _, _, _, _, _, _, h => (Bool.false_ne_true h).elim
  | .call _ _, _, _, _, _, _, _, h => (Bool.false_ne_true h).elim
  | .blt _ _, _, _, _, _, _, _, h => (Bool.false_ne_true h).elim
  | .isin _ _, _, _, _, _, _, _, h => (Bool.false_ne_true h).elim
  | .idx _ _, _, _, _, _, _, _, h => (Bool.false_ne_true h).elim
  | .slc _ _ _, _, _, _, _, _, _, h => (Bool.false_ne_true h).elim
  | .rev _, _, _, _, _, _, _, h => (Bool.false_ne_true h).elim
  | .mth _ _ _, _, _, _, _, _, _, h => (Bool.false_ne_true h).elim
  | .attr _ _, _, _, _, _, _, _, h => (Bool.false_ne_true h).elim
  | .umth _ _ _, _, _, _, _, _, _, h => (Bool.false_ne_true h).elim
  | .new _ _, _, _, _, _, _, _, h => (Bool.false_ne_true h).elim
  | .inD _ _ _, _, _, _, _, _, _, h => (Bool.false_ne_true h).elim
  | .ixD _ _, _, _, _, _, _, _, h => (Bool.false_ne_true h).elim
  | .comp _ _ _ _ _, _, _, _, _, _, _, h => (Bool.false_ne_true h).elim
  | .tru _, _, _, _, _, _, _, h => (Bool.false_ne_true h).elim
  | .val _, _, _, _, _, _, _, h => (Bool.false_ne_true h).elim
  | .range1 _, _, _, _, _, _, _, h => (Bool.false_ne_true h).elim
  | .range2 _ _, _, _, _, _, _, _, h => (Bool.false_ne_true h).elim
  | .range3 _ _ _, _, _, _, _, _, _, h => (Bool.false_ne_true h).elim
  | .enum _, _, _, _, _, _, _, h => (Bool.false_ne_true h).elim
  | .zip _ _, _, _, _, _, _, _, h => (Bool.false_ne_true h).elim
  | .ditems _, _, _, _, _, _, _, h => (Bool.false_ne_true h).elim
theorem sAll : ∀ (e : CE) {X : Cx} {sc : Scope} {fb : Str → Bool} {Wx : WX}, CG X T C N hot sc fb Wx → ∀ {l : List Expr}, mEs T N hot e sc fb l = true → allPE X T C Wx e l
  | .nil, X, sc, fb, Wx, G, l, h => by
    simp only [mEs, List.isEmpty_iff] at h
    subst h; exact trivial
  | .cons e es, X, sc, fb, Wx, G, l, h => by
    simp only [mEs] at h; split at h
    · simp only [Bool.and_eq_true] at h
      exact ⟨sE e G h.1.2, sAll es G h.2⟩
    · cases h
  | .non, _, _, _, _, _, _, h => (Bool.false_ne_true h).elim
  | .bl _, _, _, _, _, _, _, h => (Bool.false_ne_true h).elim
  | .int _, _, _, _, _, _, _, h => (Bool.false_ne_true h).elim
  | .str _, _, _, _, _, _, _, h => (Bool.false_ne_true h).elim
  | .var _, _, _, _, _, _, _, h => (Bool.false_ne_true h).elim
  | .glob _, _, _, _, _, _, _, h => (Bool.false_ne_true h).elim
  | .tup _, _, _, _, _, _, _, h => (Bool.false_ne_true h).elim
  | .lst _, _, _, _, _, _, _, h => (Bool.false_ne_true h).elim
  | .dct0, _, _, _, _, _, _, h => (Bool.false_ne_true h).elim
  | .bin _ _ _, _, _, _, _, _, _, h => (Bool.false_ne_true h).elim
  | .neg _, _, _, _, _, _, _, h => (Bool.false_ne_true h).elim
  | .not _, _, _, _, _, _, _, h => (Bool.false_ne_true h).elim
  | .cmp _ _ _, _, _, _, _, _, _, h => (Bool.false_ne_true h).elim
  | .chain _ _ _ _ _, _, _, _, _, _, _, h => (Bool.false_ne_true h).elim
  | .and _, _, _, _, _, _, _, h => (Bool.false_ne_true h).elim
  | .or _, _, _, _, _, _, _, h => (Bool.false_ne_true h).elim
  | .ifx _ _ _, _, _, _, _, _, _, h => (Bool.false_ne_true h).elim
  | .call _ _, _, _, _, _, _, _, h => (Bool.false_ne_true h).elim
  | .blt _ _, _, _, _, _, _, _, h => (Bool.false_ne_true h).elim
  | .isin _ _, _, _, _, _, _, _, h => (Bool.false_ne_true h).elim
  | .idx _ _, _, _, _, _, _, _, h => (Bool.false_ne_true h).elim
  | .slc _ _ _, _, _, _, _, _, _, h => (Bool.false_ne_true h).elim
  | .rev _, _, _, _, _, _, _, h => (Bool.false_ne_true h).elim
  | .mth _ _ _, _, _, _, _, _, _, h => (Bool.false_ne_true h).elim
  | .attr _ _, _, _, _, _, _, _, h => (Bool.false_ne_true h).elim
  | .umth _ _ _, _, _, _, _, _, _, h => (Bool.false_ne_true h).elim
  | .new _ _, _, _, _, _, _, _, h => (Bool.false_ne_true h).elim
  | .inD _ _ _, _, _, _, _, _, _, h => (Bool.false_ne_true h).elim
  | .ixD _ _, _, _, _, _, _, _, h => (Bool.false_ne_true h).elim
  | .comp _ _ _ _ _, _, _, _, _, _, _, h => (Bool.false_ne_true h).elim
  | .tru _, _, _, _, _, _, _, h => (Bool.false_ne_true h).elim
  | .val _, _, _, _, _, _, _, h => (Bool.false_ne_true h).elim
  | .range1 _, _, _, _, _, _, _, h => (Bool.false_ne_true h).elim
  | .range2 _ _, _, _, _, _, _, _, h => (Bool.false_ne_true h).elim
  | .range3 _ _ _, _, _, _, _, _, _, h => (Bool.false_ne_true h).elim
  | .enum _, _, _, _, _, _, _, h => (Bool.false_ne_true h).elim
  | .zip _ _, _, _, _, _, _, _, h => (Bool.false_ne_true h).elim
  | .ditems _, _, _, _, _, _, _, h => (Bool.false_ne_true h).elim
theorem sAndV : ∀ (e : CE) {X : Cx} {sc : Scope} {fb : Str → Bool} {Wx : WX}, CG X T C N hot sc fb Wx → ∀ {l : List Expr}, mEs T N hot e sc fb l = true → l ≠ [] → ∀ pos, PE X (.BoolOp .And l pos) (cE (wd X T) Wx (wpAndV C T e))
  | .nil, X, sc, fb, Wx, G, l, h, hn, pos => by
    simp only [mEs, List.isEmpty_iff] at h
    exact absurd h hn
  | .cons e es, X, sc, fb, Wx, G, l, h, hn, pos => by
    simp only [mEs] at h; split at h
    · simp only [Bool.and_eq_true] at h
      have r := fun hn => sAndV es G h.2 hn pos
      cases es with
      | nil =>
        have h2 := h.2
        simp only [mEs, List.isEmpty_iff] at h2
        subst h2
        exact s_and1 G.mono (sE e G h.1.2)
      | cons e' es' =>
        have h2 := h.2
        simp only [mEs] at h2
        split at h2
        · exact s_and G.mono (sE e G h.1.2) (r (by simp))
        · cases h2
      | _ => have h2 := h.2; simp [mEs] at h2
    · cases h
  | .non, _, _, _, _, _, _, h, _, _ => (Bool.false_ne_true h).elim
  | .bl _, _, _, _, _, _, _, h, _, _ => (Bool.false_ne_true h).elim
  | .int _, _, _, _, _, _, _, h, _, _ => (Bool.false_ne_true h).elim
  | .str _, _, _, _, _, _, _, h, _, _ => (Bool.false_ne_true h).elim
  | .var _, _, _, _, _, _, _, h, _, _ => (Bool.false_ne_true h).elim
  | .glob _, _, _, _, _, _, _, h, _, _ => (Bool.false_ne_true h).elim
  | .tup _, _, _, _, _, _, _, h, _, _ => (Bool.false_ne_true h).elim
  | .lst _, _, _, _, _, _, _, h, _, _ => (Bool.false_ne_true h).elim
  | .dct0, _, _, _, _, _, _, h, _, _ => (Bool.false_ne_true h).elim
  | .bin _ _ _, _, _, _, _, _, _, h, _, _ => (Bool.false_ne_true h).elim
  | .neg _, _, _, _, _, _, _, h, _, _ => (Bool.false_ne_true h).elim
  | .not _, _, _, _, _, _, _, h, _, _ => (Bool.false_ne_true h).elim
  | .cmp _ _ _, _, _, _, _, _, _, h, _, _ => (Bool.false_ne_true h).elim
  | .chain _ _ _ _ _, _, _, _, _, _, _, h, _, _ => (Bool.false_ne_true h).elim
  | .and _, _, _, _, _, _, _, h, _, _ => (Bool.false_ne_true h).elim
  | .or _, _, _, _, _, _, _, h, _, _ => (Bool.false_ne_true h).elim
  | .ifx _ _ _, _, _, _, _, _, _, h, _, _ => (Bool.false_ne_true h).elim
  | .call _ _, _, _, _, _, _, _, h, _, _ => (Bool.false_ne_true h).elim
  | .blt _ _, _, _, _, _, _, _, h, _, _ => (Bool.false_ne_true h).elim
  | .isin _ _, _, _, _, _, _, _, h, _, _ => (Bool.false_ne_true h).elim
  | .idx _ _, _, _, _, _, _, _, h, _, _ => (Bool.false_ne_true h).elim
  | .slc _ _ _, _, _, _, _, _, _, h, _, _ => (Bool.false_ne_true h).elim
  | .rev _, _, _, _, _, _, _, h, _, _ => (Bool.false_ne_true h).elim
  | .mth _ _ _, _, _, _, _, _, _, h, _, _ => (Bool.false_ne_true h).elim
  | .attr _ _, _, _, _, _, _, _, h, _, _ => (Bool.false_ne_true h).elim
  | .umth _ _ _, _, _, _, _, _, _, h, _, _ => (Bool.false_ne_true h).elim
  | .new _ _, _, _, _, _, _, _, h, _, _ => (Bool.false_ne_true h).elim
  | .inD _ _ _, _, _, _, _, _, _, h, _, _ => (Bool.false_ne_true h).elim
  | .ixD _ _, _, _, _, _, _, _, h, _, _ => (Bool.false_ne_true h).elim
  | .comp _ _ _ _ _, _, _, _, _, _, _, h, _, _ => (Bool.false_ne_true h).elim
  | .tru _, _, _, _, _, _, _, h, _, _ => (Bool.false_ne_true h).elim
  | .val _, _, _, _, _, _, _, h, _, _ => (Bool.false_ne_true h).elim
  | .range1 _, _, _, _, _, _, _, h, _, _ => (Bool.false_ne_true h).elim
  | .range2 _ _, _, _, _, _, _, _, h, _, _ => (Bool.false_ne_true h).elim
  | .range3 _ _ _, _, _, _, _, _, _, h, _, _ => (Bool.false_ne_true h).elim
  | .enum _, _, _, _, _, _, _, h, _, _ => (Bool.false_ne_true h).elim
  | .zip _ _, _, _, _, _, _, _, h, _, _ => (Bool.false_ne_true h).elim
  | .ditems _, _, _, _, _, _, _, h, _, _ => (Bool.false_ne_true h).elim
theorem sOrV : ∀ (e : CE) {X : Cx} {sc : Scope} {fb : Str → Bool} {Wx : WX}, CG X T C N hot sc fb Wx → ∀ {l : List Expr}, mEs T N hot e sc fb l = true → l ≠ [] → ∀ pos, PE X (.BoolOp .Or l pos) (cE (wd X T) Wx (wpOrV C T e))
  | .nil, X, sc, fb, Wx, G, l, h, hn, pos => by
    simp only [mEs, List.isEmpty_iff] at h
    exact absurd h hn
  | .cons e es, X, sc, fb, Wx, G, l, h, hn, pos => by
    simp only [mEs] at h; split at h
    · simp only [Bool.and_eq_true] at h
      have r := fun hn => sOrV es G h.2 hn pos
      cases es with
      | nil =>
        have h2 := h.2
        simp only [mEs, List.isEmpty_iff] at h2
        subst h2
        exact s_or1 G.mono (sE e G h.1.2)
      | cons e' es' =>
        have h2 := h.2
        simp only [mEs] at h2
        split at h2
        · exact s_or G.mono (sE e G h.1.2) (r (by simp))
        · cases h2
      | _ => have h2 := h.2; simp [mEs] at h2
    · cases h
  | .non, _, _, _, _, _, _, h, _, _ => (Bool.false_ne_true h).elim
  | .bl _, _, _, _, _, _, _, h, _, _ => (Bool.false_ne_true h).elim
  | .int _, _, _, _, _, _, _, h, _, _ => (Bool.false_ne_true h).elim
  | .str _, _, _, _, _, _, _, h, _, _ => (Bool.false_ne_true h).elim
  | .var _, _, _, _, _, _, _, h, _, _ => (Bool.false_ne_true h).elim
  | .glob _, _, _, _, _, _, _, h, _, _ => (Bool.false_ne_true h).elim
  | .tup _, _, _, _, _, _, _, h, _, _ => (Bool.false_ne_true h).elim
  | .lst _, _, _, _, _, _, _, h, _, _ => (Bool.false_ne_true h).elim
  | .dct0, _, _, _, _, _, _, h, _, _ => (Bool.false_ne_true h).elim
  | .bin _ _ _, _, _, _, _, _, _, h, _, _ => (Bool.false_ne_true h).elim
  | .neg _, _, _, _, _, _, _, h, _, _ => (Bool.false_ne_true h).elim
  | .not _, _, _, _, _, _, _, h, _, _ => (Bool.false_ne_true h).elim
  | .cmp _ _ _, _, _, _, _, _, _, h, _, _ => (Bool.false_ne_true h).elim
  | .chain _ _ _ _ _, _, _, _, _, _, _, h, _, _ => (Bool.false_ne_true h).elim
  | .and _, _, _, _, _, _, _, h, _, _ => (Bool.false_ne_true h).elim
  | .or _, _, _, _, _, _, _, h, _, _ => (Bool.false_ne_true h).elim
  | .ifx _ _ _, _, _, _, _, _, _, h, _, _ => (Bool.false_ne_true h).elim
  | .call _ _, _, _, _, _, _, _, h, _, _ => (Bool.false_ne_true h).elim
  | .blt _ _, _, _, _, _, _, _, h, _, _ => (Bool.false_ne_true h).elim
  | .isin _ _, _, _, _, _, _, _, h, _, _ => (Bool.false_ne_true h).elim
  | .idx _ _, _, _, _, _, _, _, h, _, _ => (Bool.false_ne_true h).elim
  | .slc _ _ _, _, _, _, _, _, _, h, _, _ => (Bool.false_ne_true h).elim
  | .rev _, _, _, _, _, _, _, h, _, _ => (Bool.false_ne_true h).elim
  | .mth _ _ _, _, _, _, _, _, _, h, _, _ => (Bool.false_ne_true h).elim
  | .attr _ _, _, _, _, _, _, _, h, _, _ => (Bool.false_ne_true h).elim
  | .umth _ _ _, _, _, _, _, _, _, h, _, _ => (Bool.false_ne_true h).elim
  | .new _ _, _, _, _, _, _, _, h, _, _ => (Bool.false_ne_true h).elim
  | .inD _ _ _, _, _, _, _, _, _, h, _, _ => (Bool.false_ne_true h).elim
  | .ixD _ _, _, _, _, _, _, _, h, _, _ => (Bool.false_ne_true h).elim
  | .comp _ _ _ _ _, _, _, _, _, _, _, h, _, _ => (Bool.false_ne_true h).elim
  | .tru _, _, _, _, _, _, _, h, _, _ => (Bool.false_ne_true h).elim
  | .val _, _, _, _, _, _, _, h, _, _ => (Bool.false_ne_true h).elim
  | .range1 _, _, _, _, _, _, _, h, _, _ => (Bool.false_ne_true h).elim
  | .range2 _ _, _, _, _, _, _, _, h, _, _ => (Bool.false_ne_true h).elim
  | .range3 _ _ _, _, _, _, _, _, _, h, _, _ => (Bool.false_ne_true h).elim
  | .enum _, _, _, _, _, _, _, h, _, _ => (Bool.false_ne_true h).elim
  | .zip _ _, _, _, _, _, _, _, h, _, _ => (Bool.false_ne_true h).elim
  | .ditems _, _, _, _, _, _, _, h, _, _ => (Bool.false_ne_true h).elim
theorem sP : ∀ (e : CE) {X : Cx} {sc : Scope} {fb : Str → Bool} {Wx : WX}, CG X T C N hot sc fb Wx → ∀ {l : Option Expr}, mP T N hot e sc fb l = true → PO X l (cP (wd X T) Wx (wpP C T e))
  | .nil, X, sc, fb, Wx, G, l, h => by
    simp only [mP, Option.isNone_iff_eq_none] at h
    subst h; exact p_none
  | .cons e es, X, sc, fb, Wx, G, l, h => by
    simp only [mP] at h; split at h
    · exact p_some G.mono (sE e G h)
    · cases h
  | .non, _, _, _, _, _, _, h => (Bool.false_ne_true h).elim
  | .bl _, _, _, _, _, _, _, h => (Bool.false_ne_true h).elim
  | .int _, _, _, _, _, _, _, h => (Bool.false_ne_true h).elim
  | .str _, _, _, _, _, _, _, h => (Bool.false_ne_true h).elim
  | .var _, _, _, _, _, _, _, h => (Bool.false_ne_true h).elim
  | .glob _, _, _, _, _, _, _, h => (Bool.false_ne_true h).elim
  | .tup _, _, _, _, _, _, _, h => (Bool.false_ne_true h).elim
  | .lst _, _, _, _, _, _, _, h => (Bool.false_ne_true h).elim
  | .dct0, _, _, _, _, _, _, h => (Bool.false_ne_true h).elim
  | .bin _ _ _, _, _, _, _, _, _, h => (Bool.false_ne_true h).elim
  | .neg _, _, _, _, _, _, _, h => (Bool.false_ne_true h).elim
  | .not _, _, _, _, _, _, _, h => (Bool.false_ne_true h).elim
  | .cmp _ _ _, _, _, _, _, _, _, h => (Bool.false_ne_true h).elim
  | .chain _ _ _ _ _, _, _, _, _, _, _, h => (Bool.false_ne_true h).elim
  | .and _, _, _, _, _, _, _, h => (Bool.false_ne_true h).elim
  | .or _, _, _, _, _, _, _, h => (Bool.false_ne_true h).elim
  | .ifx _ _ _, _, _, _, _, _, _, h => (Bool.false_ne_true h).elim
  | .call _ _, _, _, _, _, _, _, h => (Bool.false_ne_true h).elim
  | .blt _ _, _, _, _, _, _, _, h => (Bool.false_ne_true h).elim
  | .isin _ _, _, _, _, _, _, _, h => (Bool.false_ne_true h).elim
  | .idx _ _, _, _, _, _, _, _, h => (Bool.false_ne_true h).elim
  | .slc _ _ _, _, _, _, _, _, _, h => (Bool.false_ne_true h).elim
  | .rev _, _, _, _, _, _, _, h => (Bool.false_ne_true h).elim
  | .mth _ _ _, _, _, _, _, _, _, h => (Bool.false_ne_true h).elim
  | .attr _ _, _, _, _, _, _, _, h => (Bool.false_ne_true h).elim
  | .umth _ _ _, _, _, _, _, _, _, h => (Bool.false_ne_true h).elim
  | .new _ _, _, _, _, _, _, _, h => (Bool.false_ne_true h).elim
  | .inD _ _ _, _, _, _, _, _, _, h => (Bool.false_ne_true h).elim
  | .ixD _ _, _, _, _, _, _, _, h => (Bool.false_ne_true h).elim
  | .comp _ _ _ _ _, _, _, _, _, _, _, h => (Bool.false_ne_true h).elim
  | .tru _, _, _, _, _, _, _, h => (Bool.false_ne_true h).elim
  | .val _, _, _, _, _, _, _, h => (Bool.false_ne_true h).elim
  | .range1 _, _, _, _, _, _, _, h => (Bool.false_ne_true h).elim
  | .range2 _ _, _, _, _, _, _, _, h => (Bool.false_ne_true h).elim
  | .range3 _ _ _, _, _, _, _, _, _, h => (Bool.false_ne_true h).elim
  | .enum _, _, _, _, _, _, _, h => (Bool.false_ne_true h).elim
  | .zip _ _, _, _, _, _, _, _, h => (Bool.false_ne_true h).elim
  | .ditems _, _, _, _, _, _, _, h => (Bool.false_ne_true h).elim
theorem sT : ∀ (e : CE) {X : Cx} {sc : Scope} {fb : Str → Bool} {Wx : WX}, CG X T C N hot sc fb Wx → ∀ {ex : Expr}, mT T N hot e sc fb ex = true → PT X ex (cT (wd X T) Wx (wpT C T e))
  | .cmp op a b, X, sc, fb, Wx, G, ex, h => by
    simp only [mT] at h; split at h
    · simp only [Bool.and_eq_true, decide_eq_true_eq] at h
      obtain ⟨⟨⟨rfl, h0⟩, h1⟩, h2⟩ := h
      exact t_cmp G.mono G.hu (sE a G h1) (sE b G h2) h0
    · cases h
  | .chain o1 o2 a b c, X, sc, fb, Wx, G, ex, h => by
    simp only [mT] at h; split at h
    · simp only [Bool.and_eq_true, decide_eq_true_eq] at h
      obtain ⟨⟨⟨⟨⟨rfl, rfl⟩, h0⟩, h1⟩, h2⟩, h3⟩ := h
      exact t_chain G.mono G.hu (sE a G h1) (sE b G h2) (sE c G h3) h0
    · cases h
  | .not a, X, sc, fb, Wx, G, ex, h => by
    simp only [mT] at h; split at h
    · exact t_not G.mono (sT a G h)
    · cases h
  | .and es, X, sc, fb, Wx, G, ex, h => by
    simp only [mT] at h; split at h
    · simp only [Bool.and_eq_true] at h
      exact (sAnd es G h.1 (by simpa using h.2) _).pt
    · cases h
  | .or es, X, sc, fb, Wx, G, ex, h => by
    simp only [mT] at h; split at h
    · simp only [Bool.and_eq_true] at h
      exact (sOr es G h.1 (by simpa using h.2) _).pt
    · cases h
  | .tru a, X, sc, fb, Wx, G, ex, h => by
    simp only [mT, Bool.and_eq_true] at h
    exact t_tru G.mono (sE a G h.2) h.1
  | .non, _, _, _, _, _, _, h => (Bool.false_ne_true h).elim
  | .bl _, _, _, _, _, _, _, h => (Bool.false_ne_true h).elim
  | .int _, _, _, _, _, _, _, h => (Bool.false_ne_true h).elim
  | .str _, _, _, _, _, _, _, h => (Bool.false_ne_true h).elim
  | .var _, _, _, _, _, _, _, h => (Bool.false_ne_true h).elim
  | .glob _, _, _, _, _, _, _, h => (Bool.false_ne_true h).elim
  | .nil, _, _, _, _, _, _, h => (Bool.false_ne_true h).elim
  | .cons _ _, _, _, _, _, _, _, h => (Bool.false_ne_true h).elim
  | .tup _, _, _, _, _, _, _, h => (Bool.false_ne_true h).elim
  | .lst _, _, _, _, _, _, _, h => (Bool.false_ne_true h).elim
  | .dct0, _, _, _, _, _, _, h => (Bool.false_ne_true h).elim
  | .bin _ _ _, _, _, _, _, _, _, h => (Bool.false_ne_true h).elim
  | .neg _, _, _, _, _, _, _, h => (Bool.false_ne_true h).elim
  | .ifx _ _ _, _, _, _, _, _, _, h => (Bool.false_ne_true h).elim
  | .call _ _, _, _, _, _, _, _, h => (Bool.false_ne_true h).elim
  | .blt _ _, _, _, _, _, _, _, h => (Bool.false_ne_true h).elim
  | .isin _ _, _, _, _, _, _, _, h => (Bool.false_ne_true h).elim
  | .idx _ _, _, _, _, _, _, _, h => (Bool.false_ne_true h).elim
  | .slc _ _ _, _, _, _, _, _, _, h => (Bool.false_ne_true h).elim
  | .rev _, _, _, _, _, _, _, h => (Bool.false_ne_true h).elim
  | .mth _ _ _, _, _, _, _, _, _, h => (Bool.false_ne_true h).elim
  | .attr _ _, _, _, _, _, _, _, h => (Bool.false_ne_true h).elim
  | .umth _ _ _, _, _, _, _, _, _, h => (Bool.false_ne_true h).elim
  | .new _ _, _, _, _, _, _, _, h => (Bool.false_ne_true h).elim
  | .inD a g neg, X, sc, fb, Wx, G, ex, h => by
    simp only [mT] at h; split at h
    · simp only [Bool.and_eq_true, decide_eq_true_eq] at h
      obtain ⟨⟨⟨⟨rfl, h1⟩, h2⟩, h3⟩, h4⟩ := h
      obtain ⟨kvs, hd⟩ := dt_ok h1
      exact t_inD G.mono (gl_ok G h2) (nm_ok h3).1 hd (G.dts _ _ _ hd) (sE a G h4)
    · cases h
  | .ixD _ _, _, _, _, _, _, _, h => (Bool.false_ne_true h).elim
  | .comp _ _ _ _ _, _, _, _, _, _, _, h => (Bool.false_ne_true h).elim
  | .val _, _, _, _, _, _, _, h => (Bool.false_ne_true h).elim
  | .range1 _, _, _, _, _, _, _, h => (Bool.false_ne_true h).elim
  | .range2 _ _, _, _, _, _, _, _, h => (Bool.false_ne_true h).elim
  | .range3 _ _ _, _, _, _, _, _, _, h => (Bool.false_ne_true h).elim
  | .enum _, _, _, _, _, _, _, h => (Bool.false_ne_true h).elim
  | .zip _ _, _, _, _, _, _, _, h => (Bool.false_ne_true h).elim
  | .ditems _, _, _, _, _, _, _, h => (Bool.false_ne_true h).elim
theorem sAnd : ∀ (e : CE) {X : Cx} {sc : Scope} {fb : Str → Bool} {Wx : WX}, CG X T C N hot sc fb Wx → ∀ {l : List Expr}, mTl T N hot e sc fb l = true → l ≠ [] → ∀ pos, PW X (.BoolOp .And l pos) (cT (wd X T) Wx (wpAnd C T e))
  | .nil, X, sc, fb, Wx, G, l, h, hn, pos => by
    simp only [mTl, List.isEmpty_iff] at h
    exact absurd h hn
  | .cons e es, X, sc, fb, Wx, G, l, h, hn, pos => by
    simp only [mTl] at h; split at h
    · rename_i x xs
      simp only [Bool.and_eq_true] at h
      cases xs with
      | nil =>
        cases es with
        | nil => exact t_and1 G.mono (sT e G h.1)
        | _ => have h2 := h.2; simp [mTl] at h2
      | cons y ys => exact t_and G.mono (sT e G h.1) (sAnd es G h.2 (by simp) pos)
    · cases h
  | .non, _, _, _, _, _, _, h, _, _ => (Bool.false_ne_true h).elim
  | .bl _, _, _, _, _, _, _, h, _, _ => (Bool.false_ne_true h).elim
  | .int _, _, _, _, _, _, _, h, _, _ => (Bool.false_ne_true h).elim
  | .str _, _, _, _, _, _, _, h, _, _ => (Bool.false_ne_true h).elim
  | .var _, _, _, _, _, _, _, h, _, _ => (Bool.false_ne_true h).elim
  | .glob _, _, _, _, _, _, _, h, _, _ => (Bool.false_ne_true h).elim
  | .tup _, _, _, _, _, _, _, h, _, _ => (Bool.false_ne_true h).elim
  | .lst _, _, _, _, _, _, _, h, _, _ => (Bool.false_ne_true h).elim
  | .dct0, _, _, _, _, _, _, h, _, _ => (Bool.false_ne_true h).elim
  | .bin _ _ _, _, _, _, _, _, _, h, _, _ => (Bool.false_ne_true h).elim
  | .neg _, _, _, _, _, _, _, h, _, _ => (Bool.false_ne_true h).elim
  | .not _, _, _, _, _, _, _, h, _, _ => (Bool.false_ne_true h).elim
  | .cmp _ _ _, _, _, _, _, _, _, h, _, _ => (Bool.false_ne_true h).elim
  | .chain _ _ _ _ _, _, _, _, _, _, _, h, _, _ => (Bool.false_ne_true h).elim
  | .and _, _, _, _, _, _, _, h, _, _ => (Bool.false_ne_true h).elim
  | .or _, _, _, _, _, _, _, h, _, _ => (Bool.false_ne_true h).elim
  | .ifx _ _ _, _, _, _, _, _, _, h, _, _ => (Bool.false_ne_true h).elim
  | .call _ _, _, _, _, _, _, _, h, _, _ => (Bool.false_ne_true h).elim
  | .blt _ _, _, _, _, _, _, _, h, _, _ => (Bool.false_ne_true h).elim
  | .isin _ _, _, _, _, _, _, _, h, _, _ => (Bool.false_ne_true h).elim
  | .idx _ _, _, _, _, _, _, _, h, _, _ => (Bool.false_ne_true h).elim
  | .slc _ _ _, _, _, _, _, _, _, h, _, _ => (Bool.false_ne_true h).elim
  | .rev _, _, _, _, _, _, _, h, _, _ => (Bool.false_ne_true h).elim
  | .mth _ _ _, _, _, _, _, _, _, h, _, _ => (Bool.false_ne_true h).elim
  | .attr _ _, _, _, _, _, _, _, h, _, _ => (Bool.false_ne_true h).elim
  | .umth _ _ _, _, _, _, _, _, _, h, _, _ => (Bool.false_ne_true h).elim
  | .new _ _, _, _, _, _, _, _, h, _, _ => (Bool.false_ne_true h).elim
  | .inD _ _ _, _, _, _, _, _, _, h, _, _ => (Bool.false_ne_true h).elim
  | .ixD _ _, _, _, _, _, _, _, h, _, _ => (Bool.false_ne_true h).elim
  | .comp _ _ _ _ _, _, _, _, _, _, _, h, _, _ => (Bool.false_ne_true h).elim
  | .tru _, _, _, _, _, _, _, h, _, _ => (Bool.false_ne_true h).elim
  | .val _, _, _, _, _, _, _, h, _, _ => (Bool.false_ne_true h).elim
  | .range1 _, _, _, _, _, _, _, h, _, _ => (Bool.false_ne_true h).elim
  | .range2 _ _, _, _, _, _, _, _, h, _, _ => (Bool.false_ne_true h).elim
  | .range3 _ _ _, _, _, _, _, _, _, h, _, _ => (Bool.false_ne_true h).elim
  | .enum _, _, _, _, _, _, _, h, _, _ => (Bool.false_ne_true h).elim
  | .zip _ _, _, _, _, _, _, _, h, _, _ => (Bool.false_ne_true h).elim
  | .ditems _, _, _, _, _, _, _, h, _, _ => (Bool.false_ne_true h).elim
theorem sOr : ∀ (e : CE) {X : Cx} {sc : Scope} {fb : Str → Bool} {Wx : WX}, CG X T C N hot sc fb Wx → ∀ {l : List Expr}, mTl T N hot e sc fb l = true → l ≠ [] → ∀ pos, PW X (.BoolOp .Or l pos) (cT (wd X T) Wx (wpOr C T e))
  | .nil, X, sc, fb, Wx, G, l, h, hn, pos => by
    simp only [mTl, List.isEmpty_iff] at h
    exact absurd h hn
  | .cons e es, X, sc, fb, Wx, G, l, h, hn, pos => by
    simp only [mTl] at h; split at h
    · rename_i x xs
      simp only [Bool.and_eq_true] at h
      cases xs with
      | nil =>
        cases es with
        | nil => exact t_or1 G.mono (sT e G h.1)
        | _ => have h2 := h.2; simp [mTl] at h2
      | cons y ys => exact t_or G.mono (sT e G h.1) (sOr es G h.2 (by simp) pos)
    · cases h
  | .non, _, _, _, _, _, _, h, _, _ => (Bool.false_ne_true h).elim
  | .bl _, _, _, _, _, _, _, h, _, _ => (Bool.false_ne_true h).elim
  | .int _, _, _, _, _, _, _, h, _, _ => (Bool.false_ne_true h).elim
  | .str _, _, _, _, _, _, _, h, _, _ => (Bool.false_ne_true h).elim
  | .var _, _, _, _, _, _, _, h, _, _ => (Bool.false_ne_true h).elim
  | .glob _, _, _, _, _, _, _, h, _, _ => (Bool.false_ne_true h).elim
  | .tup _, _, _, _, _, _, _, h, _, _ => (Bool.false_ne_true h).elim
  | .lst _, _, _, _, _, _, _, h, _, _ => (Bool.false_ne_true h).elim
  | .dct0, _, _, _, _, _, _, h, _, _ => (Bool.false_ne_true h).elim
  | .bin _ _ _, _, _, _, _, _, _, h, _, _ => (Bool.false_ne_true h).elim
  | .neg _, _, _, _, _, _, _, h, _, _ => (Bool.false_ne_true h).elim
  | .not _, _, _, _, _, _, _, h, _, _ => (Bool.false_ne_true h).elim
  | .cmp _ _ _, _, _, _, _, _, _, h, _, _ => (Bool.false_ne_true h).elim
  | .chain _ _ _ _ _, _, _, _, _, _, _, h, _, _ => (Bool.false_ne_true h).elim
  | .and _, _, _, _, _, _, _, h, _, _ => (Bool.false_ne_true h).elim
  | .or _, _, _, _, _, _, _, h, _, _ => (Bool.false_ne_true h).elim
  | .ifx _ _ _, _, _, _, _, _, _, h, _, _ => (Bool.false_ne_true h).elim
  | .call _ _, _, _, _, _, _, _, h, _, _ => (Bool.false_ne_true h).elim
  | .blt _ _, _, _, _, _, _, _, h, _, _ => (Bool.false_ne_true h).elim
  | .isin _ _, _, _, _, _, _, _, h, _, _ => (Bool.false_ne_true h).elim
  | .idx _ _, _, _, _, _, _, _, h, _, _ => (Bool.false_ne_true h).elim
  | .slc _ _ _, _, _, _, _, _, _, h, _, _ => (Bool.false_ne_true h).elim
  | .rev _, _, _, _, _, _, _, h, _, _ => (Bool.false_ne_true h).elim
  | .mth _ _ _, _, _, _, _, _, _, h, _, _ => (Bool.false_ne_true h).elim
  | .attr _ _, _, _, _, _, _, _, h, _, _ => (Bool.false_ne_true h).elim
  | .umth _ _ _, _, _, _, _, _, _, h, _, _ => (Bool.false_ne_true h).elim
  | .new _ _, _, _, _, _, _, _, h, _, _ => (Bool.false_ne_true h).elim
  | .inD _ _ _, _, _, _, _, _, _, h, _, _ => (Bool.false_ne_true h).elim
  | .ixD _ _, _, _, _, _, _, _, h, _, _ => (Bool.false_ne_true h).elim
  | .comp _ _ _ _ _, _, _, _, _, _, _, h, _, _ => (Bool.false_ne_true h).elim
  | .tru _, _, _, _, _, _, _, h, _, _ => (Bool.false_ne_true h).elim
  | .val _, _, _, _, _, _, _, h, _, _ => (Bool.false_ne_true h).elim
  | .range1 _, _, _, _, _, _, _, h, _, _ => (Bool.false_ne_true h).elim
  | .range2 _ _, _, _, _, _, _, _, h, _, _ => (Bool.false_ne_true h).elim
  | .range3 _ _ _, _, _, _, _, _, _, h, _, _ => (Bool.false_ne_true h).elim
  | .enum _, _, _, _, _, _, _, h, _, _ => (Bool.false_ne_true h).elim
  | .zip _ _, _, _, _, _, _, _, h, _, _ => (Bool.false_ne_true h).elim
  | .ditems _, _, _, _, _, _, _, h, _, _ => (Bool.false_ne_true h).elim
theorem sTs : ∀ (e : CE) {X : Cx} {sc : Scope} {fb : Str → Bool} {Wx : WX}, CG X T C N hot sc fb Wx → ∀ {l : List Expr}, mTs T N hot e sc fb l = true → PTs X l (cT (wd X T) Wx (wpTs C T e))
  | .nil, X, sc, fb, Wx, G, l, h => by
    simp only [mTs, List.isEmpty_iff] at h
    subst h
    exact ⟨fun pins s σ H Q I ⟨env, h, re, rh, q⟩ => pts_nil.run pins s σ H Q I (q H TLe.refl rh)⟩
  | .cons e es, X, sc, fb, Wx, G, l, h => by
    simp only [mTs] at h; split at h
    · have p := pts_one (sT e G h)
      exact p
    · cases h
  | .non, _, _, _, _, _, _, h => (Bool.false_ne_true h).elim
  | .bl _, _, _, _, _, _, _, h => (Bool.false_ne_true h).elim
  | .int _, _, _, _, _, _, _, h => (Bool.false_ne_true h).elim
  | .str _, _, _, _, _, _, _, h => (Bool.false_ne_true h).elim
  | .var _, _, _, _, _, _, _, h => (Bool.false_ne_true h).elim
  | .glob _, _, _, _, _, _, _, h => (Bool.false_ne_true h).elim
  | .tup _, _, _, _, _, _, _, h => (Bool.false_ne_true h).elim
  | .lst _, _, _, _, _, _, _, h => (Bool.false_ne_true h).elim
  | .dct0, _, _, _, _, _, _, h => (Bool.false_ne_true h).elim
  | .bin _ _ _, _, _, _, _, _, _, h => (Bool.false_ne_true h).elim
  | .neg _, _, _, _, _, _, _, h => (Bool.false_ne_true h).elim
  | .not _, _, _, _, _, _, _, h => (Bool.false_ne_true h).elim
  | .cmp _ _ _, _, _, _, _, _, _, h => (Bool.false_ne_true h).elim
  | .chain _ _ _ _ _, _, _, _, _, _, _, h => (Bool.false_ne_true h).elim
  | .and _, _, _, _, _, _, _, h => (Bool.false_ne_true h).elim
  | .or _, _, _, _, _, _, _, h => (Bool.false_ne_true h).elim
  | .ifx _ _ _, _, _, _, _, _, _, h => (Bool.false_ne_true h).elim
  | .call _ _, _, _, _, _, _, _, h => (Bool.false_ne_true h).elim
  | .blt _ _, _, _, _, _, _, _, h => (Bool.false_ne_true h).elim
  | .isin _ _, _, _, _, _, _, _, h => (Bool.false_ne_true h).elim
  | .idx _ _, _, _, _, _, _, _, h => (Bool.false_ne_true h).elim
  | .slc _ _ _, _, _, _, _, _, _, h => (Bool.false_ne_true h).elim
  | .rev _, _, _, _, _, _, _, h => (Bool.false_ne_true h).elim
  | .mth _ _ _, _, _, _, _, _, _, h => (Bool.false_ne_true h).elim
  | .attr _ _, _, _, _, _, _, _, h => (Bool.false_ne_true h).elim
  | .umth _ _ _, _, _, _, _, _, _, h => (Bool.false_ne_true h).elim
  | .new _ _, _, _, _, _, _, _, h => (Bool.false_ne_true h).elim
  | .inD _ _ _, _, _, _, _, _, _, h => (Bool.false_ne_true h).elim
  | .ixD _ _, _, _, _, _, _, _, h => (Bool.false_ne_true h).elim
  | .comp _ _ _ _ _, _, _, _, _, _, _, h => (Bool.false_ne_true h).elim
  | .tru _, _, _, _, _, _, _, h => (Bool.false_ne_true h).elim
  | .val _, _, _, _, _, _, _, h => (Bool.false_ne_true h).elim
  | .range1 _, _, _, _, _, _, _, h => (Bool.false_ne_true h).elim
  | .range2 _ _, _, _, _, _, _, _, h => (Bool.false_ne_true h).elim
  | .range3 _ _ _, _, _, _, _, _, _, h => (Bool.false_ne_true h).elim
  | .enum _, _, _, _, _, _, _, h => (Bool.false_ne_true h).elim
  | .zip _ _, _, _, _, _, _, _, h => (Bool.false_ne_true h).elim
  | .ditems _, _, _, _, _, _, _, h => (Bool.false_ne_true h).elim
theorem sI : ∀ (e : CE) {X : Cx} {sc : Scope} {fb : Str → Bool} {Wx : WX}, CG X T C N hot sc fb Wx → ∀ {tg ex : Expr}, mI T N hot e sc fb tg ex = true → PI X tg ex (cI (wd X T) Wx (wpI C T e))
  | .range1 a, X, sc, fb, Wx, G, tg, ex, h => by
    simp only [mI] at h; split at h
    · simp only [Bool.and_eq_true, decide_eq_true_eq] at h
      obtain ⟨⟨⟨⟨rfl, h1⟩, h2⟩, h3⟩, h4⟩ := h
      exact i_range1 G.mono (gl_ok G h1) (G.free _ h2) (sE a G h4) h3
    · cases h
  | .range2 a b, X, sc, fb, Wx, G, tg, ex, h => by
    simp only [mI] at h; split at h
    · simp only [Bool.and_eq_true, decide_eq_true_eq] at h
      obtain ⟨⟨⟨⟨⟨⟨rfl, h1⟩, h2⟩, h3⟩, h4⟩, h5⟩, h6⟩ := h
      exact i_range2 G.mono (gl_ok G h1) (G.free _ h2) (sE a G h5) (sE b G h6) h3 h4
    · cases h
  | .enum a, X, sc, fb, Wx, G, tg, ex, h => by
    simp only [mI] at h; split at h
    · simp only [Bool.and_eq_true, decide_eq_true_eq] at h
      obtain ⟨⟨⟨⟨⟨h0, rfl⟩, h1⟩, h2⟩, h3⟩, h4⟩ := h
      unfold isTup at h0
      split at h0
      · exact i_enum G.mono (gl_ok G h1) (G.free _ h2) (sE a G h4) h3
      · cases h0
    · cases h
  | .zip a b, X, sc, fb, Wx, G, tg, ex, h => by
    simp only [mI] at h; split at h
    · simp only [Bool.and_eq_true, decide_eq_true_eq] at h
      obtain ⟨⟨⟨⟨⟨⟨⟨h0, rfl⟩, h1⟩, h2⟩, h3⟩, h4⟩, h5⟩, h6⟩ := h
      unfold isTup at h0
      split at h0
      · exact i_zip G.mono (gl_ok G h1) (G.free _ h2) (sE a G h5) (sE b G h6) h3 h4
      · cases h0
    · cases h
  | .val a, X, sc, fb, Wx, G, tg, ex, h => by
    simp only [mI] at h
    exact i_val G.mono (sE a G h)
  | .non, _, _, _, _, _, _, _, h => (Bool.false_ne_true h).elim
  | .bl _, _, _, _, _, _, _, _, h => (Bool.false_ne_true h).elim
  | .int _, _, _, _, _, _, _, _, h => (Bool.false_ne_true h).elim
  | .str _, _, _, _, _, _, _, _, h => (Bool.false_ne_true h).elim
  | .var _, _, _, _, _, _, _, _, h => (Bool.false_ne_true h).elim
  | .glob _, _, _, _, _, _, _, _, h => (Bool.false_ne_true h).elim
  | .nil, _, _, _, _, _, _, _, h => (Bool.false_ne_true h).elim
  | .cons _ _, _, _, _, _, _, _, _, h => (Bool.false_ne_true h).elim
  | .tup _, _, _, _, _, _, _, _, h => (Bool.false_ne_true h).elim
  | .lst _, _, _, _, _, _, _, _, h => (Bool.false_ne_true h).elim
  | .dct0, _, _, _, _, _, _, _, h => (Bool.false_ne_true h).elim
  | .bin _ _ _, _, _, _, _, _, _, _, h => (Bool.false_ne_true h).elim
  | .neg _, _, _, _, _, _, _, _, h => (Bool.false_ne_true h).elim
  | .not _, _, _, _, _, _, _, _, h => (Bool.false_ne_true h).elim
  | .cmp _ _ _, _, _, _, _, _, _, _, h => (Bool.false_ne_true h).elim
  | .chain _ _ _ _ _, _, _, _, _, _, _, _, h => (Bool.false_ne_true h).elim
  | .and _, _, _, _, _, _, _, _, h => (Bool.false_ne_true h).elim
  | .or _, _, _, _, _, _, _, _, h => (Bool.false_ne_true h).elim
  | .ifx _ _ _, _, _, _, _, _, _, _, h => (Bool.false_ne_true h).elim
  | .call _ _, _, _, _, _, _, _, _, h => (Bool.false_ne_true h).elim
  | .blt _ _, _, _, _, _, _, _, _, h => (Bool.false_ne_true h).elim
  | .isin _ _, _, _, _, _, _, _, _, h => (Bool.false_ne_true h).elim
  | .idx _ _, _, _, _, _, _, _, _, h => (Bool.false_ne_true h).elim
  | .slc _ _ _, _, _, _, _, _, _, _, h => (Bool.false_ne_true h).elim
  | .rev _, _, _, _, _, _, _, _, h => (Bool.false_ne_true h).elim
  | .mth _ _ _, _, _, _, _, _, _, _, h => (Bool.false_ne_true h).elim
  | .attr _ _, _, _, _, _, _, _, _, h => (Bool.false_ne_true h).elim
  | .umth _ _ _, _, _, _, _, _, _, _, h => (Bool.false_ne_true h).elim
  | .new _ _, _, _, _, _, _, _, _, h => (Bool.false_ne_true h).elim
  | .inD _ _ _, _, _, _, _, _, _, _, h => (Bool.false_ne_true h).elim
  | .ixD _ _, _, _, _, _, _, _, _, h => (Bool.false_ne_true h).elim
  | .comp _ _ _ _ _, _, _, _, _, _, _, _, h => (Bool.false_ne_true h).elim
  | .tru _, _, _, _, _, _, _, _, h => (Bool.false_ne_true h).elim
  | .range3 _ _ _, _, _, _, _, _, _, _, h => (Bool.false_ne_true h).elim
  | .ditems _, _, _, _, _, _, _, _, h => (Bool.false_ne_true h).elim
theorem sG (own : Option (List Nat)) : ∀ (e : CE) {X : Cx} {sc : Scope} {fb : Str → Bool} {Wx : WX}, CG X T C N hot sc fb Wx → ∀ {ex : Expr}, mG T N hot own e sc fb ex = true → PG X ex (cGt (wd X T) own (wpG C T e))
  | .var i, X, sc, fb, Wx, G, ex, h => by
    simp only [mG] at h; split at h
    · simp only [Bool.and_eq_true, decide_eq_true_eq] at h
      obtain ⟨⟨h1, h2⟩, h3⟩ := h
      have l := loc_ok h2
      refine g_var (by rw [G.hN]; exact G.nd) (by rw [G.hN]; exact h1) (by rw [G.hsc]; exact l.1) (by rw [G.hsc, G.hfb]; exact l.2) fun vs e => ?_
      subst e
      simpa using h3
    · cases h
  | .tup gs, X, sc, fb, Wx, G, ex, h => by
    simp only [mG] at h; split at h
    · simp only [Bool.and_eq_true] at h
      exact g_tup G.mono (G.calm (by simpa using h.1.1)) (sGs own gs G h.2) h.1.2 (mGs_len h.2)
    · cases h
  | .idx o i, X, sc, fb, Wx, G, ex, h => by
    simp only [mG] at h; split at h
    · simp only [Bool.and_eq_true, Option.isNone_iff_eq_none] at h
      obtain ⟨⟨⟨rfl, h2⟩, h3⟩, h4⟩ := h
      exact g_idx G.mono G.hu (sE o G.quiet h3) (sE i G.quiet h4) h2
    · cases h
  | .non, _, _, _, _, _, _, h => (Bool.false_ne_true h).elim
  | .bl _, _, _, _, _, _, _, h => (Bool.false_ne_true h).elim
  | .int _, _, _, _, _, _, _, h => (Bool.false_ne_true h).elim
  | .str _, _, _, _, _, _, _, h => (Bool.false_ne_true h).elim
  | .glob _, _, _, _, _, _, _, h => (Bool.false_ne_true h).elim
  | .nil, _, _, _, _, _, _, h => (Bool.false_ne_true h).elim
  | .cons _ _, _, _, _, _, _, _, h => (Bool.false_ne_true h).elim
  | .lst _, _, _, _, _, _, _, h => (Bool.false_ne_true h).elim
  | .dct0, _, _, _, _, _, _, h => (Bool.false_ne_true h).elim
  | .bin _ _ _, _, _, _, _, _, _, h => (Bool.false_ne_true h).elim
  | .neg _, _, _, _, _, _, _, h => (Bool.false_ne_true h).elim
  | .not _, _, _, _, _, _, _, h => (Bool.false_ne_true h).elim
  | .cmp _ _ _, _, _, _, _, _, _, h => (Bool.false_ne_true h).elim
  | .chain _ _ _ _ _, _, _, _, _, _, _, h => (Bool.false_ne_true h).elim
  | .and _, _, _, _, _, _, _, h => (Bool.false_ne_true h).elim
  | .or _, _, _, _, _, _, _, h => (Bool.false_ne_true h).elim
  | .ifx _ _ _, _, _, _, _, _, _, h => (Bool.false_ne_true h).elim
  | .call _ _, _, _, _, _, _, _, h => (Bool.false_ne_true h).elim
  | .blt _ _, _, _, _, _, _, _, h => (Bool.false_ne_true h).elim
  | .isin _ _, _, _, _, _, _, _, h => (Bool.false_ne_true h).elim
  | .slc _ _ _, _, _, _, _, _, _, h => (Bool.false_ne_true h).elim
  | .rev _, _, _, _, _, _, _, h => (Bool.false_ne_true h).elim
  | .mth _ _ _, _, _, _, _, _, _, h => (Bool.false_ne_true h).elim
  | .attr _ _, _, _, _, _, _, _, h => (Bool.false_ne_true h).elim
  | .umth _ _ _, _, _, _, _, _, _, h => (Bool.false_ne_true h).elim
  | .new _ _, _, _, _, _, _, _, h => (Bool.false_ne_true h).elim
  | .inD _ _ _, _, _, _, _, _, _, h => (Bool.false_ne_true h).elim
  | .ixD _ _, _, _, _, _, _, _, h => (Bool.false_ne_true h).elim
  | .comp _ _ _ _ _, _, _, _, _, _, _, h => (Bool.false_ne_true h).elim
  | .tru _, _, _, _, _, _, _, h => (Bool.false_ne_true h).elim
  | .val _, _, _, _, _, _, _, h => (Bool.false_ne_true h).elim
  | .range1 _, _, _, _, _, _, _, h => (Bool.false_ne_true h).elim
  | .range2 _ _, _, _, _, _, _, _, h => (Bool.false_ne_true h).elim
  | .range3 _ _ _, _, _, _, _, _, _, h => (Bool.false_ne_true h).elim
  | .enum _, _, _, _, _, _, _, h => (Bool.false_ne_true h).elim
  | .zip _ _, _, _, _, _, _, _, h => (Bool.false_ne_true h).elim
  | .ditems _, _, _, _, _, _, _, h => (Bool.false_ne_true h).elim
theorem sGs (own : Option (List Nat)) : ∀ (e : CE) {X : Cx} {sc : Scope} {fb : Str → Bool} {Wx : WX}, CG X T C N hot sc fb Wx → ∀ {l : List Expr}, mGs T N hot own e sc fb l = true → PGs X l (cGts (wd X T) own (wpGs C T e))
  | .nil, X, sc, fb, Wx, G, l, h => by
    simp only [mGs, List.isEmpty_iff] at h
    subst h; exact gs_nil
  | .cons e es, X, sc, fb, Wx, G, l, h => by
    simp only [mGs] at h; split at h
    · rename_i x xs
      simp only [Bool.and_eq_true] at h
      exact gs_cons G.mono (sG own e G h.1.2) (sGs own es G h.2) h.1.1
    · cases h
  | .non, _, _, _, _, _, _, h => (Bool.false_ne_true h).elim
  | .bl _, _, _, _, _, _, _, h => (Bool.false_ne_true h).elim
  | .int _, _, _, _, _, _, _, h => (Bool.false_ne_true h).elim
  | .str _, _, _, _, _, _, _, h => (Bool.false_ne_true h).elim
  | .var _, _, _, _, _, _, _, h => (Bool.false_ne_true h).elim
  | .glob _, _, _, _, _, _, _, h => (Bool.false_ne_true h).elim
  | .tup _, _, _, _, _, _, _, h => (Bool.false_ne_true h).elim
  | .lst _, _, _, _, _, _, _, h => (Bool.false_ne_true h).elim
  | .dct0, _, _, _, _, _, _, h => (Bool.false_ne_true h).elim
  | .bin _ _ _, _, _, _, _, _, _, h => (Bool.false_ne_true h).elim
  | .neg _, _, _, _, _, _, _, h => (Bool.false_ne_true h).elim
  | .not _, _, _, _, _, _, _, h => (Bool.false_ne_true h).elim
  | .cmp _ _ _, _, _, _, _, _, _, h => (Bool.false_ne_true h).elim
  | .chain _ _ _ _ _, _, _, _, _, _, _, h => (Bool.false_ne_true h).elim
  | .and _, _, _, _, _, _, _, h => (Bool.false_ne_true h).elim
  | .or _, _, _, _, _, _, _, h => (Bool.false_ne_true h).elim
  | .ifx _ _ _, _, _, _, _, _, _, h => (Bool.false_ne_true h).elim
  | .call _ _, _, _, _, _, _, _, h => (Bool.false_ne_true h).elim
  | .blt _ _, _, _, _, _, _, _, h => (Bool.false_ne_true h).elim
  | .isin _ _, _, _, _, _, _, _, h => (Bool.false_ne_true h).elim
  | .idx _ _, _, _, _, _, _, _, h => (Bool.false_ne_true h).elim
  | .slc _ _ _, _, _, _, _, _, _, h => (Bool.false_ne_true h).elim
  | .rev _, _, _, _, _, _, _, h => (Bool.false_ne_true h).elim
  | .mth _ _ _, _, _, _, _, _, _, h => (Bool.false_ne_true h).elim
  | .attr _ _, _, _, _, _, _, _, h => (Bool.false_ne_true h).elim
  | .umth _ _ _, _, _, _, _, _, _, h => (Bool.false_ne_true h).elim
  | .new _ _, _, _, _, _, _, _, h => (Bool.false_ne_true h).elim
  | .inD _ _ _, _, _, _, _, _, _, h => (Bool.false_ne_true h).elim
  | .ixD _ _, _, _, _, _, _, _, h => (Bool.false_ne_true h).elim
  | .comp _ _ _ _ _, _, _, _, _, _, _, h => (Bool.false_ne_true h).elim
  | .tru _, _, _, _, _, _, _, h => (Bool.false_ne_true h).elim
  | .val _, _, _, _, _, _, _, h => (Bool.false_ne_true h).elim
  | .range1 _, _, _, _, _, _, _, h => (Bool.false_ne_true h).elim
  | .range2 _ _, _, _, _, _, _, _, h => (Bool.false_ne_true h).elim
  | .range3 _ _ _, _, _, _, _, _, _, h => (Bool.false_ne_true h).elim
  | .enum _, _, _, _, _, _, _, h => (Bool.false_ne_true h).elim
  | .zip _ _, _, _, _, _, _, _, h => (Bool.false_ne_true h).elim
  | .ditems _, _, _, _, _, _, _, h => (Bool.false_ne_true h).elim
end
end
end PL

namespace PL
open PySem PySem.Spec PyProof.Rows L2

def lcB (sc : Scope) (x : Str) : Bool := match sc.names.lookup x with | some .local => true | _ => false
theorem lc_ok' {sc : Scope} {x : Str} (h : lcB sc x = true) : sc.names.lookup x = some .local := by
  unfold lcB at h
  split at h
  · assumption
  · cases h
def notName : Expr → Bool | .Name .. => false | _ => true
def swL (sc : Scope) : Expr → Expr → Bool
  | .Name y py, .ListComp _ _ scope pos => !(lcB sc y) || !(py.line == pos.line) || (scope.names.any fun (n, k) => n == y && (k == .local || k == .cell))
  | _, _ => false
def swB (sc : Scope) (tg ev : Expr) : Bool := nolc ev || notName tg || swL sc tg ev
def swpF (sc : Scope) (tg ev : Expr) : Option (Option (List Str)) :=
  match tg, ev with
  | .Tuple ts _ _, .Tuple vs _ _ =>
    if (!(ts.length == 2 || ts.length == 3) || vs.length != ts.length) = true then some none
    else if (vs.any fun | .Starred .. => true | _ => false) = true then some none
    else if ((ts.filterMap fun | .Name id pos => if sc.names.lookup id == some .local && pos.line == (ts.head?.map (·.pos.line)).getD 0 then some id else none | _ => none).length != ts.length ||
        (ts.filterMap fun | .Name id pos => if sc.names.lookup id == some .local && pos.line == (ts.head?.map (·.pos.line)).getD 0 then some id else none | _ => none).eraseDups.length !=
        (ts.filterMap fun | .Name id pos => if sc.names.lookup id == some .local && pos.line == (ts.head?.map (·.pos.line)).getD 0 then some id else none | _ => none).length) = true then some none
    else if (vs.all (foldedForSure 8)) = true then some none
    else if (vs.all (constantsAlone 8)) = true then none
    else some (some (ts.filterMap fun | .Name id pos => if sc.names.lookup id == some .local && pos.line == (ts.head?.map (·.pos.line)).getD 0 then some id else none | _ => none))
  | .List .., .Tuple .. => none
  | _, _ => some none
theorem swp_ok {sc : Scope} {tg ev : Expr} {env : Env} {r : Option (List Str)} (hs : env.scope = sc) (hk : sc.kind = .function) (h : swpF sc tg ev = some r) : swappedStores [tg] ev env = pure r := by
  have hb : env.blockKind = .function := by unfold Env.blockKind; rw [hs, hk]; rfl
  unfold swpF at h
  split at h
  · rename_i ts k1 p1 vs k2 p2
    unfold swappedStores
    have kd : ∀ id, env.kindOf id = sc.names.lookup id := fun id => by rw [← hs]; rfl
    simp only [kd, hb]
    split at h
    · rename_i e; cases h
      rw [if_pos (by simp only [Bool.or_eq_true] at e ⊢; exact .inl e)]
    · rename_i e
      rw [if_neg (by simp only [Bool.or_eq_true] at e ⊢; rintro (z | z); exact e z; exact absurd z (by decide))]
      split at h
      · rename_i e2; cases h
        exact Eq.trans (if_pos (by exact e2)) rfl
      · rename_i e2
        refine Eq.trans (if_neg (by exact e2)) ?_
        split at h
        · rename_i e3; cases h
          exact Eq.trans (if_pos (by exact e3)) rfl
        · rename_i e3
          refine Eq.trans (if_neg (by exact e3)) ?_
          split at h
          · rename_i e4; cases h
            exact Eq.trans (if_pos (by exact e4)) rfl
          · rename_i e4
            refine Eq.trans (if_neg (by exact e4)) ?_
            split at h
            · cases h
            · rename_i e5; cases h
              refine Eq.trans (if_neg (by exact e5)) ?_
              rfl
  · cases h
  · rename_i n1 n2
    cases h
    unfold swappedStores
    split
    · rename_i z
      split at z
      · rename_i e1; cases e1; exact (n1 _ _ _ _ _ _ rfl rfl).elim
      · rename_i e1; cases e1; exact (n2 _ _ _ _ _ rfl rfl).elim
      · cases z
    · rfl
theorem lc_not {sc : Scope} {x : Str} (h : lcB sc x = false) : (sc.names.lookup x == some .local) = false := by
  unfold lcB at h
  split at h
  · cases h
  · rename_i n
    cases e : sc.names.lookup x with
    | none => rfl
    | some k => cases k <;> first | rfl | exact absurd e n
theorem sw_plain {sc : Scope} {tg ev : Expr} {l : Nat} {env : Env} (hs : env.scope = sc) (h : swB sc tg ev = true) : swapsWithSole [tg] ev l env = pure false := by
  unfold swB at h
  rw [Bool.or_eq_true, Bool.or_eq_true] at h
  show swapsWith ev (some tg) l env = pure false
  rcases h with (h | h) | h
  · cases ev <;> first | rfl | cases h
  · cases ev <;> first | rfl | (cases tg <;> first | rfl | cases h)
  · unfold swL at h
    split at h
    · rename_i y py e gs scope pos
      have ky : env.kindOf y = sc.names.lookup y := by rw [← hs]; rfl
      unfold swapsWith
      simp only [ky, Expr.pos]
      simp only [Bool.or_eq_true, Bool.not_eq_true'] at h
      rcases h with (h | h) | h
      · simp [lc_not h]
      · simp [h]
      · rw [h]; simp
    · cases h
theorem swe_plain {ev : Expr} {l : Nat} {env : Env} (h : nolc ev = true) : swapsWith ev none l env = pure false := by
  cases ev <;> first | rfl | cases h

mutual
def mS (T : Tb) (N : List Str) (hot : Bool) : CS → Scope → (Str → Bool) → Stmt → Bool
  | .asg g e, sc, fb, s => match s with | .Assign [tg] ev _ => nost tg && swB sc tg ev && decide (swpF sc tg ev = some none) && mE T N hot e sc fb ev && mG T N hot none g sc fb tg | _ => false
  | .slc i e, sc, fb, s => match s with
    | .Assign [.Name y py] (.ListComp elt [⟨tg, itr, cs, 0⟩] scope pos) _ => decide (N[i]? = some y) && lcB sc y && (py.line == pos.line) && !(scope.names.any fun (n, k) => n == y && (k == .local || k == .cell)) && mE T N hot e sc fb (.ListComp elt [⟨tg, itr, cs, 0⟩] scope pos)
    | _ => false
  | .par i j a b, sc, fb, s => match s with
    | .Assign [.Tuple [.Name x px, .Name y py] kt pt] (.Tuple [ea, eb] k2 pt2) _ => !hot && decide (N[i]? = some x) && decide (N[j]? = some y) && decide (i ≠ j) && lcB sc x && lcB sc y && nost ea && nost eb && decide (swpF sc (.Tuple [.Name x px, .Name y py] kt pt) (.Tuple [ea, eb] k2 pt2) = some (some [x, y])) && mE T N hot a sc fb ea && mE T N hot b sc fb eb
    | _ => false
  | .par3 i j k a b c, sc, fb, s => match s with
    | .Assign [.Tuple [.Name x px, .Name y py, .Name z pz] kt pt] (.Tuple [ea, eb, ec] k2 pt2) _ => !hot && decide (N[i]? = some x) && decide (N[j]? = some y) && decide (N[k]? = some z) && decide (i ≠ j) && decide (i ≠ k) && decide (j ≠ k) && lcB sc x && lcB sc y && lcB sc z && nost ea && nost eb && nost ec && decide (swpF sc (.Tuple [.Name x px, .Name y py, .Name z pz] kt pt) (.Tuple [ea, eb, ec] k2 pt2) = some (some [x, y, z])) && mE T N hot a sc fb ea && mE T N hot b sc fb eb && mE T N hot c sc fb ec
    | _ => false
  | .aug i op e, sc, fb, s => match s with | .AugAssign (.Name x _) o ev _ => decide (o = bopPy op) && (decide (op = .add) || decide (op = .sub)) && decide (N[i]? = some x) && locB sc fb x && mE T N hot e sc fb ev | _ => false
  | .expr e, sc, fb, s => match s with | .Expr ev _ => nolc ev && mE T N hot e sc fb ev | _ => false
  | .ret e, sc, fb, s => match s with | .Return (some ev) _ => mE T N hot e sc fb ev | _ => false
  | .retN, _, _, s => match s with | .Return none _ => true | _ => false
  | .iff c t f, sc, fb, s => match s with | .If ec st sf _ => mT T N hot c sc fb ec && mB T N hot t sc fb st && mB T N hot f sc fb sf | _ => false
  | .whl c b, sc, fb, s => match s with | .While ec sb [] _ => !hot && mT T N hot c sc fb ec && mB T N hot b sc fb sb | _ => false
  | .forr g it b, sc, fb, s => match s with | .For tg ei sb [] _ => !hot && noset ei && mI T N hot it sc fb tg ei && mG T N hot none g sc fb tg && mB T N hot b sc fb sb | _ => false
  | .raise c es, sc, _, s => match s with | .Raise (some (.Call (.Name x _) [] [] _)) none _ => !hot && decide (T.cn c = some x) && glB sc x && nmOk x && (match es with | .nil => true | _ => false) | _ => false
  | .tri b hs, sc, fb, s => match s with | .Try sb (h₀ :: hds) [] [] _ => !hot && mB T N hot b sc fb sb && mH T N hs sc fb (h₀ :: hds) | _ => false
  | .sat o f e, sc, fb, s => match s with | .Assign [.Attribute x y p] ev _ => swB sc (.Attribute x y p) ev && decide (T.fl f = some y) && mE T N hot o sc fb x && mE T N hot e sc fb ev | _ => false
  | .pass, _, _, s => match s with | .Pass _ => true | _ => false
  | .brk, _, _, s => match s with | .Break _ => true | _ => false
  | .cont, _, _, s => match s with | .Continue _ => true | _ => false
  | _, _, _, _ => false
def mB (T : Tb) (N : List Str) (hot : Bool) : CS → Scope → (Str → Bool) → List Stmt → Bool
  | .nil, _, _, l => l.isEmpty
  | .cons s r, sc, fb, l => match l with | x :: xs => mS T N hot s sc fb x && mB T N hot r sc fb xs | [] => false
  | _, _, _, _ => false
def mH (T : Tb) (N : List Str) : CS → Scope → (Str → Bool) → List ExceptHandler → Bool
  | .hnil, _, _, l => l.isEmpty
  | .hcons c b r, sc, fb, l => match l with | .ExceptHandler (some (.Name x _)) none (b₀ :: suite) _ :: hds => decide (T.cn c = some x) && glB sc x && nmOk x && mB T N true b sc fb (b₀ :: suite) && mH T N r sc fb hds | _ => false
  | _, _, _, _ => false
end

structure SG (X : Cx) (T : Tb) (C : ACall) (N : List Str) (sub : Nat → Nat → Bool) (hot : Bool) (sc : Scope) (fb : Str → Bool) (Wx : WX) : Prop extends CG X T C N hot sc fb Wx where
  stk : X.stack = X.env :: X.outer
  fr : X.env.frame = some X.env.locals
  kind : sc.kind = .function
  own : hot = false → PassesOwn (model X.prog X.w) X.A X.env X.xe
  exc : ∀ c x, T.cn c = some x → ExcF X T c x
  sub : ∀ c d x y, T.cn c = some x → T.cn d = some y → PySem.W.exmOne X.K (.ref (clsAddr (wd X T) c)) (.ref (clsAddr (wd X T) d)) = some (sub c d)
section
variable {T : Tb} {C : ACall} {N : List Str} {sub : Nat → Nat → Bool}
theorem SG.tr {X : Cx} {sc : Scope} {fb : Str → Bool} {Wx : WX} {hot : Bool} (G : SG X T C N sub hot sc fb Wx) {W' : WX} {pn : List (Addr × Obj)} {xe : Value → Shared → Prop} (tk : Takes (X.tr pn xe) W') (p : PassesOwn (model X.prog X.w) X.A X.env xe) : SG (X.tr pn xe) T C N sub hot sc fb W' :=
  { mono := G.mono, hN := G.hN, nd := G.nd, hsc := G.hsc, hfb := G.hfb, hu := G.hu, calm := G.calm, fns := G.fns, gvs := G.gvs, free := G.free, tk := tk, nmk := G.nmk, kf := fun c h => ⟨(G.kf c h).cls, (G.kf c h).noat⟩, kc := fun hh c x h => ⟨(G.kc hh c x h).mg, (G.kc hh c x h).ini, (G.kc hh c x h).mth⟩, dts := fun g x kvs h => ⟨(G.dts g x kvs h).ex⟩, stk := G.stk, fr := G.fr, kind := G.kind, own := fun _ => p,
    exc := fun c x h => let e := G.exc c x h; ⟨e.mg, e.ex, e.kp, e.su, e.ty⟩, sub := G.sub }
theorem SG.suite {X : Cx} {sc : Scope} {fb : Str → Bool} {Wx : WX} {hot : Bool} (G : SG X T C N sub hot sc fb Wx) (a : Addr) (pn : List (Addr × Obj)) : SG (X.suite a pn) T C N sub true sc fb (fun _ _ _ _ => False) :=
  { mono := G.mono, hN := G.hN, nd := G.nd, hsc := G.hsc, hfb := G.hfb, hu := G.hu, calm := fun h => (nomatch h), fns := fun h => (nomatch h), gvs := G.gvs, free := G.free, tk := takes0, nmk := G.nmk, kf := fun c h => ⟨(G.kf c h).cls, (G.kf c h).noat⟩, kc := fun h => (nomatch h), dts := fun g x kvs h => ⟨(G.dts g x kvs h).ex⟩, stk := G.stk, fr := G.fr, kind := G.kind, own := fun h => (nomatch h),
    exc := fun c x h => let e := G.exc c x h; ⟨e.mg, e.ex, e.kp, e.su, e.ty⟩, sub := G.sub }
theorem mH_hok {sc : Scope} {fb : Str → Bool} : ∀ {hs : CS} {l : List ExceptHandler}, mH T N hs sc fb l = true → hOk T hs = true := by
  intro hs
  induction hs with
  | hnil => intros; rfl
  | hcons c b r _ ih =>
    intro l h
    simp only [mH] at h
    split at h
    · simp only [Bool.and_eq_true, decide_eq_true_eq] at h
      obtain ⟨⟨⟨⟨h1, h2⟩, h3⟩, h4⟩, h5⟩ := h
      show ((T.cn c).isSome && hOk T r) = true
      rw [h1, ih h5]; rfl
    · cases h
  | _ => intro l h; exact (Bool.false_ne_true h).elim

mutual
theorem sS : ∀ (e : CS) {X : Cx} {sc : Scope} {fb : Str → Bool} {Wx : WX} {hot : Bool}, SG X T C N sub hot sc fb Wx → ∀ {s : Stmt}, mS T N hot e sc fb s = true → PS X s (cS (wd X T) Wx (wpS C T sub e))
  | .asg g e, X, sc, fb, Wx, hot, G, s, h => by
    simp only [mS] at h; split at h
    · simp only [Bool.and_eq_true, decide_eq_true_eq] at h
      obtain ⟨⟨⟨⟨h1, h2⟩, h3⟩, h4⟩, h5⟩ := h
      exact st_asg (line := 0) G.mono (sE e G.toCG h4) (sG none g G.toCG h5) (sw_plain G.hsc h2) (swp_ok G.hsc G.kind h3) h1
    · cases h
  | .slc i e, X, sc, fb, Wx, hot, G, s, h => by
    simp only [mS] at h; split at h
    · simp only [Bool.and_eq_true, decide_eq_true_eq] at h
      rename_i y _ _ _ _ _ _ _ _
      obtain ⟨⟨⟨⟨h1, h2⟩, h3⟩, h4⟩, h5⟩ := h
      cases e with
      | comp own g it ifs elt =>
        simp only [mE, Bool.and_eq_true] at h5
        obtain ⟨⟨⟨⟨⟨⟨h0, g1⟩, g2⟩, g3⟩, g4⟩, g5⟩, g6⟩ := h5
        have hb := blkOk_by g1
        have ho : (ownPairs N own).map (·.2) = own := by unfold ownPairs; rw [List.map_map]; exact List.map_id' own
        have hl : X.env.scope.names.lookup y = some .local := by rw [G.hsc]; exact lc_ok' h2
        refine (ps_setLc (wi := cI (wd X T) Wx (wpI C T it)) (g := cGt (wd X T) (some own) (wpG C T g)) (tt := cT (wd X T) (fun _ _ _ _ => False) (wpTs C T ifs)) (te := cE (wd X T) (fun _ _ _ _ => False) (wpE C T elt)) (G.calm (by simpa using h0)) (by rw [G.hN]; exact G.nd) (by rw [G.hN]; exact h1) hl (sw_true (by rw [G.hsc]; exact G.kind) hl h3 (by simpa using h4)) (sI it G.toCG g2) (by rw [G.hN, G.hsc]; exact hb)
          (fun s H C' cl fp => sG (some own) g (G.toCG.blk s H _ C' cl fp) g4) (fun s H C' cl fp => sTs ifs (G.toCG.blk s H _ C' cl fp) g5) (fun s H C' cl fp => sE elt (G.toCG.blk s H _ C' cl fp) g6) (noset_fold g3)).imp
          fun D σ H ⟨env, hh, re, rh, q⟩ => ?_
        rw [ho]
        have q2 : wpE C T (.comp own g it ifs elt) env hh (cQ (wd X T) H fun v H1 => gName i v σ H1 D.nx) (cX (wd X T) Wx σ H) := by
          have q : wpE C T (.comp own g it ifs elt) env hh (fun v h1 => (absD (wd X T) Wx H D).nx (env.set i (some v)) h1) (fun x h' => (absD (wd X T) Wx H D).ex x env h') := q
          refine wpE_mono G.mono _ (fun x h1 q v H1 t1 r1 rv => ?_) (absD.xle re) q
          exact q _ _ t1 ((re.mono t1).set i rv) r1
        exact lc_ok G.mono re rh q2
      | _ => exact (Bool.false_ne_true h5).elim
    · cases h
  | .par i j a b, X, sc, fb, Wx, hot, G, s, h => by
    simp only [mS] at h; split at h
    · simp only [Bool.and_eq_true, decide_eq_true_eq] at h
      obtain ⟨⟨⟨⟨⟨⟨⟨⟨⟨⟨h0, h1⟩, h2⟩, h3⟩, h4⟩, h5⟩, h6⟩, h7⟩, h8⟩, h9⟩, h10⟩ := h
      exact st_par G.mono (G.calm (by simpa using h0)) (by rw [G.hN]; exact G.nd) (by rw [G.hN]; exact h1) (by rw [G.hN]; exact h2) h3 (by rw [G.hsc]; exact lc_ok' h4) (by rw [G.hsc]; exact lc_ok' h5) (sE a G.toCG h9) (sE b G.toCG h10) h6 h7 (swp_ok G.hsc G.kind h8)
    · cases h
  | .par3 i j k a b c, X, sc, fb, Wx, hot, G, s, h => by
    simp only [mS] at h; split at h
    · simp only [Bool.and_eq_true, decide_eq_true_eq] at h
      obtain ⟨⟨⟨⟨⟨⟨⟨⟨⟨⟨⟨⟨⟨⟨⟨⟨h0, h1⟩, h2⟩, h3⟩, h4⟩, h5⟩, h6⟩, h7⟩, h8⟩, h9⟩, h10⟩, h11⟩, h12⟩, h13⟩, h14⟩, h15⟩, h16⟩ := h
      exact st_par3 G.mono (G.calm (by simpa using h0)) (by rw [G.hN]; exact G.nd) (by rw [G.hN]; exact h1) (by rw [G.hN]; exact h2) (by rw [G.hN]; exact h3) h4 h5 h6 (by rw [G.hsc]; exact lc_ok' h7) (by rw [G.hsc]; exact lc_ok' h8) (by rw [G.hsc]; exact lc_ok' h9)
        (sE a G.toCG h14) (sE b G.toCG h15) (sE c G.toCG h16) h10 h11 h12 (swp_ok G.hsc G.kind h13)
    · cases h
  | .aug i op e, X, sc, fb, Wx, hot, G, s, h => by
    simp only [mS] at h; split at h
    · simp only [Bool.and_eq_true, Bool.or_eq_true, decide_eq_true_eq] at h
      obtain ⟨⟨⟨⟨rfl, h2⟩, h3⟩, h4⟩, h5⟩ := h
      have l := loc_ok h4
      exact st_aug G.mono h2 (by rw [G.hN]; exact G.nd) (by rw [G.hN]; exact h3) (by rw [G.hsc]; exact l.1) (by rw [G.hsc, G.hfb]; exact l.2) (sE e G.toCG h5)
    · cases h
  | .expr e, X, sc, fb, Wx, hot, G, s, h => by
    simp only [mS] at h; split at h
    · simp only [Bool.and_eq_true] at h
      exact st_expr G.mono (sE e G.toCG h.2) (swe_plain h.1)
    · cases h
  | .ret e, X, sc, fb, Wx, hot, G, s, h => by
    simp only [mS] at h; split at h
    · exact st_ret G.mono (sE e G.toCG h)
    · cases h
  | .retN, X, sc, fb, Wx, hot, G, s, h => by
    simp only [mS] at h; split at h
    · exact st_retN
    · cases h
  | .iff c t f, X, sc, fb, Wx, hot, G, s, h => by
    simp only [mS] at h; split at h
    · simp only [Bool.and_eq_true] at h
      exact st_if G.mono (sT c G.toCG h.1.1) (sB t G h.1.2) (sB f G h.2)
    · cases h
  | .whl c b, X, sc, fb, Wx, hot, G, s, h => by
    simp only [mS] at h; split at h
    · simp only [Bool.and_eq_true] at h
      exact st_whl G.mono (G.own (by simpa using h.1.1)) (sT c G.toCG h.1.2) (sB b G h.2)
    · cases h
  | .forr g it b, X, sc, fb, Wx, hot, G, s, h => by
    simp only [mS] at h; split at h
    · simp only [Bool.and_eq_true] at h
      obtain ⟨⟨⟨⟨h1, h2⟩, h3⟩, h4⟩, h5⟩ := h
      exact st_for G.mono (G.own (by simpa using h1)) (G.calm (by simpa using h1)) (sI it G.toCG h3) (sG none g G.toCG h4) (sB b G h5) (noset_fold h2)
    · cases h
  | .raise c es, X, sc, fb, Wx, hot, G, s, h => by
    simp only [mS] at h; split at h
    · simp only [Bool.and_eq_true, decide_eq_true_eq] at h
      obtain ⟨⟨⟨⟨h1, h2⟩, h3⟩, h4⟩, h5⟩ := h
      cases es with
      | nil => exact st_raise0 (G.calm (by simpa using h1)) G.tk (G.exc _ _ h2) h2 (gl_ok G.toCG h3) (nm_ok h4).1
      | _ => exact (Bool.false_ne_true h5).elim
    · cases h
  | .tri b hs, X, sc, fb, Wx, hot, G, s, h => by
    simp only [mS] at h; split at h
    · simp only [Bool.and_eq_true] at h
      exact st_tri G.mono G.stk G.fr G.tk G.sub (mH_hok h.2) (fun W' pn xe tk p => sB b (G.tr tk p) h.1.2) (sH hs G h.2)
    · cases h
  | .sat o f e, X, sc, fb, Wx, hot, G, s, h => by
    simp only [mS] at h; split at h
    · simp only [Bool.and_eq_true, decide_eq_true_eq] at h
      obtain ⟨⟨⟨h1, h2⟩, h3⟩, h4⟩ := h
      exact st_sat G.mono G.nmk G.kf h2 (sE o G.toCG h3) (sE e G.toCG h4) (sw_plain (l := 0) G.hsc h1)
    · cases h
  | .pass, X, sc, fb, Wx, hot, G, s, h => by
    simp only [mS] at h; split at h
    · exact st_pass
    · cases h
  | .brk, X, sc, fb, Wx, hot, G, s, h => by
    simp only [mS] at h; split at h
    · exact st_brk
    · cases h
  | .cont, X, sc, fb, Wx, hot, G, s, h => by
    simp only [mS] at h; split at h
    · exact st_cont
    · cases h
  | .nil, _, _, _, _, _, _, _, h => (Bool.false_ne_true h).elim
  | .cons _ _, _, _, _, _, _, _, _, h => (Bool.false_ne_true h).elim
  | .hnil, _, _, _, _, _, _, _, h => (Bool.false_ne_true h).elim
  | .hcons _ _ _, _, _, _, _, _, _, _, h => (Bool.false_ne_true h).elim
theorem sB : ∀ (e : CS) {X : Cx} {sc : Scope} {fb : Str → Bool} {Wx : WX} {hot : Bool}, SG X T C N sub hot sc fb Wx → ∀ {l : List Stmt}, mB T N hot e sc fb l = true → PSs X l (cS (wd X T) Wx (wpB C T sub e))
  | .nil, X, sc, fb, Wx, hot, G, l, h => by
    simp only [mB, List.isEmpty_iff] at h
    subst h; exact b_nil
  | .cons s r, X, sc, fb, Wx, hot, G, l, h => by
    simp only [mB] at h; split at h
    · simp only [Bool.and_eq_true] at h
      exact b_cons G.mono (sS s G h.1) (sB r G h.2)
    · cases h
  | .asg _ _, _, _, _, _, _, _, _, h => (Bool.false_ne_true h).elim
  | .slc _ _, _, _, _, _, _, _, _, h => (Bool.false_ne_true h).elim
  | .par _ _ _ _, _, _, _, _, _, _, _, h => (Bool.false_ne_true h).elim
  | .par3 _ _ _ _ _ _, _, _, _, _, _, _, _, h => (Bool.false_ne_true h).elim
  | .aug _ _ _, _, _, _, _, _, _, _, h => (Bool.false_ne_true h).elim
  | .expr _, _, _, _, _, _, _, _, h => (Bool.false_ne_true h).elim
  | .ret _, _, _, _, _, _, _, _, h => (Bool.false_ne_true h).elim
  | .retN, _, _, _, _, _, _, _, h => (Bool.false_ne_true h).elim
  | .iff _ _ _, _, _, _, _, _, _, _, h => (Bool.false_ne_true h).elim
  | .whl _ _, _, _, _, _, _, _, _, h => (Bool.false_ne_true h).elim
  | .forr _ _ _, _, _, _, _, _, _, _, h => (Bool.false_ne_true h).elim
  | .raise _ _, _, _, _, _, _, _, _, h => (Bool.false_ne_true h).elim
  | .tri _ _, _, _, _, _, _, _, _, h => (Bool.false_ne_true h).elim
  | .hnil, _, _, _, _, _, _, _, h => (Bool.false_ne_true h).elim
  | .hcons _ _ _, _, _, _, _, _, _, _, h => (Bool.false_ne_true h).elim
  | .pass, _, _, _, _, _, _, _, h => (Bool.false_ne_true h).elim
  | .brk, _, _, _, _, _, _, _, h => (Bool.false_ne_true h).elim
  | .cont, _, _, _, _, _, _, _, h => (Bool.false_ne_true h).elim
  | .sat _ _ _, _, _, _, _, _, _, _, h => (Bool.false_ne_true h).elim
theorem sH : ∀ (e : CS) {X : Cx} {sc : Scope} {fb : Str → Bool} {Wx : WX} {hot : Bool}, SG X T C N sub hot sc fb Wx → ∀ {l : List ExceptHandler}, mH T N e sc fb l = true → HdsOk X l (hLst X T C sub e)
  | .hnil, X, sc, fb, Wx, hot, G, l, h => by
    simp only [mH, List.isEmpty_iff] at h
    subst h; exact .nil
  | .hcons c b r, X, sc, fb, Wx, hot, G, l, h => by
    simp only [mH] at h; split at h
    · simp only [Bool.and_eq_true, decide_eq_true_eq] at h
      obtain ⟨⟨⟨⟨h1, h2⟩, h3⟩, h4⟩, h5⟩ := h
      exact .cons ⟨gl_ok G.toCG h2, (nm_ok h3).1, .inl (G.exc _ _ h1).mg⟩ (fun a oe cls d pn _ _ => sB b (G.suite a _) h4) (sH r G h5)
    · cases h
  | .asg _ _, _, _, _, _, _, _, _, h => (Bool.false_ne_true h).elim
  | .slc _ _, _, _, _, _, _, _, _, h => (Bool.false_ne_true h).elim
  | .par _ _ _ _, _, _, _, _, _, _, _, h => (Bool.false_ne_true h).elim
  | .par3 _ _ _ _ _ _, _, _, _, _, _, _, _, h => (Bool.false_ne_true h).elim
  | .aug _ _ _, _, _, _, _, _, _, _, h => (Bool.false_ne_true h).elim
  | .expr _, _, _, _, _, _, _, _, h => (Bool.false_ne_true h).elim
  | .ret _, _, _, _, _, _, _, _, h => (Bool.false_ne_true h).elim
  | .retN, _, _, _, _, _, _, _, h => (Bool.false_ne_true h).elim
  | .iff _ _ _, _, _, _, _, _, _, _, h => (Bool.false_ne_true h).elim
  | .whl _ _, _, _, _, _, _, _, _, h => (Bool.false_ne_true h).elim
  | .forr _ _ _, _, _, _, _, _, _, _, h => (Bool.false_ne_true h).elim
  | .raise _ _, _, _, _, _, _, _, _, h => (Bool.false_ne_true h).elim
  | .tri _ _, _, _, _, _, _, _, _, h => (Bool.false_ne_true h).elim
  | .pass, _, _, _, _, _, _, _, h => (Bool.false_ne_true h).elim
  | .brk, _, _, _, _, _, _, _, h => (Bool.false_ne_true h).elim
  | .cont, _, _, _, _, _, _, _, h => (Bool.false_ne_true h).elim
  | .sat _ _ _, _, _, _, _, _, _, _, h => (Bool.false_ne_true h).elim
  | .nil, _, _, _, _, _, _, _, h => (Bool.false_ne_true h).elim
  | .cons _ _, _, _, _, _, _, _, _, h => (Bool.false_ne_true h).elim
end
end
end PL

namespace PL
open PySem PySem.Spec PyProof.Rows L2

theorem room80 {k : Nat} {A : Around} (r : Room k A) : A.units + 80 < cLine := by have := r.un; omega
structure FDat where
  id : Nat
  x : Str
  N : List Str
  ps : List Str
  params : Arguments
  body : List Stmt
  scope : Scope
  code : CS
  cl : Option Str := none
def FDat.at_ (d : FDat) : Str × Option Str := match d.cl with | none => (d.x, none) | some c => (c, some d.x)
def FDat.q (d : FDat) : Str := match d.cl with | none => d.x | some c => c ++ "." ++ d.x
def FDat.dd (d : FDat) : He.DefD := ⟨d.at_, d.x, d.q, d.params, d.body, d.scope, [], []⟩
structure KDat where
  id : Nat
  x : Str
  ini : Option Nat
  ms : List (Nat × Nat)
structure Law where
  F : List FDat
  X : List (Nat × Str)
  free : List Str
  G : List (Nat × Str × AV)
  sub : Nat → Nat → Bool
  K : List KDat := []
  M : List (Nat × Str) := []
  A : List (Nat × Str) := []
  D : List (Nat × Str × List (Str × AV)) := []
def Law.T (L : Law) : Tb where
  nm f := (L.F.find? (·.id == f)).bind fun d => match d.cl with | none => some d.x | some _ => none
  mt m := L.M.lookup m
  cn c := L.X.lookup c
  fl f := L.A.lookup f
  gn g := (L.G.lookup g).map (·.1)
  gv g := (L.G.lookup g).map (·.2)
  free := L.free
  kc c := (L.K.find? (·.id == c)).map (·.x)
  ki c := (L.K.find? (·.id == c)).bind (·.ini)
  mf c m := (L.K.find? (·.id == c)).bind fun k => k.ms.lookup m
  dt g := L.D.lookup g
def Law.pg (L : Law) : Pg where
  T := L.T
  code f := (L.F.find? (·.id == f)).map fun d => ⟨d.ps.length, d.N.length, d.code⟩
  sub := L.sub
def Law.kok (L : Law) : Bool := decide (L.A.map (·.2)).Nodup && L.A.all (fun p => !(p.2 == "")) && L.M.all (fun p => !(p.2 == "") && L.A.all fun q => !(q.2 == p.2)) &&
  L.K.all fun k => (match k.ini with | none => true | some f => match L.F.find? (·.id == f) with | some d => decide (d.cl = some k.x) && decide (d.x = "__init__") | none => false) &&
    k.ms.all fun p => match L.F.find? (·.id == p.2) with | some d => decide (d.cl = some k.x) && decide (L.M.lookup p.1 = some d.x) | none => false
theorem lookup_mem' {α β : Type} [BEq α] [LawfulBEq α] {l : List (α × β)} {a : α} {b : β} (h : l.lookup a = some b) : (a, b) ∈ l := by
  induction l with
  | nil => cases h
  | cons p l ih =>
    obtain ⟨x, y⟩ := p
    rw [List.lookup_cons] at h
    cases e : a == x with
    | true =>
      rw [e] at h
      cases h
      rw [eq_of_beq e]
      exact List.mem_cons_self
    | false =>
      rw [e] at h
      exact List.mem_cons_of_mem _ (ih h)
theorem nodup_snd {l : List (Nat × Str)} (nd : (l.map (·.2)).Nodup) {f g : Nat} {y : Str} (h1 : (f, y) ∈ l) (h2 : (g, y) ∈ l) : g = f := by
  induction l with
  | nil => cases h1
  | cons p l ih =>
    rw [List.map_cons, List.nodup_cons] at nd
    rcases List.mem_cons.mp h1 with e1 | m1
    · rcases List.mem_cons.mp h2 with e2 | m2
      · rw [← e1] at e2; cases e2; rfl
      · exact absurd (List.mem_map.mpr ⟨(g, y), m2, by rw [← e1]⟩) nd.1
    · rcases List.mem_cons.mp h2 with e2 | m2
      · exact absurd (List.mem_map.mpr ⟨(f, y), m1, by rw [← e2]⟩) nd.1
      · exact ih nd.2 m1 m2
theorem kok_nm {L : Law} (h : L.kok = true) : NmOk L.T := by
  unfold Law.kok at h
  simp only [Bool.and_eq_true, decide_eq_true_eq, List.all_eq_true] at h
  obtain ⟨⟨⟨h1, h2⟩, h3⟩, _⟩ := h
  refine ⟨fun f g y hf hg => ?_, fun m y i hm hi => ?_⟩
  · have m1 := lookup_mem' (show L.A.lookup f = some y from hf)
    have ny : y ≠ "" := by simpa using h2 _ m1
    unfold fldName at hg
    cases e : L.T.fl g with
    | none => rw [e] at hg; exact absurd hg.symm ny
    | some z =>
      rw [e] at hg
      have hg : z = y := hg
      subst hg
      exact nodup_snd h1 m1 (lookup_mem' (show L.A.lookup g = some z from e))
  · have m1 := lookup_mem' (show L.M.lookup m = some y from hm)
    obtain ⟨n1, n2⟩ := h3 _ m1
    have ny : y ≠ "" := by simpa using n1
    unfold fldName at hi
    cases e : L.T.fl i with
    | none => rw [e] at hi; exact absurd hi.symm ny
    | some z =>
      rw [e] at hi
      have hi : z = y := hi
      subst hi
      have := n2 _ (lookup_mem' (show L.A.lookup i = some z from e))
      simp at this
def FDat.chk (T : Tb) (d : FDat) : Bool :=
  (match d.scope.kind with | .function => true | _ => false) && !d.scope.isCoroutine && !d.scope.isGenerator && decide d.N.Nodup && decide (d.N.take d.ps.length = d.ps) && d.ps.all (fun x => match d.scope.names.lookup x with | some .local => true | some .cell => true | _ => false) &&
    d.scope.names.all (fun y => match y.2 with | .free => false | _ => true) && mB T d.N false d.code d.scope (fun _ => true) d.body
theorem FDat.sc_ok {T : Tb} {d : FDat} (h : d.chk T = true) : FnScope d.N d.ps d.scope ∧ mB T d.N false d.code d.scope (fun _ => true) d.body = true := by
  unfold FDat.chk at h
  simp only [Bool.and_eq_true, decide_eq_true_eq, List.all_eq_true] at h
  obtain ⟨⟨⟨⟨⟨⟨⟨h1, h2⟩, h3⟩, h4⟩, h5⟩, h6⟩, h7⟩, h8⟩ := h
  refine ⟨⟨?_, by simpa using h2, by simpa using h3, h4, h5, fun x hx => ?_, fun y hy e => ?_⟩, h8⟩
  · split at h1
    · assumption
    · cases h1
  · have q := h6 x hx
    split at q <;> first | exact .inl (by assumption) | exact .inr (by assumption) | cases q
  · have q := h7 y hy
    rw [e] at q
    cases q

structure ExcW (W : Wd) (c : Nat) (x : Str) : Prop where
  mg : W.mg x = some (.ref (clsAddr W c))
  ex : PySem.W.excIn W.K (clsAddr W c) He.veBase "ValueError.__new__" = true
  kp : PySem.W.keepIn W.K (.ref (clsAddr W c)) = true
  su : PySem.W.subIn W.K (.ref (clsAddr W c)) (.type "BaseException") = some true
  ty : PySem.W.typeIn W.K (.ref (clsAddr W c)) = some (.type "type")
structure FunW (W : Wd) (d : FDat) (f : Addr) (fd : FuncData) : Prop where
  fn : FunD W.K d.x d.q d.params d.body d.scope [] [] f fd
  mg : d.cl = none → W.mg d.x = some (.ref f)
  bd : Binds W.K fd d.ps []
structure KlsW (W : Wd) (L : Law) (ad : FDat → Addr) (k : KDat) : Prop where
  mg : W.mg k.x = some (.ref (He.ga W.K k.x))
  cls : Cls W.K (He.ga W.K k.x)
  noat : ∀ f y, L.T.fl f = some y → NoAttr W.K (He.ga W.K k.x) y
  ini : ∀ f, k.ini = some f → Mk W.K (He.ga W.K k.x) (He.ma W.K (He.ga W.K k.x) "__init__")
  mth : ∀ m f y, (m, f) ∈ k.ms → L.T.mt m = some y → Meth W.K (He.ga W.K k.x) y (He.ma W.K (He.ga W.K k.x) y)
structure DtW (W : Wd) (x : Str) (kvs : List (Str × AV)) : Prop where
  ex : ∃ d es n, W.mg x = some (.ref d) ∧ KDict W.K W.w d es n ∧ (∀ z, kvs.lookup z = none → PySem.W.nsIn W.K d z = some none) ∧ ∀ z av, kvs.lookup z = some av → ∃ u v, PySem.W.nsIn W.K d z = some (some u) ∧ RelV v u ∧ ∀ H, Rep W.K H av v
structure Facts (W : Wd) (L : Law) (ad : FDat → Addr) (fd : FDat → FuncData) : Prop where
  T : W.T = L.T
  fn : ∀ d ∈ L.F, FunW W d (ad d) (fd d)
  exc : ∀ c x, L.T.cn c = some x → ExcW W c x
  sub : ∀ c d x y, L.T.cn c = some x → L.T.cn d = some y → PySem.W.exmOne W.K (.ref (clsAddr W c)) (.ref (clsAddr W d)) = some (L.sub c d)
  gvs : ∀ g x, L.T.gn g = some x → ∃ v u, W.mg x = some u ∧ RelV v u ∧ ∀ av, L.T.gv g = some av → ∀ H, Rep W.K H av v
  free : ∀ x, L.T.free.contains x = true → W.mg x = none
  nd : (L.F.map (·.id)).Nodup
  chk : ∀ d ∈ L.F, d.chk L.T = true
  kok : L.kok = true
  adr : ∀ d, ad d = He.fAd W.K d.at_
  kls : ∀ k ∈ L.K, KlsW W L ad k
  dts : ∀ g x kvs, L.T.dt g = some (x, kvs) → DtW W x kvs
theorem find_self {F : List FDat} (nd : (F.map (·.id)).Nodup) {d : FDat} (h : d ∈ F) : F.find? (·.id == d.id) = some d := by
  induction F with
  | nil => cases h
  | cons e F ih =>
    rw [List.map_cons, List.nodup_cons] at nd
    rcases List.mem_cons.mp h with rfl | h
    · simp
    · have ne : (e.id == d.id) = false := by
        have : e.id ≠ d.id := fun z => nd.1 (by rw [z]; exact List.mem_map.mpr ⟨d, h, rfl⟩)
        simpa using this
      rw [List.find?_cons, ne]
      exact ih nd.2 h
theorem start_env {K : PySem.W.Frag} {H : Hp} {avs : List AV} {vs : List V} {N : List Str} (r : Reps K H avs vs) : REnv K H (astart N.length avs) (L2.start N vs) := by
  have hl := r.length
  refine ⟨by unfold astart L2.start; simp [hl], fun i av e => ?_⟩
  unfold astart at e
  unfold L2.start
  by_cases hi : i < avs.length
  · rw [List.getElem?_append_left (by simpa using hi), List.getElem?_map] at e
    rw [List.getElem?_append_left (by rw [List.length_map, hl]; exact hi), List.getElem?_map]
    cases ea : avs[i]? with
    | none => rw [ea] at e; cases e
    | some a =>
      rw [ea] at e
      cases e
      obtain ⟨v, e1, rv⟩ := r.get ea
      exact ⟨v, by rw [e1]; rfl, rv⟩
  · rw [List.getElem?_append_right (by simpa using hi)] at e
    have e := (List.getElem?_eq_some_iff.mp e).2
    simp at e
section
variable {P : Program} {w : World} {K : PySem.W.Frag} {mg : Str → Option Value} {base : Heap} {L : Law} {ad : FDat → Addr} {fd : FDat → FuncData}
theorem kls_find {L : Law} {c : Nat} {x : Str} (h : L.T.kc c = some x) : ∃ k ∈ L.K, L.K.find? (·.id == c) = some k ∧ k.x = x := by
  have h : (L.K.find? (·.id == c)).map (·.x) = some x := h
  cases e : L.K.find? (·.id == c) with
  | none => rw [e] at h; cases h
  | some k => rw [e] at h; cases h; exact ⟨k, List.mem_of_find?_eq_some e, rfl, rfl⟩
theorem kok_ini {L : Law} (h : L.kok = true) {k : KDat} (hk : k ∈ L.K) {f : Nat} (e : k.ini = some f) : ∃ d ∈ L.F, d.id = f ∧ d.cl = some k.x ∧ d.x = "__init__" := by
  unfold Law.kok at h
  simp only [Bool.and_eq_true, decide_eq_true_eq, List.all_eq_true] at h
  have q := (h.2 k hk).1
  rw [e] at q
  simp only at q
  split at q
  · rename_i d ed
    simp only [Bool.and_eq_true, decide_eq_true_eq] at q
    exact ⟨d, List.mem_of_find?_eq_some ed, by simpa using List.find?_some ed, q.1, q.2⟩
  · cases q
theorem kok_mth {L : Law} (h : L.kok = true) {k : KDat} (hk : k ∈ L.K) {m f : Nat} (e : (m, f) ∈ k.ms) : ∃ d ∈ L.F, d.id = f ∧ d.cl = some k.x ∧ L.M.lookup m = some d.x := by
  unfold Law.kok at h
  simp only [Bool.and_eq_true, decide_eq_true_eq, List.all_eq_true] at h
  have q := (h.2 k hk).2 _ e
  simp only at q
  split at q
  · rename_i d ed
    simp only [Bool.and_eq_true, decide_eq_true_eq] at q
    exact ⟨d, List.mem_of_find?_eq_some ed, by simpa using List.find?_some ed, q.1, q.2⟩
  · cases q
theorem ad_of {d : FDat} {K : PySem.W.Frag} {c : Str} (h : d.cl = some c) : He.fAd K d.at_ = He.ma K (He.ga K c) d.x := by
  unfold FDat.at_
  rw [h]; rfl
theorem prog_ok (F : Facts ⟨P, w, K, mg, base, L.T⟩ L ad fd) : ∀ (n : Nat), ∀ d ∈ L.F, FnOk P w K mg base (L2.CX P w) (2 * n) (ad d) (fd d) d.ps (cSp ⟨P, w, K, mg, base, L.T⟩ (wpC L.pg n d.id))
  | 0, d, _ => ⟨fun _ _ _ _ ⟨_, _, _, _, q⟩ => q.elim, fun _ _ _ _ _ _ _ _ _ _ _ _ _ ⟨_, _, _, _, q⟩ => q.elim⟩
  | n + 1, d, hd => by
    have ih := prog_ok F n
    obtain ⟨S, M⟩ := FDat.sc_ok (F.chk d hd)
    have U := F.fn d hd
    have hcode : L.pg.code d.id = some ⟨d.ps.length, d.N.length, d.code⟩ := by
      show (L.F.find? (·.id == d.id)).map _ = _
      rw [find_self F.nd hd]; rfl
    refine U.fn.ok S (fun vs H Q E ⟨avs, h, rh, rv, q⟩ => ?_) (fun cdv A outer s H vs Q E hr ⟨avs, h, rh, rv, q⟩ => ?_)
    · obtain ⟨cf, e, l, q⟩ := q
      rw [hcode] at e
      cases e
      rw [rv.length]; exact l
    · obtain ⟨cf, e, l, q⟩ := q
      rw [hcode] at e
      cases e
      refine ⟨cS ⟨P, w, K, mg, base, L.T⟩ (fun cls d _ H => E cls d H) (wpB (wpC L.pg n) L.T L.sub d.code), ?_, ?_⟩
      · refine sB (X := cxOf (L2.CX P w) P w K mg base d.N d.q d.scope (ad d) cdv A outer s H E) (T := L.T) (C := wpC L.pg n) (N := d.N) (sub := L.sub) d.code (sc := d.scope) (fb := fun _ => true) (hot := false) ?_ M
        exact
          { mono := wpC_mono _ n, hN := rfl, nd := S.nd, hsc := rfl, hfb := rfl, hu := room80 hr, calm := fun _ => rfl,
            fns := fun _ f x hx => by
              have hx : ((L.F.find? (·.id == f)).bind fun d => match d.cl with | none => some d.x | some _ => none) = some x := hx
              cases e : L.F.find? (·.id == f) with
              | none => rw [e] at hx; cases hx
              | some d' =>
                rw [e] at hx
                cases ec : d'.cl with
                | some c => simp only [Option.bind_some, ec] at hx; cases hx
                | none =>
                  simp only [Option.bind_some, ec] at hx
                  cases hx
                  have hm := List.mem_of_find?_eq_some e
                  have hi : d'.id = f := by simpa using List.find?_some e
                  subst hi
                  have U' := F.fn d' hm
                  exact ⟨ad d', fd d', d'.ps, 2 * n, U'.mg ec, U'.fn.kp, U'.bd, hr.mono (by show 2 * n ≤ 2 * n + 1; omega), ih d' hm⟩
            nmk := kok_nm F.kok
            kf := fun c h => by
              obtain ⟨x, hx⟩ := Option.isSome_iff_exists.mp h
              obtain ⟨k, hk, _, rfl⟩ := kls_find hx
              have ea : kAddr ⟨P, w, K, mg, base, L.T⟩ c = He.ga K k.x := by unfold kAddr; rw [show (Wd.mk P w K mg base L.T).T.kc c = some k.x from hx]; rfl
              have q := F.kls k hk
              exact ⟨by show Cls K (kAddr ⟨P, w, K, mg, base, L.T⟩ c); rw [ea]; exact q.cls, fun f y hf => by show NoAttr K (kAddr ⟨P, w, K, mg, base, L.T⟩ c) y; rw [ea]; exact q.noat f y hf⟩
            kc := fun _ c x hx => by
              obtain ⟨k, hk, ef, rfl⟩ := kls_find hx
              have ea : kAddr ⟨P, w, K, mg, base, L.T⟩ c = He.ga K k.x := by unfold kAddr; rw [show (Wd.mk P w K mg base L.T).T.kc c = some k.x from hx]; rfl
              have q := F.kls k hk
              refine ⟨by show mg k.x = some (.ref (kAddr ⟨P, w, K, mg, base, L.T⟩ c)); rw [ea]; exact q.mg, fun f hf => ?_, fun m y f hm hf => ?_⟩
              · have hf : (L.K.find? (·.id == c)).bind (·.ini) = some f := hf
                rw [ef] at hf
                have hf : k.ini = some f := hf
                obtain ⟨d', hd', rfl, hc', hx'⟩ := kok_ini F.kok hk hf
                have U' := F.fn d' hd'
                refine ⟨ad d', fd d', d'.ps, 2 * n, ?_, U'.bd, hr, ih d' hd'⟩
                show Mk K (kAddr ⟨P, w, K, mg, base, L.T⟩ c) _
                rw [ea, F.adr d', ad_of hc', hx']
                exact q.ini _ hf
              · have hf : ((L.K.find? (·.id == c)).bind fun k => k.ms.lookup m) = some f := hf
                rw [ef] at hf
                have hf : k.ms.lookup m = some f := hf
                have mm := lookup_mem' hf
                obtain ⟨d', hd', rfl, hc', hx'⟩ := kok_mth F.kok hk mm
                have ey : y = d'.x := by
                  have e1 : L.M.lookup m = some y := hm
                  rw [hx'] at e1
                  exact (Option.some.inj e1).symm
                subst ey
                have U' := F.fn d' hd'
                refine ⟨ad d', fd d', d'.ps, 2 * n, ?_, U'.bd, hr.mono (by show 2 * n ≤ 2 * n + 1; omega), ih d' hd'⟩
                show Meth K (kAddr ⟨P, w, K, mg, base, L.T⟩ c) _ _
                rw [ea, F.adr d', ad_of hc']
                exact q.mth m _ _ mm hm
            dts := fun g x kvs h => ⟨(F.dts g x kvs h).ex⟩
            gvs := F.gvs, free := F.free, tk := takes_of rfl rfl rfl rfl, stk := rfl, fr := rfl, kind := S.kind, own := fun _ => passes_of rfl,
            exc := fun c x h => let e := F.exc c x h; ⟨e.mg, e.ex, e.kp, e.su, e.ty⟩, sub := F.sub }
      · refine ⟨astart d.N.length avs, h, start_env rv, rh, wpB_mono (wpC_mono _ n) d.code ?_ q⟩
        refine ⟨fun _ _ q σ' H' t _ r => ?_, fun _ _ q => ?_, fun _ _ z => z.elim, fun _ _ z => z.elim, fun _ _ _ q cls dd σ' H' t _ r rx => ?_⟩
        · obtain ⟨h1, l1, q⟩ := q
          exact q .non H' t (r.sub l1) (rep_non.mpr rfl)
        · obtain ⟨h1, l1, q⟩ := q
          exact fun v H' t r rv => q v H' t (r.sub l1) rv
        · obtain ⟨h1, l1, q⟩ := q
          exact q cls dd H' t (r.sub l1) rx
end
end PL

namespace PL
open PySem PySem.Spec PyProof.Rows L2

def faK (L : Law) (k : KDat) : List He.Fa := .glo k.x :: .cls k.x :: (L.A.map (fun p => .noat k.x p.2) ++ ((match k.ini with | some _ => [.mkr k.x] | none => []) ++ L.M.filterMap fun p => if (k.ms.lookup p.1).isSome then some (.meth k.x p.2) else none))
def faOf (L : Law) : List He.Fa := (L.F.filter fun d => d.cl.isNone).map (fun d => .glo d.x) ++ (L.free.map .free ++ (L.X.map (fun p => .glo p.2) ++ (L.X.map (fun p => .exc p.2) ++ ((L.X.flatMap fun p => L.X.map fun q => .exm p.2 q.2 (L.sub p.1 q.1)) ++ L.K.flatMap (faK L)))))
def okV : Nat → PySem.W.Frag → AV → Value → Bool
  | _, _, .non, .none => true
  | _, _, .bl b, .bool c => b == c
  | _, _, .int i, .int j _ => decide (i = j)
  | _, _, .str x, .str y _ => decide (x = y)
  | n + 1, K, .tup xs, .ref a => (match K.lookup a with
    | some ⟨.type c, none, .seq its _, _⟩ => decide (c = "tuple") && decide (its.size ≤ sizeLine) && (decide (xs.length = its.toList.length) && (xs.zip its.toList).all fun p => okV n K p.1 p.2)
    | _ => false)
  | _, _, _, _ => false
theorem okV_ok {K : PySem.W.Frag} : ∀ (n : Nat) {av : AV} {u : Value}, okV n K av u = true → ∃ v, RelV v u ∧ ∀ H, Rep K H av v := by
  intro n
  induction n with
  | zero =>
    intro av u h
    cases av <;> cases u <;> first
      | exact ⟨.non, rfl, fun H => rep_non.mpr rfl⟩
      | (rename_i b c; have e : b = c := by simpa [okV] using h
         subst e; exact ⟨.bl b, rfl, fun H => rep_bl.mpr rfl⟩)
      | (rename_i b c t; have e : b = c := by simpa [okV] using h
         subst e; exact ⟨.int b, ⟨t, rfl⟩, fun H => rep_int.mpr rfl⟩)
      | (rename_i b c t; have e : b = c := by simpa [okV] using h
         subst e; exact ⟨.str b, ⟨t, rfl⟩, fun H => rep_str.mpr rfl⟩)
      | simp [okV] at h
  | succ n ih =>
    intro av u h
    cases av with
    | non => cases u <;> first | exact ⟨.non, rfl, fun H => rep_non.mpr rfl⟩ | simp [okV] at h
    | bl b => cases u <;> first
        | (rename_i c; have e : b = c := by simpa [okV] using h
           subst e; exact ⟨.bl b, rfl, fun H => rep_bl.mpr rfl⟩)
        | simp [okV] at h
    | int b => cases u <;> first
        | (rename_i c t; have e : b = c := by simpa [okV] using h
           subst e; exact ⟨.int b, ⟨t, rfl⟩, fun H => rep_int.mpr rfl⟩)
        | simp [okV] at h
    | str b => cases u <;> first
        | (rename_i c t; have e : b = c := by simpa [okV] using h
           subst e; exact ⟨.str b, ⟨t, rfl⟩, fun H => rep_str.mpr rfl⟩)
        | simp [okV] at h
    | wt _ => cases u <;> simp [okV] at h
    | rl _ => cases u <;> simp [okV] at h
    | ref _ => cases u <;> simp [okV] at h
    | tup xs =>
      cases u with
      | ref a =>
        simp only [okV] at h
        split at h
        · rename_i c its m osl e
          simp only [Bool.and_eq_true, decide_eq_true_eq, List.all_eq_true] at h
          obtain ⟨⟨rfl, hz⟩, hl, ha⟩ := h
          have key : ∀ (xs : List AV) (us : List Value), xs.length = us.length → (∀ p ∈ xs.zip us, okV n K p.1 p.2 = true) → ∃ vs, Vals vs us ∧ ∀ H, Reps K H xs vs := by
            intro xs
            induction xs with
            | nil =>
              intro us hl _
              cases us with
              | nil => exact ⟨[], .nil, fun H => reps_nil.mpr rfl⟩
              | cons _ _ => cases hl
            | cons x xs ihx =>
              intro us hl hh
              cases us with
              | nil => cases hl
              | cons w us =>
                obtain ⟨v, r, q⟩ := ih (hh (x, w) List.mem_cons_self)
                obtain ⟨vs, r2, q2⟩ := ihx us (by simpa using hl) fun p hp => hh p (List.mem_cons_of_mem _ hp)
                exact ⟨v :: vs, .cons r r2, fun H => reps_cons.mpr ⟨v, vs, rfl, q H, q2 H⟩⟩
          obtain ⟨vs, r, q⟩ := key xs its.toList hl ha
          exact ⟨.ref a, rfl, fun H => rep_tup.mpr ⟨a, vs, rfl, .inr ⟨_, its, m, e, rfl, rfl, rfl, hz, r⟩, q H⟩⟩
        · cases h
      | _ => simp [okV] at h
def dtOk (K : PySem.W.Frag) (x : Str) (kvs : List (Str × AV)) : Bool := match PySem.W.nsIn K mainGlobals x with
  | some (some (.ref a)) => kvs.all fun q => match PySem.W.nsIn K a q.1 with | some (some u) => okV 8 K q.2 u | _ => false
  | _ => false
def exOf (L : Law) (K : PySem.W.Frag) : Bool := (L.G.all fun g => match PySem.W.nsIn K mainGlobals g.2.1 with
  | some (some u) => okV 8 K g.2.2 u
  | _ => false) && L.D.all fun d => dtOk K d.2.1 d.2.2
abbrev AlG : Type := He.AlD × Bool × List (Option (List (Option (Str × Int))))
def obsG (L : Law) (fn : List He.DefD) (K : PySem.W.Frag) : AlG := (He.obsD (faOf L) fn K, exOf L K, L.D.map fun d => He.dicW K (He.ga K d.2.1))
def valG (L : Law) (fn : List He.DefD) (w : World) : AlG := (He.valD fn, true, L.D.map fun d => some (He.keysIn w.params (d.2.2.map (·.1))))
def SaysG (L : Law) (fn : List He.DefD) (w : World) (K : PySem.W.Frag) : Prop := He.SaysD (faOf L) fn K ∧ exOf L K = true ∧ (L.D.map fun d => He.dicW K (He.ga K d.2.1)) = L.D.map fun d => some (He.keysIn w.params (d.2.2.map (·.1)))
def nxO : Obj → List Addr
  | ⟨_, _, .func fd, _⟩ => He.refV fd.code ++ He.refV fd.defaults
  | ⟨_, _, .cls cd, _⟩ => [cd.ns]
  | ⟨_, _, .seq its _, _⟩ => its.toList.flatMap He.refV
  | ⟨_, _, .dict es _, _⟩ => es.toList.flatMap fun e => He.refV e.val
  | _ => []
def nxA (g : Addr → Option Obj) (as : List Addr) : List Addr := as.flatMap fun a => match g a with
  | some o => nxO o
  | none => []
def levA (g : Addr → Option Obj) : Nat → List Addr → List Addr
  | 0, as => as
  | n + 1, as => as ++ levA g n (nxA g as)
def obsGG (n : Nat) (L : Law) (fn : List He.DefD) (g : Addr → Option Obj) : AlG := obsG L fn (He.frG g (levA g n [mainGlobals]))
def hookG (n : Nat) (L : Law) (fn : List He.DefD) : PySem.W.Hook where
  α := AlG
  obs := fun s => obsGG n L fn s.heap.get?
  val := fun w => valG L fn w
  says := fun w h => ∃ K : PySem.W.Frag, K.In h ∧ SaysG L fn w K
  of := fun _ _ e => ⟨_, He.frG_in, congrArg Prod.fst e, congrArg (fun z : AlG => z.2.1) e, congrArg (fun z : AlG => z.2.2) e⟩
  keeps := fun _ _ _ ⟨K, hK, c⟩ k => ⟨K, PySem.W.Frag.In.keeps hK k, c⟩
theorem obsGG_eq {n : Nat} {L : Law} {fn : List He.DefD} {g : Addr → Option Obj} {s : Shared} (h : ∀ a, g a = s.heap.get? a) : obsGG n L fn g = (hookG n L fn).obs s := by
  rw [show g = s.heap.get? from funext h] <;> rfl
def fnOf (L : Law) : List He.DefD := L.F.map FDat.dd
theorem says_fact {fa : List He.Fa} {fn : List He.DefD} {K : PySem.W.Frag} (c : He.SaysD fa fn K) {f : He.Fa} (h : f ∈ fa) : f.ok K = true := by
  have c1 := (He.ba (show ((fa.all fun f => f.ok K) && fn.all fun d => d.ok K) = true from congrArg (fun z : He.AlD => z.1) c)).1
  exact List.all_eq_true.mp c1 f h
theorem says_def {fa : List He.Fa} {fn : List He.DefD} {K : PySem.W.Frag} (c : He.SaysD fa fn K) {d : He.DefD} (h : d ∈ fn) : ∃ fd, FunD K d.name d.qual d.params d.body d.scope (d.dvs K) (d.kws K) (He.fAd K d.at_) fd := by
  obtain ⟨i, hi⟩ := List.mem_iff_getElem?.mp h
  exact c.def_ i hi
def BindOk (d : FDat) : Prop := ∀ (kV doc pm : Value) (an : Option Addr) (cdv ct : Value) (us : List Value), us.length = d.ps.length → bindArgs (PySem.W.fnOf d.x d.q d.params d.body d.scope .none kV doc pm an cdv ct) ⟨us, []⟩ = pure (d.ps.zip us)
theorem find_none_lit {P : Params} {ks : List Str} : ∀ {l : List DictEntry}, l.map He.keyOf = He.keysIn P ks → ∀ z, z ∉ ks → l.find? (·.key.isStr z) = none ∧ l.any (·.refKey) = false := by
  induction ks with
  | nil =>
    intro l h z _
    cases l with
    | nil => exact ⟨rfl, rfl⟩
    | cons _ _ => cases h
  | cons k ks ih =>
    intro l h z hz
    cases l with
    | nil => cases h
    | cons e l =>
      have h1 : He.keyOf e :: l.map He.keyOf = some (k, PyData.keyHash P k) :: He.keysIn P ks := h
      injection h1 with h2 h3
      obtain ⟨q1, q2⟩ := ih h3 z (fun m => hz (List.mem_cons_of_mem _ m))
      unfold He.keyOf at h2
      split at h2
      · rename_i x t q
        have h4 := Option.some.inj h2
        obtain ⟨h5, h6⟩ := Prod.mk.inj h4
        have n1 : e.key.isStr z = false := by
          rw [q]
          show (x == z) = false
          cases c : x == z with
          | false => rfl
          | true => exact absurd (by rw [← eq_of_beq c, h5]; exact List.mem_cons_self) hz
        have n2 : e.refKey = false := by unfold DictEntry.refKey; rw [q]
        refine ⟨?_, ?_⟩
        · rw [List.find?_cons, n1]; exact q1
        · rw [List.any_cons, n2, q2]; rfl
      · cases h2
theorem lookup_none_iff {kvs : List (Str × AV)} {z : Str} (h : kvs.lookup z = none) : z ∉ kvs.map (·.1) := by
  induction kvs with
  | nil => simp
  | cons p r ih =>
    obtain ⟨a, b⟩ := p
    rw [List.lookup_cons] at h
    cases e : z == a with
    | true => rw [e] at h; cases h
    | false =>
      rw [e] at h
      rw [List.map_cons, List.mem_cons]
      rintro (rfl | m)
      · simp at e
      · exact ih h m
section
variable {P : Program} {w : World} {K : PySem.W.Frag} {mg : Str → Option Value} {base : Heap} {L : Law} {h : Heap}
theorem facts_of (X : K.In h) (G : h.Ns mainGlobals mg) (c2 : SaysG L (fnOf L) w K) (kok : L.kok = true) (nd : (L.F.map (·.id)).Nodup) (chk : ∀ d ∈ L.F, d.chk L.T = true) (bd : ∀ d ∈ L.F, BindOk d) :
    ∃ fd : FDat → FuncData, ∀ (P : Program) (base : Heap), Facts ⟨P, w, K, mg, base, L.T⟩ L (fun d => He.fAd K d.at_) fd := by
  have c := c2.1
  have fex : ∀ d : FDat, ∃ fd, d ∈ L.F → FunD K d.x d.q d.params d.body d.scope [] [] (He.fAd K d.at_) fd := fun d => by
    by_cases hd : d ∈ L.F
    · obtain ⟨fd, F⟩ := says_def c (d := d.dd) (List.mem_map.mpr ⟨d, hd, rfl⟩)
      exact ⟨fd, fun _ => F⟩
    · exact ⟨⟨"", "", d.params, .stmts [], d.scope, 0, [], .none, .none, .none, .none, none, .none, .none, 0⟩, fun z => absurd z hd⟩
  refine ⟨fun d => (fex d).choose, fun P base => ⟨rfl, fun d hd => ?_, fun e x hx => ?_, fun e e' x y hx hy => ?_, fun g x hx => ?_, fun x hx => ?_, nd, chk, kok, fun d => rfl, fun k hk => ?_, fun g x kvs hg => ?_⟩⟩
  · have F := (fex d).choose_spec hd
    refine ⟨F, fun hc => ?_, F.bindsN (bd d hd)⟩
    have ea : He.fAd K d.at_ = He.ga K d.x := by unfold FDat.at_; rw [hc]; rfl
    rw [ea]
    exact He.glo_ok X G (says_fact c (List.mem_append_left _ (List.mem_map.mpr ⟨d, List.mem_filter.mpr ⟨hd, by rw [hc]; rfl⟩, rfl⟩)))
  · have hm : (e, x) ∈ L.X := lookup_mem' hx
    have ca : clsAddr ⟨P, w, K, mg, base, L.T⟩ e = He.ga K x := by
      show He.ga K ((L.X.lookup e).getD "") = _
      rw [show L.X.lookup e = some x from hx]; rfl
    have g1 := He.glo_ok X G (says_fact c (f := .glo x) (List.mem_append_right _ (List.mem_append_right _ (List.mem_append_left _ (List.mem_map.mpr ⟨_, hm, rfl⟩)))))
    have g2 := He.exc_ok (says_fact c (f := .exc x) (List.mem_append_right _ (List.mem_append_right _ (List.mem_append_right _ (List.mem_append_left _ (List.mem_map.mpr ⟨_, hm, rfl⟩))))))
    exact ⟨by rw [ca]; exact g1, by rw [ca]; exact g2.1, by rw [ca]; exact g2.2.1, by rw [ca]; exact g2.2.2.1, by rw [ca]; exact g2.2.2.2⟩
  · have hm : (e, x) ∈ L.X := lookup_mem' hx
    have hm' : (e', y) ∈ L.X := lookup_mem' hy
    have ca : clsAddr ⟨P, w, K, mg, base, L.T⟩ e = He.ga K x := by
      show He.ga K ((L.X.lookup e).getD "") = _
      rw [show L.X.lookup e = some x from hx]; rfl
    have ca' : clsAddr ⟨P, w, K, mg, base, L.T⟩ e' = He.ga K y := by
      show He.ga K ((L.X.lookup e').getD "") = _
      rw [show L.X.lookup e' = some y from hy]; rfl
    rw [ca, ca']
    exact He.exm_ok (says_fact c (f := .exm x y (L.sub e e')) (List.mem_append_right _ (List.mem_append_right _ (List.mem_append_right _ (List.mem_append_right _ (List.mem_append_left _
      (List.mem_flatMap.mpr ⟨_, hm, List.mem_map.mpr ⟨_, hm', rfl⟩⟩)))))))
  · have hx : (L.G.lookup g).map (·.1) = some x := hx
    cases eg : L.G.lookup g with
    | none => rw [eg] at hx; cases hx
    | some p =>
      rw [eg] at hx
      cases hx
      obtain ⟨x, v⟩ := p
      have hm : (g, x, v) ∈ L.G := lookup_mem' eg
      have q := List.all_eq_true.mp (show (L.G.all fun g => match PySem.W.nsIn K mainGlobals g.2.1 with
        | some (some u) => okV 8 K g.2.2 u
        | _ => false) = true from (Bool.and_eq_true_iff.mp (show (_ && _) = true from c2.2.1)).1) _ hm
      have gv : L.T.gv g = some v := by
        show (L.G.lookup g).map _ = _
        rw [eg]; rfl
      dsimp only at q
      split at q
      · rename_i u e
        obtain ⟨w, r, k⟩ := okV_ok 8 q
        refine ⟨w, u, PySem.W.mg_of X G e, r, fun av ea H => ?_⟩
        rw [gv] at ea; cases ea
        exact k H
      · cases q
  · have hx : L.free.contains x = true := hx
    exact He.free_ok X G (says_fact c (f := .free x) (List.mem_append_right _ (List.mem_append_left _ (List.mem_map.mpr ⟨x, by simpa using hx, rfl⟩))))
  · have fk : ∀ f ∈ faK L k, f.ok K = true := fun f hf => says_fact c (List.mem_append_right _ (List.mem_append_right _ (List.mem_append_right _ (List.mem_append_right _ (List.mem_append_right _ (List.mem_flatMap.mpr ⟨k, hk, hf⟩))))))
    refine ⟨He.glo_ok X G (fk (.glo k.x) List.mem_cons_self), He.cls_ok (fk (.cls k.x) (List.mem_cons_of_mem _ List.mem_cons_self)), fun f y hf => ?_, fun f hf => ?_, fun m f y hm hy => ?_⟩
    · exact He.noat_ok (fk (.noat k.x y) (List.mem_cons_of_mem _ (List.mem_cons_of_mem _ (List.mem_append_left _ (List.mem_map.mpr ⟨_, lookup_mem' (show L.A.lookup f = some y from hf), rfl⟩)))))
    · refine He.mkr_ok (fk (.mkr k.x) (List.mem_cons_of_mem _ (List.mem_cons_of_mem _ (List.mem_append_right _ (List.mem_append_left _ ?_)))))
      rw [hf]; exact List.mem_cons_self
    · refine He.meth_ok (fk (.meth k.x y) (List.mem_cons_of_mem _ (List.mem_cons_of_mem _ (List.mem_append_right _ (List.mem_append_right _ (List.mem_filterMap.mpr ⟨(m, y), lookup_mem' (show L.M.lookup m = some y from hy), ?_⟩))))))
      have : (k.ms.lookup m).isSome = true := by
        cases e : k.ms.lookup m with
        | some _ => rfl
        | none =>
          exfalso
          clear fk
          generalize k.ms = l at hm e
          induction l with
          | nil => cases hm
          | cons p l ih =>
            obtain ⟨a, b⟩ := p
            rw [List.lookup_cons] at e
            cases ee : m == a with
            | true => rw [ee] at e; cases e
            | false =>
              rw [ee] at e
              rcases List.mem_cons.mp hm with z | z
              · cases z; simp at ee
              · exact ih z e
      simp [this]
  · have mD : (g, x, kvs) ∈ L.D := lookup_mem' (show L.D.lookup g = some (x, kvs) from hg)
    have q1 := List.all_eq_true.mp (Bool.and_eq_true_iff.mp (show (_ && (L.D.all fun d => dtOk K d.2.1 d.2.2)) = true from c2.2.1)).2 _ mD
    have q2 : He.dicW K (He.ga K x) = some (He.keysIn w.params (kvs.map (·.1))) := by
      obtain ⟨i, hi⟩ := List.mem_iff_getElem?.mp mD
      have e := congrArg (fun l => l[i]?) c2.2.2
      simp only [List.getElem?_map, hi, Option.map_some] at e
      exact Option.some.inj e
    dsimp only at q1
    unfold dtOk at q1
    split at q1
    · rename_i a ea
      have ega : He.ga K x = a := by unfold He.ga; rw [ea]
      rw [ega] at q2
      obtain ⟨es, n, KD⟩ := He.dicW_ok q2
      have ek : es.toList.map He.keyOf = He.keysIn w.params (kvs.map (·.1)) := by
        unfold He.dicW at q2
        rw [KD.at_] at q2
        simp only [KD.low] at q2
        exact Option.some.inj q2
      refine ⟨a, es, n, PySem.W.mg_of X G ea, KD, fun z hz => ?_, fun z av hz => ?_⟩
      · obtain ⟨f1, f2⟩ := find_none_lit ek z (lookup_none_iff hz)
        unfold PySem.W.nsIn
        rw [KD.at_]
        simp only [f1, f2]
        rfl
      · have mz := lookup_mem' hz
        have q3 := List.all_eq_true.mp q1 _ mz
        dsimp only at q3
        split at q3
        · rename_i u eu
          obtain ⟨v, r, k⟩ := okV_ok 8 q3
          exact ⟨u, v, eu, r, k⟩
        · cases q3
    · cases q1
end
theorem reps_ints {K : PySem.W.Frag} {H : Hp} : ∀ {ns : List Int}, Reps K H (ns.map AV.int) (ns.map V.int)
  | [] => reps_nil.mpr rfl
  | n :: ns => reps_cons.mpr ⟨_, _, rfl, rep_int.mpr rfl, reps_ints⟩
theorem law_end {l : PySem.W.OpenLaw} {n k : Nat} {q : Program} {loose : List Str} {XP : (Str → Option Value) → Heap → Prop} {d : DefRec} {L : Law} {dl : FDat} {x : Str}
    (hn : l.most = some n) (hn2 : n ≤ sizeLine) (hdf : d.params.defaults = []) (hr : Room (2 * k) callerA) (hdl : dl ∈ L.F) (hname : d.name = dl.x) (hps : dl.ps = [x]) (hcl : dl.cl = none) (kok : L.kok = true)
    (nd : (L.F.map (·.id)).Nodup) (chk : ∀ d ∈ L.F, d.chk L.T = true) (bd : ∀ d ∈ L.F, BindOk d)
    (main : ∀ ns : List Int, ns.length ≤ n → (∀ z ∈ ns, Builtin.Int.intBits z ≤ 1048576) → wpC L.pg k dl.id [.rl (ns.map .int)] (fun _ => none) (fun v _ => v = .bl true) (fun _ _ => False)) :
    PySem.W.WalkO q loose XP (fun w h => ∃ K : PySem.W.Frag, K.In h ∧ SaysG L (fnOf L) w K) l.row.toRowW d [] (fun f vs => PySem.call f vs) := by
  refine Att.attach_callB hn hdf fun w s₀ s₁ mg mb fa o pm cd doc a vs ns G Y ho hd hcd hmg hobj hints hlen hbits hg => ?_
  obtain ⟨K, KX, c⟩ := Y
  obtain ⟨fd, F⟩ := facts_of KX G.T.g c kok nd chk bd
  have hg1 : mg dl.x = some (.ref (He.fAd K dl.at_)) := ((F l.prog s₁.heap).fn dl hdl).mg hcl
  rw [hname] at hmg
  have e := hmg.symm.trans hg1
  cases e
  have FD := (F l.prog s₁.heap).fn dl hdl |>.fn
  refine law_call (CX := L2.CX l.prog w) (fd := fd dl) (x := x) (sp := cSp ⟨l.prog, w, K, mg, s₁.heap, L.T⟩ (wpC L.pg k dl.id)) KX G.T.g G.T.b G.T.builtins G.T.nolimit hg hobj hints (Nat.le_trans hlen hn2) hr (fun base Kb Gb => ?_)
    (fun s u => ?_) (fun H hO hS => ?_) fun H e s' => ?_
  · have q := prog_ok (F l.prog base) k dl hdl
    rw [hps] at q
    exact q
  · have b := FunD.bindsA (ps := dl.ps) FD (bd dl hdl) s [u] (by rw [hps]; rfl)
    rw [hps] at b
    exact b
  · have hF : SqF K H a (ns.map V.int) := by
      rcases hS with (h | ⟨o, h⟩) | h
      · rcases hO a with z | ⟨o, xs, z⟩
        · rw [z] at h; cases h
        · rw [z] at h; cases h
      · exact .inl ⟨o, h⟩
      · exact .inr h
    refine ⟨[.rl (ns.map .int)], fun _ => none, fun _ _ z => (nomatch z), Reps.one (rep_rl.mpr ⟨a, _, rfl, hF, reps_ints⟩), ?_⟩
    refine wpC_mono _ k _ _ _ _ _ _ _ (fun v h1 q v' H' t r rv => ?_) (fun _ _ z => z.elim) (main ns hlen hbits)
    rw [q] at rv
    exact rep_bl.mp rv
  · rintro ⟨_, _, _, _, _, _, _, _, _, _, _, _, z⟩
    exact z
def ftW (w : World) (b : Bool) : World := { w with params := { w.params with followText := fun row => if row == "special-get-raises" then b else w.params.followText row } }
theorem ftW_eq (w : World) : ftW w (w.params.followText "special-get-raises") = w := by
  have e : (fun row => if row == "special-get-raises" then w.params.followText "special-get-raises" else w.params.followText row) = w.params.followText := by
    funext row
    split
    · rename_i h; rw [eq_of_beq h]
    · rfl
  unfold ftW
  rw [e]
theorem ftW_all {P : World → Prop} (h : ∀ (w : World), P (ftW w true) ∧ P (ftW w false)) (w : World) : P w := by
  rw [← ftW_eq w]
  cases w.params.followText "special-get-raises"
  · exact (h w).2
  · exact (h w).1
end PL

namespace PL
open PySem PySem.Spec PyProof.Rows L2
theorem shr_i {P : AH → Prop} {h : AH} (q : P h) : Shr P h := ⟨h, ALe.refl, q⟩
theorem shr_le {P : AH → Prop} {h h' : AH} (l : ALe h h') (q : P h) : Shr P h' := ⟨h, l, q⟩
theorem shs_i {P : AEnv → AH → Prop} {σ : AEnv} {h : AH} (q : P σ h) : Shs P σ h := ⟨σ, h, ⟨rfl, fun _ _ z => z⟩, ALe.refl, q⟩
def endF (Q : AQ) (E : AXQ) : AEnds := { nx := fun _ h' => Shr (Q .non) h', rt := fun v h' => Shr (Q v) h', bk := fun _ _ => False, ct := fun _ _ => False, ex := fun x _ h' => Shr (E x) h' }
theorem call_i {G : Pg} {n f : Nat} {vs : List AV} {h : AH} {Q : AQ} {E : AXQ} {np nn : Nat} {body : CS} (hc : G.code f = some ⟨np, nn, body⟩) (hl : vs.length = np) (hb : wpB (wpC G n) G.T G.sub body (endF Q E) (astart nn vs) h) : wpC G (n + 1) f vs h Q E := ⟨⟨np, nn, body⟩, hc, hl, hb⟩
theorem endF_nx {Q : AQ} {E : AXQ} {σ : AEnv} {h : AH} : (endF Q E).nx σ h = Shr (Q .non) h := rfl
theorem endF_rt {Q : AQ} {E : AXQ} : (endF Q E).rt = fun v h => Shr (Q v) h := rfl
theorem endF_ex {Q : AQ} {E : AXQ} {x : AX} {σ : AEnv} {h : AH} : (endF Q E).ex x σ h = Shr (E x) h := rfl
section
variable {C : ACall} {T : Tb} {sub : Nat → Nat → Bool} {σ : AEnv} {h : AH} {Q : AQ} {E : AXQ} {D : AEnds} {a b c e es o lo hi g : CE} {K : Bool → AH → Prop} {o1 o2 : COp}
theorem q_non : wpE C T .non σ h Q E = Q .non h := rfl
theorem q_bl {x : Bool} : wpE C T (.bl x) σ h Q E = Q (.bl x) h := rfl
theorem q_int {x : Int} : wpE C T (.int x) σ h Q E = Q (.int x) h := rfl
theorem q_str {x : Str} : wpE C T (.str x) σ h Q E = Q (.str x) h := rfl
theorem q_var {i : Nat} : wpE C T (.var i) σ h Q E = ∃ v, σ[i]? = some (some v) ∧ Q v h := rfl
theorem q_glob {i : Nat} : wpE C T (.glob i) σ h Q E = ∃ v, T.gv i = some v ∧ Q v h := rfl
theorem q_tup : wpE C T (.tup es) σ h Q E = wpEs C T es σ h (fun vs h' => vs.length ≤ sizeLine ∧ Q (.tup vs) h') E := rfl
theorem q_lst : wpE C T (.lst es) σ h Q E = wpEs C T es σ h (fun vs h' => vs.length ≤ sizeLine ∧ newL h' vs Q) E := rfl
theorem q_bin {op : BOp} : wpE C T (.bin op a b) σ h Q E = wpE C T a σ h (fun x h1 => wpE C T b σ h1 (fun y h2 => binR op x y h2 Q) E) E := rfl
theorem q_neg : wpE C T (.neg a) σ h Q E = wpE C T a σ h (fun x h1 => ∃ i, x = .int i ∧ Q (.int (-i)) h1) E := rfl
theorem q_not : wpE C T (.not a) σ h Q E = wpE C T a σ h (fun x h1 => ∃ b, x = .bl b ∧ Q (.bl (!b)) h1) E := rfl
theorem q_cmp : wpE C T (.cmp o1 a b) σ h Q E = wpE C T a σ h (fun x h1 => wpE C T b σ h1 (fun y h2 => cmpR o1 x y h2 fun r => Q (.bl r) h2) E) E := rfl
theorem q_chain : wpE C T (.chain o1 o2 a b c) σ h Q E = wpE C T a σ h (fun x h1 => wpE C T b σ h1 (fun y h2 => cmpR o1 x y h2 fun r =>
      if r = true then wpE C T c σ h2 (fun z h3 => cmpR o2 y z h3 fun r' => Q (.bl r') h3) E else Q (.bl false) h2) E) E := rfl
theorem q_and : wpE C T (.and es) σ h Q E = wpAndV C T es σ h Q E := rfl
theorem q_or : wpE C T (.or es) σ h Q E = wpOrV C T es σ h Q E := rfl
theorem q_ifx : wpE C T (.ifx c a b) σ h Q E = wpT C T c σ h (fun r h1 => if r = true then wpE C T a σ h1 Q E else wpE C T b σ h1 Q E) E := rfl
theorem q_call {f : Nat} : wpE C T (.call f es) σ h Q E = wpEs C T es σ h (fun vs h1 => C f vs h1 Q E) E := rfl
theorem q_blt {f : Blt} : wpE C T (.blt f es) σ h Q E = wpEs C T es σ h (fun vs h1 => bltR f vs h1 Q) E := rfl
theorem q_isin {ts : List Ty} : wpE C T (.isin e ts) σ h Q E = wpE C T e σ h (fun x h1 => tyR ts x h1 fun r => Q (.bl r) h1) E := rfl
theorem q_idx : wpE C T (.idx a b) σ h Q E = wpE C T a σ h (fun x h1 => wpE C T b σ h1 (fun y h2 => ixR x y h2 Q) E) E := rfl
theorem q_slc : wpE C T (.slc a lo hi) σ h Q E = wpE C T a σ h (fun x h1 => wpP C T lo σ h1 (fun l h2 => wpP C T hi σ h2 (fun u h3 => slR x l u h3 Q) E) E) E := rfl
theorem q_rev : wpE C T (.rev a) σ h Q E = wpE C T a σ h (fun x h1 => revR x h1 Q) E := rfl
theorem q_mth {m : Mth} : wpE C T (.mth m o es) σ h Q E = wpE C T o σ h (fun x h1 => mthTy m x h1 ∧ wpEs C T es σ h1 (fun vs h2 => mthR m x vs h2 Q) E) E := rfl
theorem w_asg : wpS C T sub (.asg g e) D σ h = wpE C T e σ h (fun v h1 => wpG C T g v σ h1 D.nx) (fun x h' => D.ex x σ h') := rfl
theorem w_slc {i : Nat} : wpS C T sub (.slc i e) D σ h = wpE C T e σ h (fun v h1 => D.nx (σ.set i (some v)) h1) (fun x h' => D.ex x σ h') := rfl
theorem w_par {i j : Nat} : wpS C T sub (.par i j a b) D σ h = wpE C T a σ h (fun v h1 => wpE C T b σ h1 (fun w h2 => D.nx ((σ.set i (some v)).set j (some w)) h2) (fun x h' => D.ex x σ h')) (fun x h' => D.ex x σ h') := rfl
theorem w_par3 {i j k : Nat} : wpS C T sub (.par3 i j k a b c) D σ h = wpE C T a σ h (fun v h1 => wpE C T b σ h1 (fun w h2 => wpE C T c σ h2 (fun u h3 => D.nx (((σ.set i (some v)).set j (some w)).set k (some u)) h3) (fun x h' => D.ex x σ h')) (fun x h' => D.ex x σ h')) (fun x h' => D.ex x σ h') := rfl
theorem w_expr : wpS C T sub (.expr e) D σ h = wpE C T e σ h (fun _ h1 => D.nx σ h1) (fun x h' => D.ex x σ h') := rfl
theorem w_ret : wpS C T sub (.ret e) D σ h = wpE C T e σ h D.rt (fun x h' => D.ex x σ h') := rfl
theorem w_retN : wpS C T sub .retN D σ h = D.rt .non h := rfl
theorem w_iff {t f : CS} : wpS C T sub (.iff c t f) D σ h = wpT C T c σ h (fun b h1 => if b = true then wpB C T sub t D σ h1 else wpB C T sub f D σ h1) (fun x h' => D.ex x σ h') := rfl
theorem w_raise {x : Nat} : wpS C T sub (.raise x es) D σ h = wpEs C T es σ h (fun vs h1 => D.ex ⟨x, vs⟩ σ h1) (fun x h' => D.ex x σ h') := rfl
theorem w_tri {t f : CS} : wpS C T sub (.tri t f) D σ h = wpB C T sub t { D with ex := fun x σ' h' => wpH C T sub f x D σ' h' } σ h := rfl
theorem q_attr {f : Nat} : wpE C T (.attr o f) σ h Q E = wpE C T o σ h (fun x h1 => fldR x f h1 Q) E := rfl
theorem q_umth {m : Nat} : wpE C T (.umth m o es) σ h Q E = wpE C T o σ h (fun x h1 => mthF T x m h1 fun f => wpEs C T es σ h1 (fun vs h2 => C f (x :: vs) h2 Q E) E) E := rfl
theorem q_new {c : Nat} : wpE C T (.new c es) σ h Q E = wpEs C T es σ h (fun vs h1 => ∃ f, T.ki c = some f ∧ ∀ p, h1 p = none → C f (.ref p :: vs) (aupd h1 p (.ins c [])) (fun v h2 => v = .non ∧ Q (.ref p) h2) E) E := rfl
theorem q_inD {g : Nat} {neg : Bool} : wpE C T (.inD a g neg) σ h Q E = wpE C T a σ h (fun x h1 => ∃ t, T.dt g = some t ∧ dtR t.2 x fun r => Q (.bl (if neg = true then !r.isSome else r.isSome)) h1) E := rfl
theorem q_ixD {g : Nat} : wpE C T (.ixD g a) σ h Q E = wpE C T a σ h (fun x h1 => ∃ t, T.dt g = some t ∧ dtR t.2 x fun r => ∃ v, r = some v ∧ Q v h1) E := rfl
theorem w_sat {f : Nat} : wpS C T sub (.sat o f e) D σ h = wpE C T e σ h (fun v h1 => wpE C T o σ h1 (fun x h2 => setF x f v h2 fun h3 => D.nx σ h3) (fun x h' => D.ex x σ h')) (fun x h' => D.ex x σ h') := rfl
theorem w_pass : wpS C T sub .pass D σ h = D.nx σ h := rfl
theorem w_brk : wpS C T sub .brk D σ h = D.bk σ h := rfl
theorem w_cont : wpS C T sub .cont D σ h = D.ct σ h := rfl
end
def setR (x y v : AV) (h : AH) (K : AH → Prop) : Prop := ∃ a, x = .ref a ∧
      ((∃ xs i j, y = .int i ∧ ixN xs.length i = some j ∧ h a = some (.lst xs) ∧ K (aupd h a (.lst (xs.set j v)))) ∨
       (∃ kvs k, y.toKey = some k ∧ h a = some (.dK kvs) ∧ kvs.length < sizeLine ∧ K (aupd h a (.dK (dput kvs k v)))))
theorem g_idxR {C : ACall} {T : Tb} {o i : CE} {v : AV} {σ : AEnv} {h : AH} {K : AEnv → AH → Prop} : wpG C T (.idx o i) v σ h K = wpE C T o σ h (fun x h1 => wpE C T i σ h1 (fun y h2 => setR x y v h2 fun h3 => K σ h3) fun _ _ => False) fun _ _ => False := rfl
theorem g_varR {C : ACall} {T : Tb} {i : Nat} {v : AV} {σ : AEnv} {h : AH} {K : AEnv → AH → Prop} : wpG C T (.var i) v σ h K = K (σ.set i (some v)) h := rfl
theorem g_tupR {C : ACall} {T : Tb} {gs : CE} {vs : List AV} {σ : AEnv} {h : AH} {K : AEnv → AH → Prop} (hl : vs.length = gs.len) (q : wpGs C T gs vs σ h K) : wpG C T (.tup gs) (.tup vs) σ h K := .inl ⟨vs, .inl rfl, hl, q⟩
theorem g_wtR {C : ACall} {T : Tb} {gs : CE} {vs : List AV} {σ : AEnv} {h : AH} {K : AEnv → AH → Prop} (hl : vs.length = gs.len) (q : wpGs C T gs vs σ h K) : wpG C T (.tup gs) (.wt vs) σ h K := .inl ⟨vs, .inr rfl, hl, q⟩
theorem g_lstR {C : ACall} {T : Tb} {gs : CE} {vs : List AV} {a : Addr} {σ : AEnv} {h : AH} {K : AEnv → AH → Prop} (e : h a = some (.lst vs)) (hl : vs.length = gs.len) (q : wpGs C T gs vs σ h K) : wpG C T (.tup gs) (.ref a) σ h K := .inr ⟨a, vs, rfl, e, hl, q⟩
theorem gs_nilR {C : ACall} {T : Tb} {σ : AEnv} {h : AH} {K : AEnv → AH → Prop} : wpGs C T .nil [] σ h K = K σ h := by
  show ([] = [] ∧ K σ h) = _
  simp
theorem gs_consR {C : ACall} {T : Tb} {g gs : CE} {v : AV} {vs : List AV} {σ : AEnv} {h : AH} {K : AEnv → AH → Prop} : wpGs C T (.cons g gs) (v :: vs) σ h K = wpG C T g v σ h (fun σ1 h1 => wpGs C T gs vs σ1 h1 K) := by
  show (∃ v' r, v :: vs = v' :: r ∧ wpG C T g v' σ h (fun σ1 h1 => wpGs C T gs r σ1 h1 K)) = _
  apply propext
  constructor
  · rintro ⟨v', r, e, q⟩
    cases e
    exact q
  · intro q
    exact ⟨v, vs, rfl, q⟩
theorem set_lst {a : Addr} {i : Int} {v : AV} {xs : List AV} {h : AH} {K : AH → Prop} (e : h a = some (.lst xs)) (h0 : 0 ≤ i) (h1 : i < xs.length) (q : K (aupd h a (.lst (xs.set i.toNat v)))) : setR (.ref a) (.int i) v h K := ⟨a, rfl, .inl ⟨xs, i, i.toNat, rfl, by unfold ixN; rw [if_pos h0, if_pos h1], e, q⟩⟩
theorem set_last {a : Addr} {v x : AV} {xs : List AV} {h : AH} {K : AH → Prop} (e : h a = some (.lst (xs ++ [x]))) (q : K (aupd h a (.lst (xs ++ [v])))) : setR (.ref a) (.int (-1)) v h K := by
  refine ⟨a, rfl, .inl ⟨_, -1, xs.length, rfl, ?_, e, ?_⟩⟩
  · unfold ixN
    rw [if_neg (by decide), if_pos (by rw [List.length_append]; simp; omega)]
    congr 1
    rw [List.length_append]; simp; omega
  · have : (xs ++ [x]).set xs.length v = xs ++ [v] := by simp
    rw [this]; exact q
theorem set_dK {a : Addr} {y v : AV} {kvs : List (Key × AV)} {k : Key} {h : AH} {K : AH → Prop} (e : h a = some (.dK kvs)) (ek : y.toKey = some k) (h1 : kvs.length < sizeLine) (q : K (aupd h a (.dK (dput kvs k v)))) : setR (.ref a) y v h K := ⟨a, rfl, .inr ⟨kvs, k, ek, e, h1, q⟩⟩
theorem wp_cut {C : ACall} (hC : CMono C) {T : Tb} {sub : Nat → Nat → Bool} {s r : CS} {D : AEnds} {σ : AEnv} {h : AH} (P : AEnv → AH → Prop) (h1 : wpS C T sub s { D with nx := P } σ h) (h2 : ∀ σ h, P σ h → wpB C T sub r D σ h) : wpB C T sub (.cons s r) D σ h := by
  show wpS C T sub s { D with nx := fun σ1 h1 => wpB C T sub r D σ1 h1 } σ h
  refine wpS_mono hC s ?_ h1
  exact ⟨h2, fun _ _ z => z, fun _ _ z => z, fun _ _ z => z, fun _ _ _ z => z⟩
theorem wp_mid {C : ACall} (hC : CMono C) {T : Tb} {sub : Nat → Nat → Bool} {s : CS} {D : AEnds} {σ : AEnv} {h : AH} (P : AEnv → AH → Prop) (h1 : wpS C T sub s { D with nx := P } σ h) (h2 : ∀ σ h, P σ h → D.nx σ h) : wpS C T sub s D σ h := by
  refine wpS_mono hC s ?_ h1
  exact ⟨h2, fun _ _ z => z, fun _ _ z => z, fun _ _ z => z, fun _ _ _ z => z⟩
theorem b_nil' {C : ACall} {T : Tb} {sub : Nat → Nat → Bool} {D : AEnds} {σ : AEnv} {h : AH} : wpB C T sub .nil D σ h = D.nx σ h := rfl
theorem b_cons' {C : ACall} {T : Tb} {sub : Nat → Nat → Bool} {s r : CS} {D : AEnds} {σ : AEnv} {h : AH} : wpB C T sub (.cons s r) D σ h = wpS C T sub s { D with nx := fun σ1 h1 => wpB C T sub r D σ1 h1 } σ h := rfl
theorem v_ref {C : ACall} {T : Tb} {p : Addr} {xs : List AV} {h : AH} {K : List AV → (AH → Prop) → Prop} (e : h p = some (.lst xs)) (q : K xs fun h' => h' p = some (.lst xs)) : itR (.ref p) h K := ⟨xs, e, q⟩
theorem v_tup {xs : List AV} {h : AH} {K : List AV → (AH → Prop) → Prop} : itR (.tup xs) h K = K xs fun _ => True := rfl
theorem v_rl {xs : List AV} {h : AH} {K : List AV → (AH → Prop) → Prop} : itR (.rl xs) h K = K xs fun _ => True := rfl
theorem sl_rl {xs : List AV} {lo hi : Option Int} {h : AH} {Q : AQ} : slR (.rl xs) lo hi h Q = ∀ p, h p = none → Q (.ref p) (aupd h p (.lst (acut xs lo hi))) := rfl
theorem sl_tup {xs : List AV} {lo hi : Option Int} {h : AH} {Q : AQ} : slR (.tup xs) lo hi h Q = Q (.tup (acut xs lo hi)) h := rfl
theorem sl_lst {a : Addr} {xs : List AV} {lo hi : Option Int} {h : AH} {Q : AQ} (e : h a = some (.lst xs)) (q : ∀ p, h p = none → Q (.ref p) (aupd h p (.lst (acut xs lo hi)))) : slR (.ref a) lo hi h Q := ⟨xs, e, q⟩
theorem len_nil {α : Type} : ([] : List α).length = 0 := rfl
section
variable {i j : Int} {s t : Str} {xs ys : List AV} {h : AH} {Q : AQ} {R : Bool → Prop} {a b : Addr} {c d : Bool}
theorem b_add : binR .add (.int i) (.int j) h Q = Q (.int (i + j)) h := rfl
theorem b_addT : binR .add (.tup xs) (.tup ys) h Q = (xs.length + ys.length ≤ sizeLine ∧ Q (.tup (xs ++ ys)) h) := rfl
theorem b_addS : binR .add (.str s) (.str t) h Q = (s.length + t.length ≤ sizeLine ∧ Q (.str (s ++ t)) h) := rfl
theorem b_addL : binR .add (.ref a) (.ref b) h Q = ∃ xs ys, h a = some (.lst xs) ∧ h b = some (.lst ys) ∧ xs.length + ys.length ≤ sizeLine ∧ ∀ p, h p = none → Q (.ref p) (aupd h p (.lst (xs ++ ys))) := rfl
theorem b_sub : binR .sub (.int i) (.int j) h Q = Q (.int (i - j)) h := rfl
theorem b_mul : binR .mul (.int i) (.int j) h Q = (CMulW i j ∧ Q (.int (i * j)) h) := rfl
theorem b_fdiv : binR .fdiv (.int i) (.int j) h Q = ((j ≠ 0 ∧ j.natAbs.log2 < 9000) ∧ Q (.int (i.fdiv j)) h) := rfl
theorem b_mod : binR .mod (.int i) (.int j) h Q = (0 < j ∧ Q (.int (i % j)) h) := rfl
theorem b_pow : binR .pow (.int i) (.int j) h Q = (CPow i j ∧ Q (.int (i ^ j.toNat)) h) := rfl
theorem c_eq {x y : AV} : cmpR .eq x y h R = eqR x y h R := rfl
theorem c_ne {x y : AV} : cmpR .ne x y h R = eqR x y h fun b => R (!b) := rfl
theorem e_int : eqR (.int i) (.int j) h R = R (decide (i = j)) := by
  show (AV.flat 50 _ = true ∧ AV.flat 50 _ = true ∧ R (i == j)) = _
  have e : (i == j) = decide (i = j) := by by_cases e : i = j <;> simp [e]
  simp [AV.flat, e]
theorem e_bl : eqR (.bl c) (.bl d) h R = R (c == d) := by
  show (AV.flat 50 _ = true ∧ AV.flat 50 _ = true ∧ R (c == d)) = _
  simp [AV.flat]
theorem e_str : eqR (.str s) (.str t) h R = ((PyData.strOk s = true ∧ PyData.strOk t = true) ∧ R (s == t)) := by
  show (AV.flat 50 _ = true ∧ AV.flat 50 _ = true ∧ R (s == t)) = _
  simp [AV.flat, and_assoc]
theorem c_lt : cmpR .lt (.int i) (.int j) h R = R (decide (i < j)) := rfl
theorem c_le : cmpR .le (.int i) (.int j) h R = R (decide (i ≤ j)) := rfl
theorem c_gt : cmpR .gt (.int i) (.int j) h R = R (decide (j < i)) := rfl
theorem c_ge : cmpR .ge (.int i) (.int j) h R = R (decide (j ≤ i)) := rfl
theorem c_isN {x : AV} : cmpR .is x .non h R = R (match x with | .non => true | _ => false) := by cases x <;> rfl
theorem c_isnotN {x : AV} : cmpR .isnot x .non h R = R (!(match x with | .non => true | _ => false)) := by cases x <;> rfl
theorem c_isB : cmpR .is (.bl c) (.bl d) h R = R (decide (c = d)) := rfl
theorem c_isnotB : cmpR .isnot (.bl c) (.bl d) h R = R (!decide (c = d)) := rfl
theorem t_non {ts : List Ty} : tyR ts .non h R = R false := rfl
theorem t_bl {ts : List Ty} : tyR ts (.bl c) h R = R (hasTy ts .bool || hasTy ts .int) := rfl
theorem t_int {ts : List Ty} : tyR ts (.int i) h R = R (hasTy ts .int) := rfl
theorem t_str {ts : List Ty} : tyR ts (.str s) h R = R (hasTy ts .str) := rfl
theorem t_tup {ts : List Ty} : tyR ts (.tup xs) h R = R (hasTy ts .tuple) := rfl
theorem t_rl {ts : List Ty} : tyR ts (.rl xs) h R = R (hasTy ts .list) := rfl
theorem t_lst {ts : List Ty} (e : h a = some (.lst xs)) (q : R (hasTy ts .list)) : tyR ts (.ref a) h R := .inl ⟨xs, e, q⟩
theorem t_dK {ts : List Ty} {kvs} (e : h a = some (.dK kvs)) (q : R (hasTy ts .dict)) : tyR ts (.ref a) h R := .inr ⟨kvs, e, q⟩
theorem r_bl : truR (.bl c) h R = R c := rfl
theorem r_non : truR .non h R = R false := rfl
theorem r_int : truR (.int i) h R = R (i != 0) := rfl
theorem r_tup : truR (.tup xs) h R = R (!xs.isEmpty) := rfl
theorem x_tup : ixR (.tup xs) (.int i) h Q = ∃ v, atI xs i = some v ∧ Q v h := rfl
theorem x_rl : ixR (.rl xs) (.int i) h Q = ∃ v, atI xs i = some v ∧ Q v h := rfl
theorem x_lst {v : AV} (e : h a = some (.lst xs)) (e2 : atI xs i = some v) (q : Q v h) : ixR (.ref a) (.int i) h Q := .inl ⟨xs, i, v, rfl, e, e2, q⟩
theorem l_len {vs : List AV} : bltR .len vs h Q = one vs fun x => lenR x h Q := rfl
theorem l_abs {vs : List AV} : bltR .abs vs h Q = one vs fun x => absR x h Q := rfl
theorem l_int {vs : List AV} : bltR .int vs h Q = one vs fun x => intR x h Q := rfl
theorem l_tuple {vs : List AV} : bltR .tuple vs h Q = one vs fun x => tupleR x h Q := rfl
theorem l_list {vs : List AV} : bltR .list vs h Q = one vs fun x => listR x h Q := rfl
theorem l_all {vs : List AV} : bltR .all vs h Q = one vs fun x => allR x h Q := rfl
theorem l_any {vs : List AV} : bltR .any vs h Q = one vs fun x => anyR x h Q := rfl
theorem l_sum {vs : List AV} : bltR .sum vs h Q = one vs fun x => sumR x h Q := rfl
theorem l_max {x y : AV} : bltR .max [x, y] h Q = maxR x y h Q := rfl
theorem l_max1 {x : AV} : bltR .max [x] h Q = maxLR x h Q := rfl
theorem l_min {x y : AV} : bltR .min [x, y] h Q = minR x y h Q := rfl
theorem l_min1 {x : AV} : bltR .min [x] h Q = minPR x h Q := rfl
theorem one_i {x : AV} {K : AV → Prop} : one [x] K = K x := rfl
theorem two_i {x y : AV} {K : AV → AV → Prop} : two [x, y] K = K x y := rfl
theorem n_tup : lenR (.tup xs) h Q = Q (.int xs.length) h := rfl
theorem n_rl : lenR (.rl xs) h Q = Q (.int xs.length) h := rfl
theorem n_lst (e : h a = some (.lst xs)) (q : Q (.int xs.length) h) : lenR (.ref a) h Q := .inl ⟨xs, e, q⟩
theorem a_int : absR (.int i) h Q = Q (.int (if i < 0 then -i else i)) h := rfl
theorem i_int : intR (.int i) h Q = Q (.int i) h := rfl
end
theorem at0 {x : AV} {xs : List AV} : atI (x :: xs) 0 = some x := rfl
theorem at1 {x y : AV} {xs : List AV} : atI (x :: y :: xs) 1 = some y := rfl
theorem at2 {x y z : AV} {xs : List AV} : atI (x :: y :: z :: xs) 2 = some z := rfl
theorem at3 {x y z w : AV} {xs : List AV} : atI (x :: y :: z :: w :: xs) 3 = some w := rfl
theorem at4 {x y z w u : AV} {xs : List AV} : atI (x :: y :: z :: w :: u :: xs) 4 = some u := rfl
theorem n_str {s : Str} {h : AH} {Q : AQ} : lenR (.str s) h Q = (s.length ≤ sizeLine ∧ Q (.int s.length) h) := rfl
theorem c_ltS {s t : Str} {h : AH} {R : Bool → Prop} : cmpR .lt (.str s) (.str t) h R = R (decide (s.cps.toList < t.cps.toList)) := rfl
theorem c_inn {x y : AV} {h : AH} {R : Bool → Prop} : cmpR .inn x y h R = inR x y h R := rfl
theorem c_notin {x y : AV} {h : AH} {R : Bool → Prop} : cmpR .notin x y h R = inR x y h fun b => R (!b) := rfl
theorem in_str1 {c : Nat} {z : Str} {h : AH} {R : Bool → Prop} : inR (.str ⟨#[c]⟩) (.str z) h R = R (decide (c ∈ z.cps.toList)) := by
  show (∃ c', (⟨#[c]⟩ : Str) = ⟨#[c']⟩ ∧ R (decide (c' ∈ z.cps.toList))) = _
  apply propext
  constructor
  · rintro ⟨c', e, q⟩
    have : c = c' := by simpa using e
    subst this
    exact q
  · intro q
    exact ⟨c, rfl, q⟩
theorem l_sorted {vs : List AV} {h : AH} {Q : AQ} : bltR .sorted vs h Q = one vs fun x => sortedR x h Q := rfl
theorem l_dict {vs : List AV} {h : AH} {Q : AQ} : bltR .dict vs h Q = one vs fun x => dictR x h Q := rfl
theorem x_str {z : Str} {i : Int} {h : AH} {Q : AQ} : ixR (.str z) (.int i) h Q = (z.length ≤ sizeLine ∧ ∃ c, L2.atI z.cps.toList i = some c ∧ Q (.str ⟨#[c]⟩) h) := rfl
theorem v_str {z : Str} {h : AH} {K : List AV → (AH → Prop) → Prop} : itR (.str z) h K = K (z.cps.toList.map fun c => .str ⟨#[c]⟩) fun _ => True := rfl
theorem i_bl {c : Bool} {h : AH} {Q : AQ} : intR (.bl c) h Q = Q (.int (if c then 1 else 0)) h := rfl
theorem m_app {h : AH} {Q : AQ} {a : Addr} {xs : List AV} {y : AV} (e : h a = some (.lst xs)) (hl : xs.length < sizeLine) (q : Q .non (aupd h a (.lst (xs ++ [y])))) : mthR .append (.ref a) [y] h Q := ⟨xs, e, hl, q⟩
theorem ms_app {h : AH} {a : Addr} {xs : List AV} (e : h a = some (.lst xs)) : mthTy .append (.ref a) h := ⟨xs, e⟩
theorem eq_same {v w : AV} {h : AH} {R : Bool → Prop} (hv : AV.flat 50 v = true) (hw : AV.flat 50 w = true) (nv : ∀ a, v ≠ .ref a) (q : R (AV.eqv v w)) : eqR v w h R := by
  unfold eqR
  split
  · rename_i a b; exact absurd rfl (nv a)
  · exact ⟨hv, hw, q⟩
theorem eq_txt {s : Str} {h : AH} {R : Bool → Prop} (hs : PyData.strOk s = true) (q : R true) : eqR (.str s) (.str s) h R := by
  refine eq_same (by simpa [AV.flat] using hs) (by simpa [AV.flat] using hs) (fun a e => by cases e) ?_
  have : AV.eqv (.str s) (.str s) = true := by simp [AV.eqv]
  rw [this]
  exact q
theorem tu_tup {xs : List AV} {h : AH} {Q : AQ} : tupleR (.tup xs) h Q = Q (.tup xs) h := rfl
theorem tu_lst {a : Addr} {xs : List AV} {h : AH} {Q : AQ} (e : h a = some (.lst xs)) (q : Q (.tup xs) h) : tupleR (.ref a) h Q := ⟨xs, e, q⟩
theorem al_lst {a : Addr} {xs : List AV} {bs : List Bool} {h : AH} {Q : AQ} (e : h a = some (.lst xs)) (eb : bls? xs = some bs) (q : Q (.bl (bs.all id)) h) : allR (.ref a) h Q := ⟨xs, bs, e, eb, q⟩
theorem ms_get {a : Addr} {kvs} {h : AH} (e : h a = some (.dK kvs)) : mthTy .get (.ref a) h := ⟨kvs, e⟩
theorem m_get1 {x k : AV} {h : AH} {Q : AQ} : mthR .get x [k] h Q = getR x k .non h Q := rfl
theorem m_get2 {x k d : AV} {h : AH} {Q : AQ} : mthR .get x [k, d] h Q = getR x k d h Q := rfl
theorem fld_i {a : Addr} {f c : Nat} {fs : List (Nat × AV)} {v : AV} {h : AH} {Q : AQ} (e : h a = some (.ins c fs)) (l : fs.lookup f = some v) (q : Q v h) : fldR (.ref a) f h Q := ⟨c, fs, v, e, l, q⟩
theorem mthF_i {T : Tb} {a : Addr} {m c f : Nat} {fs : List (Nat × AV)} {h : AH} {K : Nat → Prop} (e : h a = some (.ins c fs)) (l : T.mf c m = some f) (q : K f) : mthF T (.ref a) m h K := ⟨c, fs, f, e, l, q⟩
theorem setF_i {a : Addr} {f c : Nat} {fs : List (Nat × AV)} {v : AV} {h : AH} {K : AH → Prop} (e : h a = some (.ins c fs)) (l : fs.length < 1000) (q : K (aupd h a (.ins c (fput f v fs)))) : setF (.ref a) f v h K := ⟨c, fs, e, l, q⟩
theorem dt_str {kvs : List (Str × AV)} {s : Str} {K : Option AV → Prop} : dtR kvs (.str s) K = K (kvs.lookup s) := rfl
theorem idx_i {a : Addr} {y z : AV} {j : Nat} {ys : List AV} {h : AH} {Q : AQ} (e : h a = some (.lst ys)) (fy : y.scal = true) (fys : ys.all AV.scal = true) (ej : ys[j]? = some z) (ez : AV.eqv z y = true) (hno : ∀ (m : Nat) (z' : AV), m < j → ys[m]? = some z' → AV.eqv z' y = false) (q : Q (.int (j : Nat)) h) : mthR .index (.ref a) [y] h Q := ⟨ys, j, z, e, fy, fys, ej, ez, hno, q⟩
theorem ins_i {a : Addr} {y : AV} {i : Int} {xs : List AV} {h : AH} {Q : AQ} (e : h a = some (.lst xs)) (hl : xs.length < sizeLine) (h0 : 0 ≤ i) (h1 : i < 2 ^ 63) (q : Q .non (aupd h a (.lst (xs.take i.toNat ++ [y] ++ xs.drop i.toNat)))) : mthR .insert (.ref a) [.int i, y] h Q := ⟨xs, e, hl, h0, h1, q⟩
theorem get_dK {a : Addr} {k d : AV} {kvs} {k' : Key} {h : AH} {Q : AQ} (e : h a = some (.dK kvs)) (ek : k.toKey = some k') (q : Q ((dget kvs k').getD d) h) : getR (.ref a) k d h Q := ⟨kvs, k', ek, e, q⟩
theorem x_dK {a : Addr} {k v : AV} {kvs} {k' : Key} {h : AH} {Q : AQ} (e : h a = some (.dK kvs)) (ek : k.toKey = some k') (ev : dget kvs k' = some v) (q : Q v h) : ixR (.ref a) k h Q := .inr ⟨kvs, k', v, ek, e, ev, q⟩
theorem s2 : 2 ≤ sizeLine := by decide
theorem zero_le_size : 0 ≤ sizeLine := by decide
theorem sz1 : (1 ≤ sizeLine) = True := by decide
theorem sz3 : (3 ≤ sizeLine) = True := by decide
theorem sz4 : (4 ≤ sizeLine) = True := by decide
theorem sz5 : (5 ≤ sizeLine) = True := by decide
theorem sz6 : (6 ≤ sizeLine) = True := by decide
theorem sz7 : (7 ≤ sizeLine) = True := by decide
theorem sz8 : (8 ≤ sizeLine) = True := by decide
theorem sz9 : (9 ≤ sizeLine) = True := by decide
theorem sz10 : (10 ≤ sizeLine) = True := by decide
theorem sz11 : (11 ≤ sizeLine) = True := by decide
theorem sz12 : (12 ≤ sizeLine) = True := by decide
theorem sz13 : (13 ≤ sizeLine) = True := by decide
theorem sz14 : (14 ≤ sizeLine) = True := by decide
theorem sz15 : (15 ≤ sizeLine) = True := by decide
theorem sz16 : (16 ≤ sizeLine) = True := by decide
theorem sz17 : (17 ≤ sizeLine) = True := by decide
theorem sz18 : (18 ≤ sizeLine) = True := by decide
theorem sz19 : (19 ≤ sizeLine) = True := by decide
theorem sz20 : (20 ≤ sizeLine) = True := by decide
theorem sz21 : (21 ≤ sizeLine) = True := by decide
theorem sz22 : (22 ≤ sizeLine) = True := by decide
theorem sz23 : (23 ≤ sizeLine) = True := by decide
theorem sz24 : (24 ≤ sizeLine) = True := by decide
theorem sz25 : (25 ≤ sizeLine) = True := by decide
theorem sz26 : (26 ≤ sizeLine) = True := by decide
theorem sz27 : (27 ≤ sizeLine) = True := by decide
theorem sz28 : (28 ≤ sizeLine) = True := by decide
theorem sz29 : (29 ≤ sizeLine) = True := by decide
theorem sz30 : (30 ≤ sizeLine) = True := by decide
theorem sz31 : (31 ≤ sizeLine) = True := by decide
theorem sz32 : (32 ≤ sizeLine) = True := by decide
theorem sz33 : (33 ≤ sizeLine) = True := by decide
theorem sz34 : (34 ≤ sizeLine) = True := by decide
theorem sz35 : (35 ≤ sizeLine) = True := by decide
theorem sz36 : (36 ≤ sizeLine) = True := by decide
theorem sz37 : (37 ≤ sizeLine) = True := by decide
theorem sz38 : (38 ≤ sizeLine) = True := by decide
theorem sz39 : (39 ≤ sizeLine) = True := by decide
theorem sz40 : (40 ≤ sizeLine) = True := by decide
theorem len_small {n : Nat} (h : n ≤ 1000000) : n ≤ sizeLine := by
  have : (1000000 : Nat) ≤ sizeLine := by decide
  omega
end PL
open PL
local macro_rules | `(tactic| bv_omega) => `(tactic| try simp only [b_nil', b_cons', aupd_same, aupd_aupd, q_glob, q_non, q_bl, q_int, q_str, q_var, q_tup, q_lst, q_bin, q_neg, q_not, q_cmp, q_chain, q_and, q_or, q_ifx, q_call, q_blt, q_isin, q_idx, q_slc, q_rev, q_mth, q_attr, q_umth, q_new, q_inD, q_ixD, w_sat, dt_str, w_asg, w_slc, w_par, w_par3, w_expr, w_ret, w_retN, w_iff, w_raise, w_tri, w_pass, w_brk, w_cont, wpEs, wpT, wpAnd, wpOr, wpAndV, wpOrV, wpTs, wpI, v_tup, v_rl, sl_rl, sl_tup, g_varR, g_idxR, gs_nilR, gs_consR, wpP, wpH, b_add, b_addT, b_addS, b_sub, b_mul, b_fdiv, b_mod, b_pow, c_eq, c_ne, e_int, e_bl, e_str, c_lt, c_le, c_gt, c_ge, c_isN, c_isnotN, c_isB, c_isnotB, t_non, t_bl, t_int, t_str, t_tup, t_rl, hasTy,
  r_bl, r_non, r_int, r_tup, x_tup, x_rl, l_len, l_abs, l_int, l_tuple, l_list, l_all, l_any, l_sum, l_max, l_max1, l_min, l_min1, l_sorted, l_dict, n_str, c_ltS, c_inn, c_notin, in_str1, x_str, v_str, tu_tup, m_get1, m_get2, one_i, two_i, n_tup, n_rl, a_int, i_int, i_bl, at0, at1, at2, at3, at4,
  astart, List.map, List.length, List.length_cons, List.length_nil, List.replicate, List.cons_append, List.nil_append, Nat.reduceAdd, Nat.reduceSub, List.set_cons_zero, List.set_cons_succ, List.getElem?_cons_zero, List.getElem?_cons_succ, awipe,
  Option.some.injEq, AV.int.injEq, AV.bl.injEq, AV.tup.injEq, AV.str.injEq, AV.ref.injEq, exists_eq_left', exists_eq_left, endF_nx, endF_rt, endF_ex, Bool.not_true, Bool.not_false, if_true, if_false, Bool.true_eq_false, Bool.false_eq_true, reduceIte, reduceCtorEq, List.mem_cons, List.not_mem_nil, or_false, or_true, false_or, true_or, decide_true, decide_false, decide_eq_true_eq, Bool.or_true, Bool.or_false, Bool.true_or, Bool.false_or, false_and, and_false, true_and, and_true, exists_false, ne_eq, not_false_eq_true, not_true_eq_false, beq_self_eq_true, Bool.not_eq_true', decide_eq_false_iff_not, decide_not, Bool.not_not, s2, zero_le_size, sz1, sz3, sz4, sz5, sz6, sz7, sz8, sz9, sz10, sz11, sz12, sz13, sz14, sz15, sz16, sz17, sz18, sz19, sz20, sz21, sz22, sz23, sz24, sz25, sz26, sz27, sz28, sz29, sz30, sz31, sz32, sz33, sz34, sz35, sz36, sz37, sz38, sz39, sz40, Int.reduceEq, Int.reduceLT, Int.reduceLE])
namespace PL
open PySem PySem.Spec PyProof.Rows L2

section
variable {G : Pg} {n : Nat} {T : Tb} {sub : Nat → Nat → Bool} {C : ACall} (hC : CMono C)
include hC
theorem wp_whl {c : CE} {b : CS} {D : AEnds} (I : Nat → AEnv → AH → Prop) {m : Nat} {σ : AEnv} {h : AH} (h0 : I m σ h)
    (step : ∀ m σ h, I m σ h → wpT C T c σ h (fun r h1 => if r = true then wpB C T sub b { D with nx := fun σ' h' => ∃ m', m' < m ∧ I m' σ' h', ct := fun σ' h' => ∃ m', m' < m ∧ I m' σ' h', bk := D.nx } σ h1 else D.nx σ h1) (fun x h' => D.ex x σ h')) : wpS C T sub (.whl c b) D σ h := by
  have key : ∀ k m σ h, m < k → I m σ h → whlL (fun σ h k => wpT C T c σ h k (fun x h' => D.ex x σ h')) (fun nx σ h => wpB C T sub b { D with nx := nx, ct := nx, bk := D.nx } σ h) D.nx k σ h := by
    intro k
    induction k with
    | zero => intro m σ h l; omega
    | succ k ih =>
      intro m σ h l i
      refine wpT_mono hC c (fun r h1 q => ?_) (fun _ _ z => z) (step m σ h i)
      cases r with
      | false => exact q
      | true =>
        simp only [if_true] at q ⊢
        refine wpB_mono hC b ?_ q
        have up : ∀ σ' h', (∃ m', m' < m ∧ I m' σ' h') → Shs (whlL (fun σ h k => wpT C T c σ h k (fun x h' => D.ex x σ h')) (fun nx σ h => wpB C T sub b { D with nx := nx, ct := nx, bk := D.nx } σ h) D.nx k) σ' h' := by
          rintro σ' h' ⟨m', hm, i'⟩
          exact shs_i (ih m' σ' h' (by omega) i')
        exact ⟨up, fun _ _ z => z, fun _ _ z => z, up, fun _ _ _ z => z⟩
  exact ⟨m + 1, key (m + 1) m σ h (Nat.lt_succ_self m) h0⟩
theorem for_go {g : CE} {b : CS} {D : AEnds} {chk : AH → Prop} (I : List AV → AEnv → AH → Prop) (hz : ∀ σ h, I [] σ h → chk h ∧ D.nx σ h)
    (hs : ∀ x xs σ h, I (x :: xs) σ h → chk h ∧ wpG C T g x σ h fun σ2 h2 => wpB C T sub b { D with nx := I xs, ct := I xs, bk := D.nx } σ2 h2) :
    ∀ (xs : List AV) (σ : AEnv) (h : AH), I xs σ h → forL (fun x nx σ h => wpG C T g x σ h (fun σ2 h2 => wpB C T sub b { D with nx := nx, ct := nx, bk := D.nx } σ2 h2)) chk D.nx xs σ h
  | [], σ, h, i => hz σ h i
  | x :: xs, σ, h, i => by
    have q := hs x xs σ h i
    have up : ∀ σ' h', I xs σ' h' → Shs (forL (fun x nx σ h => wpG C T g x σ h (fun σ2 h2 => wpB C T sub b { D with nx := nx, ct := nx, bk := D.nx } σ2 h2)) chk D.nx xs) σ' h' := fun σ' h' i' => shs_i (for_go I hz hs xs σ' h' i')
    exact ⟨q.1, wpG_mono hC g (fun σ2 h2 q2 => by
      refine wpB_mono hC b ?_ q2
      exact ⟨up, fun _ _ z => z, fun _ _ z => z, up, fun _ _ _ z => z⟩) q.2⟩
theorem range_for {g : CE} {b : CS} {D : AEnds} {lo : Int} {σ : AEnv} {h : AH} {m : Nat} (I : Nat → AEnv → AH → Prop) (h0 : I m σ h) (hz : ∀ σ h, I 0 σ h → D.nx σ h)
    (hs : ∀ j σ h, j < m → I (j + 1) σ h → wpG C T g (.int (lo + ((m - (j + 1) : Nat) : Int))) σ h fun σ2 h2 => wpB C T sub b { D with nx := I j, ct := I j, bk := D.nx } σ2 h2) :
    forL (fun x nx σ h => wpG C T g x σ h (fun σ2 h2 => wpB C T sub b { D with nx := nx, ct := nx, bk := D.nx } σ2 h2)) (fun _ => True) D.nx (rangeL lo m) σ h := by
  have key : ∀ j, j ≤ m → ∀ σ h, I j σ h → forL (fun x nx σ h => wpG C T g x σ h (fun σ2 h2 => wpB C T sub b { D with nx := nx, ct := nx, bk := D.nx } σ2 h2)) (fun _ => True) D.nx (rangeL (lo + ((m - j : Nat) : Int)) j) σ h := by
    intro j
    induction j with
    | zero => intro _ σ h i; exact ⟨trivial, hz σ h i⟩
    | succ j ih =>
      intro hj σ h i
      refine ⟨trivial, wpG_mono hC g (fun σ2 h2 q => ?_) (hs j σ h (by omega) i)⟩
      have e : lo + ((m - (j + 1) : Nat) : Int) + 1 = lo + ((m - j : Nat) : Int) := by omega
      rw [e]
      have up : ∀ σ' h', I j σ' h' → Shs (forL (fun x nx σ h => wpG C T g x σ h (fun σ2 h2 => wpB C T sub b { D with nx := nx, ct := nx, bk := D.nx } σ2 h2)) (fun _ => True) D.nx (rangeL (lo + ((m - j : Nat) : Int)) j)) σ' h' := fun σ' h' i' => shs_i (ih (by omega) σ' h' i')
      refine wpB_mono hC b ?_ q
      exact ⟨up, fun _ _ z => z, fun _ _ z => z, up, fun _ _ _ z => z⟩
  have q := key m (Nat.le_refl m) σ h h0
  rw [Nat.sub_self] at q
  simpa using q
theorem for_r1 {g a : CE} {b : CS} {D : AEnds} {σ : AEnv} {h : AH} (q : wpE C T a σ h (fun x h1 => ∃ m : Nat, x = .int m ∧ m < 2 ^ 62 ∧ ∃ I : Nat → AEnv → AH → Prop, I m σ h1 ∧ (∀ σ h, I 0 σ h → D.nx σ h) ∧
      ∀ j σ h, j < m → I (j + 1) σ h → wpG C T g (.int ((m - (j + 1) : Nat) : Int)) σ h fun σ2 h2 => wpB C T sub b { D with nx := I j, ct := I j, bk := D.nx } σ2 h2) (fun x h' => D.ex x σ h')) : wpS C T sub (.forr g (.range1 a) b) D σ h := by
  refine wpE_mono hC a (fun x h1 q => ?_) (fun _ _ z => z) q
  obtain ⟨m, rfl, hm, I, i0, hz, hs⟩ := q
  refine ⟨m, rfl, by omega, by omega, ?_⟩
  refine range_for hC I (lo := 0) i0 hz (fun j σ h hj i => ?_)
  have q := hs j σ h hj i
  rw [Int.zero_add]
  exact q
theorem for_v {g a : CE} {b : CS} {D : AEnds} {σ : AEnv} {h : AH} (q : wpE C T a σ h (fun x h1 => itR x h1 fun xs chk => ∃ I : List AV → AEnv → AH → Prop, I xs σ h1 ∧ (∀ σ h, I [] σ h → chk h ∧ D.nx σ h) ∧
      ∀ x xs σ h, I (x :: xs) σ h → chk h ∧ wpG C T g x σ h fun σ2 h2 => wpB C T sub b { D with nx := I xs, ct := I xs, bk := D.nx } σ2 h2) (fun x h' => D.ex x σ h')) : wpS C T sub (.forr g (.val a) b) D σ h := by
  refine wpE_mono hC a (fun x h1 q => ?_) (fun _ _ z => z) q
  refine itR_mono (fun xs chk q => ?_) q
  obtain ⟨I, i0, hz, hs⟩ := q
  exact for_go hC I hz hs xs σ h1 i0
theorem lc_pure {D : Addr} {own : List Nat} {g ifs elt : CE} {chk fin : AH → Prop} {σ : AEnv} {h : AH} (F : AV → Option AV) (hc : ∀ acc, chk (aupd h D (.lst acc))) :
    ∀ (xs : List AV) (acc : List AV), acc.length + xs.length ≤ sizeLine →
    (∀ x ∈ xs, ∀ acc, wpG C T g x (awipe σ own) (aupd h D (.lst acc)) fun σ2 h2 => wpTs C T ifs σ2 h2 (fun b h3 => if b = true then wpE C T elt σ2 h3 (fun y h4 => F x = some y ∧ ALe (aupd h D (.lst acc)) h4) (fun _ _ => False) else F x = none ∧ ALe (aupd h D (.lst acc)) h3) fun _ _ => False) →
    fin (aupd h D (.lst (acc ++ xs.filterMap F))) →
    lcL D own (fun x σ h k => wpG C T g x σ h k) (fun σ h k => wpTs C T ifs σ h k fun _ _ => False) (fun σ h k => wpE C T elt σ h k fun _ _ => False) chk fin σ xs (aupd h D (.lst acc))
  | [], acc, hl, hs, hf => ⟨hc acc, by simpa using hf⟩
  | x :: xs, acc, hl, hs, hf => by
    refine ⟨hc acc, wpG_mono hC g (fun σ2 h2 q => wpTs_mono hC ifs (fun b h3 q => ?_) (fun _ _ z => z) q) (hs x List.mem_cons_self acc)⟩
    cases b with
    | true =>
      simp only [if_true] at q ⊢
      refine wpE_mono hC elt (fun y h4 q => ?_) (fun _ _ z => z) q
      obtain ⟨q1, q2⟩ := q
      have e4 : h4 D = some (.lst acc) := q2 D _ (by unfold aupd; simp)
      refine ⟨acc, e4, by rw [List.length_cons] at hl; omega, aupd h D (.lst (acc ++ [y])), ?_, ?_⟩
      · intro a o eo
        unfold aupd at eo ⊢
        by_cases ha : a = D
        · simp [ha] at eo ⊢; exact eo
        · simp [ha] at eo ⊢
          exact q2 a o (by unfold aupd; simp [ha]; exact eo)
      · refine lc_pure F hc xs (acc ++ [y]) (by rw [List.length_append]; rw [List.length_cons] at hl; simp; omega) (fun x' hx' => hs x' (List.mem_cons_of_mem _ hx')) ?_
        rw [List.filterMap_cons, q1] at hf
        simpa using hf
    | false =>
      simp only [Bool.false_eq_true, if_false] at q ⊢
      refine ⟨_, q.2, ?_⟩
      refine lc_pure F hc xs acc (by rw [List.length_cons] at hl; omega) (fun x' hx' => hs x' (List.mem_cons_of_mem _ hx')) ?_
      rw [List.filterMap_cons, q.1] at hf
      exact hf
theorem comp_pure {own : List Nat} {g it ifs elt : CE} {σ : AEnv} {h : AH} {Q : AQ} {E : AXQ} (q : wpI C T it σ h (fun xs chk h1 => xs.length ≤ sizeLine ∧ (∀ D acc, h1 D = none → chk (aupd h1 D (.lst acc))) ∧ ∃ F : AV → Option AV,
      (∀ D, h1 D = none → ∀ x ∈ xs, ∀ acc, wpG C T g x (awipe σ own) (aupd h1 D (.lst acc)) fun σ2 h2 => wpTs C T ifs σ2 h2 (fun b h3 => if b = true then wpE C T elt σ2 h3 (fun y h4 => F x = some y ∧ ALe (aupd h1 D (.lst acc)) h4) (fun _ _ => False) else F x = none ∧ ALe (aupd h1 D (.lst acc)) h3) fun _ _ => False) ∧
      ∀ D, h1 D = none → Q (.ref D) (aupd h1 D (.lst (xs.filterMap F)))) E) : wpE C T (.comp own g it ifs elt) σ h Q E := by
  show wpI C T it σ h _ E
  refine wpI_mono hC it (fun xs chk h1 q => ?_) (fun _ _ z => z) q
  obtain ⟨hl, hc, F, hs, hf⟩ := q
  intro D hD
  exact lc_pure hC F (fun acc => hc D acc hD) xs [] (by simpa using hl) (hs D hD) (by simpa using hf D hD)
end
end PL

namespace PL
def c0_is_integer : CS := .cons (.ret (.and (.cons (.isin (.var 0) [.int]) (.cons (.not (.isin (.var 0) [.bool])) .nil)))) .nil
def c1_divisor : CS := .cons (.whl (.cmp .ne (.var 1) (.int 0)) (.cons (.par 0 1 (.var 1) (.bin .mod (.blt .int (.cons (.var 0) .nil)) (.var 1))) .nil)) (.cons (.ret (.var 0)) .nil)
def c2_is_fraction : CS := .cons (.iff (.or (.cons (.not (.tru (.isin (.var 0) [.tuple]))) (.cons (.cmp .ne (.blt .len (.cons (.var 0) .nil)) (.int 2)) (.cons (.not (.tru (.call 0 (.cons (.idx (.var 0) (.int 0)) .nil)))) (.cons (.not (.tru (.call 0 (.cons (.idx (.var 0) (.int 1)) .nil)))) .nil))))) (.cons (.ret (.bl false)) .nil) .nil) (.cons (.ret (.and (.cons (.cmp .gt (.idx (.var 0) (.int 1)) (.int 0)) (.cons (.cmp .eq (.call 1 (.cons (.blt .abs (.cons (.idx (.var 0) (.int 0)) .nil)) (.cons (.idx (.var 0) (.int 1)) .nil))) (.int 1)) .nil)))) .nil)
def c3_made : CS := .cons (.asg (.var 2) (.call 1 (.cons (.blt .abs (.cons (.var 0) .nil)) (.cons (.blt .abs (.cons (.var 1) .nil)) .nil)))) (.cons (.iff (.cmp .lt (.var 1) (.int 0)) (.cons (.asg (.var 2) (.neg (.var 2))) .nil) .nil) (.cons (.ret (.tup (.cons (.bin .fdiv (.var 0) (.var 2)) (.cons (.bin .fdiv (.var 1) (.var 2)) .nil)))) .nil))
def c4_check_fraction : CS := .cons (.iff (.not (.tru (.call 2 (.cons (.var 0) .nil)))) (.cons (.raise 0 .nil) .nil) .nil) .nil
def c17_fraction : CS := .cons (.iff (.or (.cons (.not (.tru (.call 0 (.cons (.var 0) .nil)))) (.cons (.not (.tru (.call 0 (.cons (.var 1) .nil)))) (.cons (.cmp .eq (.var 1) (.int 0)) .nil)))) (.cons (.raise 0 .nil) .nil) .nil) (.cons (.ret (.call 3 (.cons (.var 0) (.cons (.var 1) .nil)))) .nil)
def c5_raw_plus : CS := .cons (.ret (.call 3 (.cons (.bin .add (.bin .mul (.idx (.var 0) (.int 0)) (.idx (.var 1) (.int 1))) (.bin .mul (.idx (.var 1) (.int 0)) (.idx (.var 0) (.int 1)))) (.cons (.bin .mul (.idx (.var 0) (.int 1)) (.idx (.var 1) (.int 1))) .nil)))) .nil
def c6_raw_less : CS := .cons (.ret (.call 3 (.cons (.bin .sub (.bin .mul (.idx (.var 0) (.int 0)) (.idx (.var 1) (.int 1))) (.bin .mul (.idx (.var 1) (.int 0)) (.idx (.var 0) (.int 1)))) (.cons (.bin .mul (.idx (.var 0) (.int 1)) (.idx (.var 1) (.int 1))) .nil)))) .nil
def c7_raw_times : CS := .cons (.ret (.call 3 (.cons (.bin .mul (.idx (.var 0) (.int 0)) (.idx (.var 1) (.int 0))) (.cons (.bin .mul (.idx (.var 0) (.int 1)) (.idx (.var 1) (.int 1))) .nil)))) .nil
def c8_raw_by : CS := .cons (.ret (.call 3 (.cons (.bin .mul (.idx (.var 0) (.int 0)) (.idx (.var 1) (.int 1))) (.cons (.bin .mul (.idx (.var 0) (.int 1)) (.idx (.var 1) (.int 0))) .nil)))) .nil
def c13_plus : CS := .cons (.expr (.call 4 (.cons (.var 0) .nil))) (.cons (.expr (.call 4 (.cons (.var 1) .nil))) (.cons (.ret (.call 5 (.cons (.var 0) (.cons (.var 1) .nil)))) .nil))
def c14_less : CS := .cons (.expr (.call 4 (.cons (.var 0) .nil))) (.cons (.expr (.call 4 (.cons (.var 1) .nil))) (.cons (.ret (.call 6 (.cons (.var 0) (.cons (.var 1) .nil)))) .nil))
def c15_times : CS := .cons (.expr (.call 4 (.cons (.var 0) .nil))) (.cons (.expr (.call 4 (.cons (.var 1) .nil))) (.cons (.ret (.call 7 (.cons (.var 0) (.cons (.var 1) .nil)))) .nil))
def c16_by : CS := .cons (.expr (.call 4 (.cons (.var 0) .nil))) (.cons (.expr (.call 4 (.cons (.var 1) .nil))) (.cons (.iff (.cmp .eq (.idx (.var 1) (.int 0)) (.int 0)) (.cons (.raise 1 .nil) .nil) .nil) (.cons (.ret (.call 8 (.cons (.var 0) (.cons (.var 1) .nil)))) .nil)))
def c20_law_hand : CS := .cons (.slc 1 (.comp [2] (.var 2) (.val (.slc (.var 0) .nil (.cons (.int 63) .nil))) .nil (.blt .abs (.cons (.blt .int (.cons (.var 2) .nil)) .nil)))) (.cons (.ret (.lst (.cons (.var 1) (.cons (.int 0) (.cons (.int 0) (.cons (.bin .add (.int 83) (.bin .mul (.int 7) (.blt .len (.cons (.var 1) .nil)))) (.cons (.int 0) .nil))))))) .nil)
def c10_law_draw : CS := .cons (.iff (.and (.cons (.cmp .eq (.idx (.var 0) (.int 2)) (.int 0)) (.cons (.cmp .lt (.idx (.var 0) (.int 1)) (.blt .len (.cons (.idx (.var 0) (.int 0)) .nil))) .nil))) (.cons (.asg (.var 2) (.idx (.idx (.var 0) (.int 0)) (.idx (.var 0) (.int 1)))) (.cons (.asg (.idx (.var 0) (.int 1)) (.bin .add (.idx (.var 0) (.int 1)) (.int 1))) (.cons (.asg (.idx (.var 0) (.int 3)) (.bin .mod (.blt .int (.cons (.bin .add (.bin .add (.bin .mul (.idx (.var 0) (.int 3)) (.int 69621)) (.var 2)) (.int 29)) .nil)) (.int 2147483629))) (.cons (.iff (.cmp .ge (.var 2) (.bin .pow (.int 10) (.int 18))) (.cons (.asg (.idx (.var 0) (.int 2)) (.var 2)) .nil) .nil) .nil)))) .nil) (.cons (.iff (.cmp .gt (.idx (.var 0) (.int 2)) (.int 0)) (.cons (.asg (.var 3) (.bin .mod (.blt .int (.cons (.idx (.var 0) (.int 2)) .nil)) (.var 1))) (.cons (.asg (.idx (.var 0) (.int 2)) (.bin .fdiv (.idx (.var 0) (.int 2)) (.var 1))) (.cons (.ret (.var 3)) .nil))) .nil) (.cons (.asg (.idx (.var 0) (.int 4)) (.bin .add (.idx (.var 0) (.int 4)) (.int 1))) (.cons (.asg (.var 4) (.bin .mod (.blt .int (.cons (.bin .mul (.blt .int (.cons (.bin .add (.idx (.var 0) (.int 3)) (.bin .mul (.int 7919) (.idx (.var 0) (.int 4)))) .nil)) (.int 48271)) .nil)) (.int 2147483647))) (.cons (.asg (.var 4) (.bin .mod (.blt .int (.cons (.bin .mul (.var 4) (.bin .add (.bin .fdiv (.var 4) (.int 1009)) (.int 69621))) .nil)) (.int 2147483647))) (.cons (.asg (.var 4) (.bin .mod (.blt .int (.cons (.bin .mul (.var 4) (.bin .add (.bin .fdiv (.var 4) (.int 2003)) (.int 40692))) .nil)) (.int 2147483399))) (.cons (.ret (.bin .mod (.blt .int (.cons (.bin .fdiv (.var 4) (.int 16)) .nil)) (.var 1))) .nil))))))
def c9_law_is : CS := .cons (.iff (.tru (.isin (.var 1) [.tuple, .list])) (.cons (.iff (.cmp .ne (.isin (.var 0) [.tuple]) (.isin (.var 1) [.tuple])) (.cons (.ret (.bl false)) .nil) .nil) (.cons (.iff (.or (.cons (.cmp .ne (.isin (.var 0) [.list]) (.isin (.var 1) [.list])) (.cons (.cmp .ne (.blt .len (.cons (.var 0) .nil)) (.blt .len (.cons (.var 1) .nil))) .nil))) (.cons (.ret (.bl false)) .nil) .nil) (.cons (.ret (.blt .all (.cons (.comp [2, 3] (.tup (.cons (.var 2) (.cons (.var 3) .nil))) (.zip (.var 0) (.var 1)) .nil (.call 9 (.cons (.var 2) (.cons (.var 3) .nil)))) .nil))) .nil))) .nil) (.cons (.iff (.or (.cons (.cmp .is (.var 1) .non) (.cons (.cmp .is (.var 0) .non) .nil))) (.cons (.ret (.and (.cons (.cmp .is (.var 1) .non) (.cons (.cmp .is (.var 0) .non) .nil)))) .nil) .nil) (.cons (.iff (.cmp .ne (.isin (.var 0) [.bool]) (.isin (.var 1) [.bool])) (.cons (.ret (.bl false)) .nil) .nil) (.cons (.ret (.and (.cons (.cmp .eq (.isin (.var 0) [.str]) (.isin (.var 1) [.str])) (.cons (.cmp .eq (.var 0) (.var 1)) .nil)))) .nil)))
def c11_law_low : CS := .cons (.asg (.var 2) (.blt .abs (.cons (.var 0) .nil))) (.cons (.asg (.var 3) (.blt .abs (.cons (.var 1) .nil))) (.cons (.whl (.cmp .gt (.var 3) (.int 0)) (.cons (.asg (.var 4) (.bin .mod (.blt .int (.cons (.var 2) .nil)) (.var 3))) (.cons (.asg (.var 2) (.var 3)) (.cons (.asg (.var 3) (.var 4)) .nil)))) (.cons (.iff (.cmp .lt (.var 1) (.int 0)) (.cons (.asg (.var 2) (.bin .sub (.int 0) (.var 2))) .nil) .nil) (.cons (.ret (.tup (.cons (.bin .fdiv (.var 0) (.var 2)) (.cons (.bin .fdiv (.var 1) (.var 2)) .nil)))) .nil))))
def c12_law_great : CS := .cons (.asg (.var 2) (.int 0)) (.cons (.forr (.var 3) (.range1 (.bin .add (.int 1) (.call 10 (.cons (.var 0) (.cons (.var 1) .nil))))) (.cons (.asg (.var 2) (.bin .add (.bin .mul (.var 2) (.int 10)) (.call 10 (.cons (.var 0) (.cons (.int 10) .nil))))) .nil)) (.cons (.ret (.bin .mul (.var 2) (.idx (.lst (.cons (.int 1) (.cons (.bin .sub (.int 0) (.int 1)) .nil))) (.call 10 (.cons (.var 0) (.cons (.int 2) .nil)))))) .nil))
def c21_law_share : CS := .cons (.ret (.call 11 (.cons (.call 12 (.cons (.var 0) (.cons (.var 1) .nil))) (.cons (.bin .add (.int 1) (.blt .abs (.cons (.call 12 (.cons (.var 0) (.cons (.var 1) .nil))) .nil))) .nil)))) .nil
def c26_is_within : CS := .cons (.ret (.and (.cons (.call 0 (.cons (.var 0) .nil)) (.cons (.chain .le .le (.var 1) (.var 0) (.var 2)) .nil)))) .nil
def c24_raw_at_most : CS := .cons (.ret (.cmp .le (.bin .mul (.idx (.var 0) (.int 0)) (.idx (.var 1) (.int 1))) (.bin .mul (.idx (.var 1) (.int 0)) (.idx (.var 0) (.int 1))))) .nil
def c28_at_most : CS := .cons (.expr (.call 4 (.cons (.var 0) .nil))) (.cons (.expr (.call 4 (.cons (.var 1) .nil))) (.cons (.ret (.call 24 (.cons (.var 0) (.cons (.var 1) .nil)))) .nil))
def c25_raw_power : CS := .cons (.iff (.cmp .lt (.var 1) (.int 0)) (.cons (.ret (.call 25 (.cons (.call 8 (.cons (.glob 4) (.cons (.var 0) .nil))) (.cons (.neg (.var 1)) .nil)))) .nil) .nil) (.cons (.par3 2 3 4 (.glob 4) (.var 1) (.var 0)) (.cons (.whl (.cmp .gt (.var 3) (.int 0)) (.cons (.iff (.cmp .eq (.bin .mod (.blt .int (.cons (.var 3) .nil)) (.int 2)) (.int 1)) (.cons (.asg (.var 2) (.call 7 (.cons (.var 2) (.cons (.var 4) .nil)))) .nil) .nil) (.cons (.asg (.var 3) (.bin .fdiv (.var 3) (.int 2))) (.cons (.asg (.var 4) (.ifx (.cmp .gt (.var 3) (.int 0)) (.call 7 (.cons (.var 4) (.cons (.var 4) .nil))) (.var 4))) .nil)))) (.cons (.ret (.var 2)) .nil)))
def c27_power_of : CS := .cons (.expr (.call 4 (.cons (.var 0) .nil))) (.cons (.iff (.not (.tru (.call 26 (.cons (.var 1) (.cons (.neg (.int 100)) (.cons (.int 100) .nil)))))) (.cons (.raise 2 .nil) .nil) .nil) (.cons (.iff (.and (.cons (.cmp .eq (.idx (.var 0) (.int 0)) (.int 0)) (.cons (.cmp .lt (.var 1) (.int 0)) .nil))) (.cons (.raise 1 .nil) .nil) .nil) (.cons (.ret (.call 25 (.cons (.var 0) (.cons (.var 1) .nil)))) .nil)))
def c34_is_name : CS := .cons (.ret (.and (.cons (.isin (.var 0) [.str]) (.cons (.chain .le .le (.int 1) (.blt .len (.cons (.var 0) .nil)) (.glob 0)) (.cons (.blt .all (.cons (.comp [1] (.var 1) (.val (.var 0)) .nil (.cmp .inn (.var 1) (.glob 1))) .nil)) .nil))))) .nil
def c35_are_named_pairs : CS := .cons (.iff (.not (.tru (.isin (.var 0) [.tuple]))) (.cons (.ret (.bl false)) .nil) .nil) (.cons (.iff (.not (.tru (.blt .all (.cons (.comp [2] (.var 2) (.val (.var 0)) .nil (.and (.cons (.isin (.var 2) [.tuple]) (.cons (.cmp .eq (.blt .len (.cons (.var 2) .nil)) (.int 2)) (.cons (.call 34 (.cons (.idx (.var 2) (.int 0)) .nil)) .nil))))) .nil)))) (.cons (.ret (.bl false)) .nil) .nil) (.cons (.ret (.blt .all (.cons (.comp [1] (.var 1) (.range1 (.bin .sub (.blt .len (.cons (.var 0) .nil)) (.int 1))) .nil (.cmp .lt (.idx (.idx (.var 0) (.var 1)) (.int 0)) (.idx (.idx (.var 0) (.bin .add (.var 1) (.int 1))) (.int 0)))) .nil))) .nil))
def c36_is_dimension : CS := .cons (.ret (.and (.cons (.call 35 (.cons (.var 0) .nil)) (.cons (.blt .all (.cons (.comp [1, 2] (.tup (.cons (.var 1) (.cons (.var 2) .nil))) (.val (.var 0)) .nil (.and (.cons (.call 0 (.cons (.var 2) .nil)) (.cons (.cmp .ne (.var 2) (.int 0)) .nil)))) .nil)) .nil)))) .nil
def c37_check_dimension : CS := .cons (.iff (.not (.tru (.call 36 (.cons (.var 0) .nil)))) (.cons (.raise 3 .nil) .nil) .nil) .nil
def c38_raw_together : CS := .cons (.asg (.var 3) (.blt .dict (.cons (.var 0) .nil))) (.cons (.forr (.tup (.cons (.var 4) (.cons (.var 5) .nil))) (.val (.var 1)) (.cons (.asg (.idx (.var 3) (.var 4)) (.bin .add (.mth .get (.var 3) (.cons (.var 4) (.cons (.int 0) .nil))) (.bin .mul (.var 2) (.var 5)))) .nil)) (.cons (.ret (.blt .tuple (.cons (.comp [4] (.var 4) (.val (.blt .sorted (.cons (.var 3) .nil))) (.cons (.cmp .ne (.idx (.var 3) (.var 4)) (.int 0)) .nil) (.tup (.cons (.var 4) (.cons (.idx (.var 3) (.var 4)) .nil)))) .nil))) .nil))
def c42_together : CS := .cons (.expr (.call 37 (.cons (.var 0) .nil))) (.cons (.expr (.call 37 (.cons (.var 1) .nil))) (.cons (.ret (.call 38 (.cons (.var 0) (.cons (.var 1) (.cons (.int 1) .nil))))) .nil))
def c43_apart : CS := .cons (.expr (.call 37 (.cons (.var 0) .nil))) (.cons (.expr (.call 37 (.cons (.var 1) .nil))) (.cons (.ret (.call 38 (.cons (.var 0) (.cons (.var 1) (.cons (.neg (.int 1)) .nil))))) .nil))
def c39_raw_raised : CS := .cons (.ret (.blt .tuple (.cons (.comp [2, 3] (.tup (.cons (.var 2) (.cons (.var 3) .nil))) (.val (.var 0)) (.cons (.cmp .ne (.var 1) (.int 0)) .nil) (.tup (.cons (.var 2) (.cons (.bin .mul (.var 3) (.var 1)) .nil)))) .nil))) .nil
def c44_raised : CS := .cons (.expr (.call 37 (.cons (.var 0) .nil))) (.cons (.iff (.not (.tru (.call 26 (.cons (.var 1) (.cons (.neg (.glob 2)) (.cons (.glob 2) .nil)))))) (.cons (.raise 2 .nil) .nil) .nil) (.cons (.ret (.call 39 (.cons (.var 0) (.cons (.var 1) .nil)))) .nil))
def c40_are_dimensions : CS := .cons (.ret (.and (.cons (.isin (.var 0) [.tuple]) (.cons (.blt .all (.cons (.comp [1] (.var 1) (.val (.var 0)) .nil (.call 36 (.cons (.var 1) .nil))) .nil)) .nil)))) .nil
def c41_raw_bases : CS := .cons (.asg (.var 1) .dct0) (.cons (.forr (.var 2) (.val (.var 0)) (.cons (.forr (.tup (.cons (.var 3) (.cons (.var 4) .nil))) (.val (.var 2)) (.cons (.asg (.idx (.var 1) (.var 3)) (.bl true)) .nil)) .nil)) (.cons (.ret (.blt .sorted (.cons (.var 1) .nil))) .nil))
def c45_bases_of : CS := .cons (.iff (.not (.tru (.call 40 (.cons (.var 0) .nil)))) (.cons (.raise 4 .nil) .nil) .nil) (.cons (.ret (.blt .tuple (.cons (.call 41 (.cons (.var 0) .nil)) .nil))) .nil)
def c48_law_names : CS := .cons (.asg (.var 2) (.str "abcdefghijklmnopqrstuvwxyz")) (.cons (.asg (.var 3) .dct0) (.cons (.forr (.var 4) (.range1 (.var 1)) (.cons (.asg (.var 5) (.idx (.var 2) (.call 10 (.cons (.var 0) (.cons (.int 26) .nil))))) (.cons (.forr (.var 4) (.range1 (.call 10 (.cons (.var 0) (.cons (.int 8) .nil)))) (.cons (.asg (.var 5) (.bin .add (.var 5) (.idx (.var 2) (.call 10 (.cons (.var 0) (.cons (.int 26) .nil)))))) .nil)) (.cons (.asg (.idx (.var 3) (.var 5)) (.bl true)) .nil)))) (.cons (.ret (.blt .sorted (.cons (.var 3) .nil))) .nil)))
def c49_law_size : CS := .cons (.asg (.var 3) (.lst .nil)) (.cons (.forr (.var 4) (.val (.var 1)) (.cons (.iff (.cmp .eq (.call 10 (.cons (.var 0) (.cons (.int 2) .nil))) (.int 0)) (.cons (.asg (.var 5) (.bin .sub (.call 10 (.cons (.var 0) (.cons (.bin .mul (.int 2) (.var 2)) .nil))) (.var 2))) (.cons (.expr (.mth .append (.var 3) (.cons (.tup (.cons (.var 4) (.cons (.bin .add (.var 5) (.blt .int (.cons (.cmp .ge (.var 5) (.int 0)) .nil))) .nil))) .nil))) .nil)) .nil) .nil)) (.cons (.ret (.blt .tuple (.cons (.var 3) .nil))) .nil))
def c46_law_added : CS := .cons (.asg (.var 3) (.blt .dict (.cons (.var 0) .nil))) (.cons (.forr (.tup (.cons (.var 4) (.cons (.var 5) .nil))) (.val (.var 1)) (.cons (.asg (.idx (.var 3) (.var 4)) (.bin .add (.mth .get (.var 3) (.cons (.var 4) (.cons (.int 0) .nil))) (.bin .mul (.var 2) (.var 5)))) .nil)) (.cons (.ret (.blt .tuple (.cons (.comp [4] (.var 4) (.val (.blt .sorted (.cons (.var 3) .nil))) (.cons (.cmp .ne (.idx (.var 3) (.var 4)) (.int 0)) .nil) (.tup (.cons (.var 4) (.cons (.idx (.var 3) (.var 4)) .nil)))) .nil))) .nil))
def c63_are_weights : CS := .cons (.ret (.and (.cons (.call 35 (.cons (.var 0) .nil)) (.cons (.blt .all (.cons (.comp [1, 2] (.tup (.cons (.var 1) (.cons (.var 2) .nil))) (.val (.var 0)) .nil (.and (.cons (.call 2 (.cons (.var 2) .nil)) (.cons (.cmp .ne (.idx (.var 2) (.int 0)) (.int 0)) .nil)))) .nil)) .nil)))) .nil
def c64_raw_weighs : CS := .cons (.par 2 3 (.blt .dict (.cons (.var 0) .nil)) (.glob 5)) (.cons (.forr (.tup (.cons (.var 4) (.cons (.var 5) .nil))) (.val (.var 1)) (.cons (.asg (.var 3) (.call 5 (.cons (.var 3) (.cons (.call 7 (.cons (.mth .get (.var 2) (.cons (.var 4) (.cons (.glob 5) .nil))) (.cons (.tup (.cons (.var 5) (.cons (.int 1) .nil))) .nil))) .nil)))) .nil)) (.cons (.ret (.var 3)) .nil))
def c65_weighs : CS := .cons (.iff (.not (.tru (.call 63 (.cons (.var 0) .nil)))) (.cons (.raise 6 .nil) .nil) .nil) (.cons (.expr (.call 37 (.cons (.var 1) .nil))) (.cons (.ret (.call 64 (.cons (.var 0) (.cons (.var 1) .nil)))) .nil))
def c67_law_weighed : CS := .cons (.asg (.var 2) (.blt .dict (.cons (.var 0) .nil))) (.cons (.asg (.var 3) (.tup (.cons (.int 0) (.cons (.int 1) .nil)))) (.cons (.forr (.tup (.cons (.var 4) (.cons (.var 5) .nil))) (.val (.var 1)) (.cons (.asg (.var 6) (.mth .get (.var 2) (.cons (.var 4) (.cons (.tup (.cons (.int 0) (.cons (.int 1) .nil))) .nil)))) (.cons (.asg (.var 3) (.call 11 (.cons (.bin .add (.bin .mul (.idx (.var 3) (.int 0)) (.idx (.var 6) (.int 1))) (.bin .mul (.bin .mul (.var 5) (.idx (.var 6) (.int 0))) (.idx (.var 3) (.int 1)))) (.cons (.bin .mul (.idx (.var 3) (.int 1)) (.idx (.var 6) (.int 1))) .nil)))) .nil))) (.cons (.ret (.var 3)) .nil)))
def c53_is_scale : CS := .cons (.ret (.and (.cons (.call 35 (.cons (.var 0) .nil)) (.cons (.blt .all (.cons (.comp [1, 2] (.tup (.cons (.var 1) (.cons (.var 2) .nil))) (.val (.var 0)) .nil (.and (.cons (.call 2 (.cons (.var 2) .nil)) (.cons (.cmp .gt (.idx (.var 2) (.int 0)) (.int 0)) .nil)))) .nil)) .nil)))) .nil
def c54_check_scale : CS := .cons (.iff (.not (.tru (.call 53 (.cons (.var 0) .nil)))) (.cons (.raise 5 .nil) .nil) .nil) .nil
def c55_raw_scaled : CS := .cons (.par 2 3 (.blt .dict (.cons (.var 0) .nil)) (.glob 4)) (.cons (.forr (.tup (.cons (.var 4) (.cons (.var 5) .nil))) (.val (.var 1)) (.cons (.asg (.var 3) (.call 7 (.cons (.var 3) (.cons (.call 25 (.cons (.mth .get (.var 2) (.cons (.var 4) (.cons (.glob 4) .nil))) (.cons (.var 5) .nil))) .nil)))) .nil)) (.cons (.ret (.var 3)) .nil))
def c56_scaled : CS := .cons (.expr (.call 54 (.cons (.var 0) .nil))) (.cons (.expr (.call 37 (.cons (.var 1) .nil))) (.cons (.iff (.not (.tru (.blt .all (.cons (.comp [2, 3] (.tup (.cons (.var 2) (.cons (.var 3) .nil))) (.val (.var 1)) .nil (.call 26 (.cons (.var 3) (.cons (.neg (.glob 3)) (.cons (.glob 3) .nil))))) .nil)))) (.cons (.raise 2 .nil) .nil) .nil) (.cons (.ret (.call 55 (.cons (.var 0) (.cons (.var 1) .nil)))) .nil)))
def c94_is_plain_dimension : CS := .cons (.iff (.or (.cons (.not (.tru (.call 36 (.cons (.var 0) .nil)))) (.cons (.cmp .gt (.blt .len (.cons (.var 0) .nil)) (.glob 7)) .nil))) (.cons (.ret (.bl false)) .nil) .nil) (.cons (.ret (.blt .all (.cons (.comp [1, 2] (.tup (.cons (.var 1) (.cons (.var 2) .nil))) (.val (.var 0)) .nil (.call 26 (.cons (.var 2) (.cons (.neg (.glob 8)) (.cons (.glob 8) .nil))))) .nil))) .nil)
def c145_is_told_unit : CS := .cons (.iff (.or (.cons (.not (.tru (.isin (.var 0) [.tuple]))) (.cons (.cmp .ne (.blt .len (.cons (.var 0) .nil)) (.int 2)) .nil))) (.cons (.ret (.bl false)) .nil) .nil) (.cons (.ret (.and (.cons (.call 2 (.cons (.idx (.var 0) (.int 0)) .nil)) (.cons (.cmp .gt (.idx (.idx (.var 0) (.int 0)) (.int 0)) (.int 0)) (.cons (.call 94 (.cons (.idx (.var 0) (.int 1)) .nil)) .nil))))) .nil)
def c146_is_system : CS := .cons (.iff (.or (.cons (.not (.tru (.call 35 (.cons (.var 0) .nil)))) (.cons (.not (.chain .le .le (.int 1) (.blt .len (.cons (.var 0) .nil)) (.glob 19))) .nil))) (.cons (.ret (.bl false)) .nil) .nil) (.cons (.ret (.blt .all (.cons (.comp [1, 2] (.tup (.cons (.var 1) (.cons (.var 2) .nil))) (.val (.var 0)) .nil (.call 145 (.cons (.var 2) .nil))) .nil))) .nil)
def c147_check_system : CS := .cons (.iff (.not (.tru (.call 146 (.cons (.var 0) .nil)))) (.cons (.raise 11 .nil) .nil) .nil) .nil
def c148_raw_are_units : CS := .cons (.iff (.not (.tru (.call 35 (.cons (.var 1) .nil)))) (.cons (.ret (.bl false)) .nil) .nil) (.cons (.asg (.var 2) (.blt .dict (.cons (.var 0) .nil))) (.cons (.ret (.blt .all (.cons (.comp [3, 4] (.tup (.cons (.var 3) (.cons (.var 4) .nil))) (.val (.var 1)) .nil (.and (.cons (.cmp .inn (.var 3) (.var 2)) (.cons (.call 26 (.cons (.var 4) (.cons (.neg (.glob 8)) (.cons (.glob 8) .nil)))) (.cons (.cmp .ne (.var 4) (.int 0)) .nil))))) .nil))) .nil))
def c154_are_units : CS := .cons (.expr (.call 147 (.cons (.var 0) .nil))) (.cons (.ret (.call 148 (.cons (.var 0) (.cons (.var 1) .nil)))) .nil)
def c149_check_units : CS := .cons (.iff (.not (.tru (.call 148 (.cons (.var 0) (.cons (.var 1) .nil))))) (.cons (.raise 12 .nil) .nil) .nil) .nil
def c150_raw_factor : CS := .cons (.par 2 3 (.blt .dict (.cons (.var 0) .nil)) (.glob 4)) (.cons (.forr (.tup (.cons (.var 4) (.cons (.var 5) .nil))) (.val (.var 1)) (.cons (.asg (.var 3) (.call 7 (.cons (.var 3) (.cons (.call 25 (.cons (.idx (.idx (.var 2) (.var 4)) (.int 0)) (.cons (.var 5) .nil))) .nil)))) .nil)) (.cons (.ret (.var 3)) .nil))
def c151_raw_dimension : CS := .cons (.par 2 3 (.blt .dict (.cons (.var 0) .nil)) (.tup .nil)) (.cons (.forr (.tup (.cons (.var 4) (.cons (.var 5) .nil))) (.val (.var 1)) (.cons (.asg (.var 3) (.call 38 (.cons (.var 3) (.cons (.call 39 (.cons (.idx (.idx (.var 2) (.var 4)) (.int 1)) (.cons (.var 5) .nil))) (.cons (.int 1) .nil))))) .nil)) (.cons (.ret (.var 3)) .nil))
def c152_factor_of : CS := .cons (.expr (.call 147 (.cons (.var 0) .nil))) (.cons (.expr (.call 149 (.cons (.var 0) (.cons (.var 1) .nil)))) (.cons (.ret (.call 150 (.cons (.var 0) (.cons (.var 1) .nil)))) .nil))
def c153_dimension_in : CS := .cons (.expr (.call 147 (.cons (.var 0) .nil))) (.cons (.expr (.call 149 (.cons (.var 0) (.cons (.var 1) .nil)))) (.cons (.ret (.call 151 (.cons (.var 0) (.cons (.var 1) .nil)))) .nil))
def c155_law_system : CS := .cons (.asg (.var 2) (.lst .nil)) (.cons (.forr (.var 3) (.val (.call 48 (.cons (.var 0) (.cons (.bin .add (.int 1) (.call 10 (.cons (.var 0) (.cons (.int 8) .nil)))) .nil)))) (.cons (.asg (.var 4) (.call 11 (.cons (.bin .add (.int 1) (.call 10 (.cons (.var 0) (.cons (.int 9999) .nil)))) (.cons (.bin .add (.int 1) (.call 10 (.cons (.var 0) (.cons (.int 999) .nil)))) .nil)))) (.cons (.expr (.mth .append (.var 2) (.cons (.tup (.cons (.var 3) (.cons (.tup (.cons (.var 4) (.cons (.call 49 (.cons (.var 0) (.cons (.var 1) (.cons (.int 3) .nil)))) .nil))) .nil))) .nil))) .nil))) (.cons (.ret (.blt .tuple (.cons (.var 2) .nil))) .nil))
def c156_law_units : CS := .cons (.asg (.var 3) (.lst .nil)) (.cons (.forr (.tup (.cons (.var 4) (.cons (.var 5) .nil))) (.val (.var 1)) (.cons (.iff (.and (.cons (.cmp .eq (.call 10 (.cons (.var 0) (.cons (.int 2) .nil))) (.int 0)) (.cons (.cmp .lt (.blt .len (.cons (.var 3) .nil)) (.var 2)) .nil))) (.cons (.asg (.var 6) (.bin .sub (.call 10 (.cons (.var 0) (.cons (.int 6) .nil))) (.int 3))) (.cons (.expr (.mth .append (.var 3) (.cons (.tup (.cons (.var 4) (.cons (.bin .add (.var 6) (.blt .int (.cons (.cmp .ge (.var 6) (.int 0)) .nil))) .nil))) .nil))) .nil)) .nil) .nil)) (.cons (.ret (.blt .tuple (.cons (.var 3) .nil))) .nil))
def c157_law_factor : CS := .cons (.asg (.var 2) (.blt .dict (.cons (.var 0) .nil))) (.cons (.asg (.var 3) (.int 1)) (.cons (.asg (.var 4) (.int 1)) (.cons (.forr (.tup (.cons (.var 5) (.cons (.var 6) .nil))) (.val (.var 1)) (.cons (.asg (.var 7) (.idx (.idx (.var 2) (.var 5)) (.int 0))) (.cons (.forr (.var 8) (.range1 (.blt .abs (.cons (.var 6) .nil))) (.cons (.asg (.var 3) (.bin .mul (.var 3) (.idx (.var 7) (.blt .int (.cons (.cmp .lt (.var 6) (.int 0)) .nil))))) (.cons (.asg (.var 4) (.bin .mul (.var 4) (.idx (.var 7) (.blt .int (.cons (.cmp .gt (.var 6) (.int 0)) .nil))))) .nil))) .nil))) (.cons (.ret (.call 11 (.cons (.var 3) (.cons (.var 4) .nil)))) .nil))))
def c158_law_dimension : CS := .cons (.asg (.var 2) (.blt .dict (.cons (.var 0) .nil))) (.cons (.asg (.var 3) (.tup .nil)) (.cons (.forr (.tup (.cons (.var 4) (.cons (.var 5) .nil))) (.val (.var 1)) (.cons (.asg (.var 3) (.call 46 (.cons (.var 3) (.cons (.idx (.idx (.var 2) (.var 4)) (.int 1)) (.cons (.var 5) .nil))))) .nil)) (.cons (.ret (.var 3)) .nil)))
def c96_check_dimensions : CS := .cons (.iff (.or (.cons (.not (.tru (.isin (.var 0) [.tuple]))) (.cons (.not (.chain .le .le (.int 1) (.blt .len (.cons (.var 0) .nil)) (.glob 9))) .nil))) (.cons (.raise 4 .nil) .nil) .nil) (.cons (.iff (.not (.tru (.blt .all (.cons (.comp [1] (.var 1) (.val (.var 0)) .nil (.call 94 (.cons (.var 1) .nil))) .nil)))) (.cons (.raise 4 .nil) .nil) .nil) .nil)
def c97_are_exponents : CS := .cons (.ret (.and (.cons (.isin (.var 1) [.tuple]) (.cons (.cmp .eq (.blt .len (.cons (.var 1) .nil)) (.blt .len (.cons (.var 0) .nil))) (.cons (.blt .all (.cons (.comp [2] (.var 2) (.val (.var 1)) .nil (.call 0 (.cons (.var 2) .nil))) .nil)) .nil))))) .nil
def c95_matrix_of : CS := .cons (.asg (.var 1) (.call 41 (.cons (.var 0) .nil))) (.cons (.ret (.comp [2] (.var 2) (.val (.var 0)) .nil (.comp [3] (.var 3) (.val (.var 1)) .nil (.mth .get (.blt .dict (.cons (.var 2) .nil)) (.cons (.var 3) (.cons (.int 0) .nil)))))) .nil)
def c98_raw_is_pure : CS := .cons (.asg (.var 2) (.call 95 (.cons (.var 0) .nil))) (.cons (.ret (.blt .all (.cons (.comp [3] (.var 3) (.range1 (.blt .len (.cons (.idx (.var 2) (.int 0)) .nil))) .nil (.cmp .eq (.blt .sum (.cons (.comp [4, 5] (.tup (.cons (.var 4) (.cons (.var 5) .nil))) (.zip (.var 2) (.var 1)) .nil (.bin .mul (.idx (.var 4) (.var 3)) (.var 5))) .nil)) (.int 0))) .nil))) .nil)
def c104_is_pure : CS := .cons (.expr (.call 96 (.cons (.var 0) .nil))) (.cons (.ret (.and (.cons (.call 97 (.cons (.var 0) (.cons (.var 1) .nil))) (.cons (.call 98 (.cons (.var 0) (.cons (.var 1) .nil))) .nil)))) .nil)
def c99_less_times : CS := .cons (.ret (.comp [3, 4] (.tup (.cons (.var 3) (.cons (.var 4) .nil))) (.zip (.var 0) (.var 2)) .nil (.bin .sub (.var 3) (.bin .mul (.var 1) (.var 4))))) .nil
def c100_echelon : CS := .cons (.asg (.tup (.cons (.var 0) (.cons (.var 2) .nil))) (.tup (.cons (.comp [7] (.var 7) (.val (.var 0)) .nil (.blt .list (.cons (.var 7) .nil))) (.cons (.int 0) .nil)))) (.cons (.forr (.var 3) (.range1 (.var 1)) (.cons (.whl (.tru (.bl true)) (.cons (.slc 4 (.comp [6] (.var 6) (.range2 (.var 2) (.blt .len (.cons (.var 0) .nil))) (.cons (.cmp .ne (.idx (.idx (.var 0) (.var 6)) (.var 3)) (.int 0)) .nil) (.var 6))) (.cons (.iff (.cmp .eq (.blt .len (.cons (.var 4) .nil)) (.int 0)) (.cons .brk .nil) .nil) (.cons (.asg (.var 5) (.idx (.blt .min (.cons (.comp [6] (.var 6) (.val (.var 4)) .nil (.tup (.cons (.blt .abs (.cons (.idx (.idx (.var 0) (.var 6)) (.var 3)) .nil)) (.cons (.var 6) .nil)))) .nil)) (.int 1))) (.cons (.asg (.tup (.cons (.idx (.var 0) (.var 2)) (.cons (.idx (.var 0) (.var 5)) .nil))) (.tup (.cons (.idx (.var 0) (.var 5)) (.cons (.idx (.var 0) (.var 2)) .nil)))) (.cons (.iff (.cmp .eq (.blt .len (.cons (.var 4) .nil)) (.int 1)) (.cons (.aug 2 .add (.int 1)) (.cons .brk .nil)) .nil) (.cons (.forr (.var 6) (.range2 (.bin .add (.var 2) (.int 1)) (.blt .len (.cons (.var 0) .nil))) (.cons (.asg (.idx (.var 0) (.var 6)) (.call 99 (.cons (.idx (.var 0) (.var 6)) (.cons (.bin .fdiv (.idx (.idx (.var 0) (.var 6)) (.var 3)) (.idx (.idx (.var 0) (.var 2)) (.var 3))) (.cons (.idx (.var 0) (.var 2)) .nil))))) .nil)) .nil))))))) .nil)) (.cons (.ret (.tup (.cons (.var 0) (.cons (.var 2) .nil)))) .nil))
def c101_tidied : CS := .cons (.asg (.var 1) (.lst .nil)) (.cons (.forr (.var 2) (.val (.var 0)) (.cons (.asg (.var 3) (.idx (.comp [4, 5] (.tup (.cons (.var 4) (.cons (.var 5) .nil))) (.enum (.var 2)) (.cons (.cmp .ne (.var 5) (.int 0)) .nil) (.var 4)) (.int 0))) (.cons (.asg (.var 2) (.ifx (.cmp .lt (.idx (.var 2) (.var 3)) (.int 0)) (.comp [5] (.var 5) (.val (.var 2)) .nil (.neg (.var 5))) (.var 2))) (.cons (.asg (.var 1) (.bin .add (.comp [6] (.var 6) (.val (.var 1)) .nil (.call 99 (.cons (.var 6) (.cons (.bin .fdiv (.idx (.var 6) (.var 3)) (.idx (.var 2) (.var 3))) (.cons (.var 2) .nil))))) (.lst (.cons (.var 2) .nil)))) .nil)))) (.cons (.ret (.var 1)) .nil))
def c102_pure_basis : CS := .cons (.expr (.call 96 (.cons (.var 0) .nil))) (.cons (.asg (.tup (.cons (.var 1) (.cons (.var 2) .nil))) (.tup (.cons (.call 95 (.cons (.var 0) .nil)) (.cons (.blt .len (.cons (.var 0) .nil)) .nil)))) (.cons (.asg (.var 3) (.blt .len (.cons (.idx (.var 1) (.int 0)) .nil))) (.cons (.slc 4 (.comp [9, 10] (.tup (.cons (.var 9) (.cons (.var 10) .nil))) (.enum (.var 1)) .nil (.bin .add (.var 10) (.comp [11] (.var 11) (.range1 (.var 2)) .nil (.blt .int (.cons (.cmp .eq (.var 9) (.var 11)) .nil)))))) (.cons (.asg (.tup (.cons (.var 5) (.cons (.var 6) .nil))) (.call 100 (.cons (.var 4) (.cons (.var 3) .nil)))) (.cons (.asg (.tup (.cons (.var 7) (.cons (.var 8) .nil))) (.call 100 (.cons (.comp [10] (.var 10) (.val (.slc (.var 5) (.cons (.var 6) .nil) .nil)) .nil (.slc (.var 10) (.cons (.var 3) .nil) .nil)) (.cons (.var 2) .nil)))) (.cons (.ret (.blt .tuple (.cons (.comp [10] (.var 10) (.val (.call 101 (.cons (.slc (.var 7) .nil (.cons (.var 8) .nil)) .nil))) .nil (.blt .tuple (.cons (.var 10) .nil))) .nil))) .nil))))))
def c105_in_basis : CS := .cons (.asg (.var 2) (.call 102 (.cons (.var 0) .nil))) (.cons (.iff (.or (.cons (.not (.tru (.call 97 (.cons (.var 0) (.cons (.var 1) .nil))))) (.cons (.not (.tru (.call 98 (.cons (.var 0) (.cons (.var 1) .nil))))) .nil))) (.cons (.raise 8 .nil) .nil) .nil) (.cons (.par 3 4 (.blt .list (.cons (.var 1) .nil)) (.lst .nil)) (.cons (.forr (.var 5) (.val (.var 2)) (.cons (.asg (.var 6) (.idx (.comp [7, 8] (.tup (.cons (.var 7) (.cons (.var 8) .nil))) (.enum (.var 5)) (.cons (.cmp .ne (.var 8) (.int 0)) .nil) (.var 7)) (.int 0))) (.cons (.expr (.mth .append (.var 4) (.cons (.bin .fdiv (.idx (.var 3) (.var 6)) (.idx (.var 5) (.var 6))) .nil))) (.cons (.asg (.var 3) (.call 99 (.cons (.var 3) (.cons (.idx (.var 4) (.neg (.int 1))) (.cons (.var 5) .nil))))) .nil)))) (.cons (.ret (.blt .tuple (.cons (.var 4) .nil))) .nil))))
def c115_is_short : CS := .cons (.ret (.and (.cons (.call 2 (.cons (.var 0) .nil)) (.cons (.cmp .lt (.blt .abs (.cons (.idx (.var 0) (.int 0)) .nil)) (.glob 10)) (.cons (.cmp .lt (.idx (.var 0) (.int 1)) (.glob 10)) .nil))))) .nil
def c169_is_form_part : CS := .cons (.iff (.cmp .eq (.var 0) (.str "f")) (.cons (.ret (.call 115 (.cons (.var 1) .nil))) .nil) .nil) (.cons (.iff (.cmp .eq (.var 0) (.str "d")) (.cons (.ret (.call 94 (.cons (.var 1) .nil))) .nil) .nil) (.cons (.iff (.cmp .eq (.var 0) (.str "i")) (.cons (.ret (.call 26 (.cons (.var 1) (.cons (.int 0) (.cons (.bin .sub (.glob 11) (.int 1)) .nil))))) .nil) .nil) (.cons (.iff (.cmp .eq (.var 0) (.str "n")) (.cons (.ret (.call 26 (.cons (.var 1) (.cons (.int 0) (.cons (.int 4) .nil))))) .nil) .nil) (.cons (.iff (.cmp .eq (.var 0) (.str "x")) (.cons (.ret (.call 34 (.cons (.var 1) .nil))) .nil) .nil) (.cons (.ret (.or (.cons (.cmp .ne (.var 0) (.str "E")) (.cons (.and (.cons (.isin (.var 1) [.tuple]) (.cons (.chain .le .le (.int 1) (.blt .len (.cons (.var 1) .nil)) (.glob 11)) .nil))) .nil)))) .nil)))))
def c116_has_form : CS := .cons (.iff (.or (.cons (.not (.tru (.isin (.var 0) [.tuple]))) (.cons (.cmp .eq (.blt .len (.cons (.var 0) .nil)) (.int 0)) (.cons (.not (.tru (.isin (.idx (.var 0) (.int 0)) [.str]))) (.cons (.inD (.idx (.var 0) (.int 0)) 0 true) .nil))))) (.cons (.ret (.bl false)) .nil) .nil) (.cons (.asg (.var 1) (.ixD 0 (.idx (.var 0) (.int 0)))) (.cons (.ret (.and (.cons (.cmp .eq (.blt .len (.cons (.var 0) .nil)) (.bin .add (.int 1) (.blt .len (.cons (.var 1) .nil)))) (.cons (.blt .all (.cons (.comp [2, 3] (.tup (.cons (.var 2) (.cons (.var 3) .nil))) (.zip (.var 1) (.slc (.var 0) (.cons (.int 1) .nil) .nil)) .nil (.call 169 (.cons (.var 2) (.cons (.var 3) .nil)))) .nil)) .nil)))) .nil))
def c117_raw_parts : CS := .cons (.asg (.var 1) (.lst .nil)) (.cons (.forr (.tup (.cons (.var 2) (.cons (.var 3) .nil))) (.zip (.ixD 0 (.idx (.var 0) (.int 0))) (.slc (.var 0) (.cons (.int 1) .nil) .nil)) (.cons (.iff (.cmp .eq (.var 2) (.str "e")) (.cons (.expr (.mth .append (.var 1) (.cons (.var 3) .nil))) .nil) (.cons (.iff (.cmp .eq (.var 2) (.str "E")) (.cons (.expr (.mth .extend (.var 1) (.cons (.blt .list (.cons (.var 3) .nil)) .nil))) .nil) .nil) .nil)) .nil)) (.cons (.ret (.var 1)) .nil))
def c118_has_size : CS := .cons (.par 1 2 (.int 0) (.lst (.cons (.tup (.cons (.var 0) (.cons (.int 1) .nil))) .nil))) (.cons (.whl (.cmp .gt (.blt .len (.cons (.var 2) .nil)) (.int 0)) (.cons (.asg (.tup (.cons (.var 3) (.cons (.var 4) .nil))) (.mth .pop (.var 2) .nil)) (.cons (.aug 1 .add (.int 1)) (.cons (.iff (.or (.cons (.cmp .gt (.var 1) (.glob 12)) (.cons (.cmp .gt (.var 4) (.glob 13)) (.cons (.not (.tru (.call 116 (.cons (.var 3) .nil)))) .nil)))) (.cons (.ret (.bl false)) .nil) .nil) (.cons (.expr (.mth .extend (.var 2) (.cons (.comp [5] (.var 5) (.val (.call 117 (.cons (.var 3) .nil))) .nil (.tup (.cons (.var 5) (.cons (.bin .add (.var 4) (.int 1)) .nil)))) .nil))) .nil))))) (.cons (.ret (.bl true)) .nil))
def c119_node_rows : CS := .cons (.par 1 2 (.lst .nil) (.lst (.cons (.var 0) .nil))) (.cons (.whl (.cmp .gt (.blt .len (.cons (.var 2) .nil)) (.int 0)) (.cons (.asg (.var 3) (.mth .pop (.var 2) .nil)) (.cons (.expr (.mth .append (.var 1) (.cons (.var 3) .nil))) (.cons (.expr (.mth .extend (.var 2) (.cons (.rev (.call 117 (.cons (.var 3) .nil))) .nil))) .nil)))) (.cons (.ret (.var 1)) .nil))
def c121_has_formula_form : CS := .cons (.iff (.or (.cons (.not (.tru (.isin (.var 0) [.tuple]))) (.cons (.cmp .ne (.blt .len (.cons (.var 0) .nil)) (.int 3)) (.cons (.not (.tru (.call 34 (.cons (.idx (.var 0) (.int 0)) .nil)))) (.cons (.not (.tru (.isin (.idx (.var 0) (.int 1)) [.tuple]))) .nil))))) (.cons (.ret (.bl false)) .nil) .nil) (.cons (.iff (.or (.cons (.not (.chain .le .le (.int 1) (.blt .len (.cons (.idx (.var 0) (.int 1)) .nil)) (.glob 11))) (.cons (.not (.tru (.blt .all (.cons (.comp [1] (.var 1) (.val (.idx (.var 0) (.int 1))) .nil (.call 94 (.cons (.var 1) .nil))) .nil)))) .nil))) (.cons (.ret (.bl false)) .nil) .nil) (.cons (.ret (.call 118 (.cons (.idx (.var 0) (.int 2)) .nil))) .nil))
def c122_is_right : CS := .cons (.forr (.var 3) (.val (.call 119 (.cons (.var 0) .nil))) (.cons (.iff (.and (.cons (.cmp .eq (.idx (.var 3) (.int 0)) (.glob 14)) (.cons (.cmp .ge (.idx (.var 3) (.int 1)) (.var 1)) .nil))) (.cons (.ret (.bl false)) .nil) .nil) (.cons (.iff (.and (.cons (.cmp .eq (.idx (.var 3) (.int 0)) (.glob 15)) (.cons (.cmp .ne (.mth .get (.var 2) (.cons (.idx (.var 3) (.int 1)) .nil)) (.blt .len (.cons (.idx (.var 3) (.int 2)) .nil))) .nil))) (.cons (.ret (.bl false)) .nil) .nil) .nil))) (.cons (.ret (.bl true)) .nil)
def c120_degree_of : CS := .cons (.slc 2 (.comp [3] (.var 3) (.val (.call 117 (.cons (.var 0) .nil))) .nil (.call 120 (.cons (.var 3) (.cons (.var 1) .nil))))) (.cons (.iff (.cmp .eq (.blt .len (.cons (.var 2) .nil)) (.int 0)) (.cons (.ret (.int 1)) .nil) .nil) (.cons (.iff (.cmp .eq (.idx (.var 0) (.int 0)) (.glob 16)) (.cons (.ret (.bin .mul (.idx (.var 2) (.int 0)) (.blt .max (.cons (.int 1) (.cons (.idx (.var 0) (.int 2)) .nil))))) .nil) .nil) (.cons (.ret (.ifx (.cmp .eq (.idx (.var 0) (.int 0)) (.glob 15)) (.bin .mul (.idx (.var 1) (.idx (.var 0) (.int 1))) (.blt .max (.cons (.var 2) .nil))) (.blt .sum (.cons (.var 2) .nil)))) .nil)))
def c123_is_book : CS := .cons (.iff (.or (.cons (.not (.tru (.isin (.var 0) [.tuple]))) (.cons (.not (.chain .le .le (.int 1) (.blt .len (.cons (.var 0) .nil)) (.glob 17))) .nil))) (.cons (.ret (.bl false)) .nil) .nil) (.cons (.par 1 2 .dct0 .dct0) (.cons (.forr (.var 3) (.val (.var 0)) (.cons (.iff (.or (.cons (.not (.tru (.call 121 (.cons (.var 3) .nil)))) (.cons (.cmp .inn (.idx (.var 3) (.int 0)) (.var 1)) .nil))) (.cons (.ret (.bl false)) .nil) .nil) (.cons (.iff (.not (.tru (.call 122 (.cons (.idx (.var 3) (.int 2)) (.cons (.blt .len (.cons (.idx (.var 3) (.int 1)) .nil)) (.cons (.var 1) .nil)))))) (.cons (.ret (.bl false)) .nil) .nil) (.cons (.asg (.idx (.var 2) (.idx (.var 3) (.int 0))) (.call 120 (.cons (.idx (.var 3) (.int 2)) (.cons (.var 2) .nil)))) (.cons (.iff (.cmp .gt (.idx (.var 2) (.idx (.var 3) (.int 0))) (.glob 18)) (.cons (.ret (.bl false)) .nil) .nil) (.cons (.asg (.idx (.var 1) (.idx (.var 3) (.int 0))) (.blt .len (.cons (.idx (.var 3) (.int 1)) .nil))) .nil)))))) (.cons (.ret (.bl true)) .nil)))
def c124_check_book : CS := .cons (.iff (.not (.tru (.call 123 (.cons (.var 0) .nil)))) (.cons (.raise 9 .nil) .nil) .nil) .nil
def c125_check_number : CS := .cons (.iff (.not (.tru (.call 26 (.cons (.var 1) (.cons (.int 0) (.cons (.bin .sub (.blt .len (.cons (.var 0) .nil)) (.int 1)) .nil)))))) (.cons (.raise 10 .nil) .nil) .nil) .nil
def c127_check_formula : CS := .cons (.expr (.call 124 (.cons (.var 0) .nil))) (.cons (.expr (.call 125 (.cons (.var 0) (.cons (.var 1) .nil)))) .nil)
def c126_formula_numbers : CS := .cons (.ret (.blt .dict (.cons (.comp [1, 2] (.tup (.cons (.var 1) (.cons (.var 2) .nil))) (.enum (.var 0)) .nil (.tup (.cons (.idx (.var 2) (.int 0)) (.cons (.var 1) .nil)))) .nil))) .nil
def c137_nodes_many : CS := .cons (.expr (.call 124 (.cons (.var 0) .nil))) (.cons (.ret (.blt .tuple (.cons (.comp [1] (.var 1) (.val (.var 0)) .nil (.blt .len (.cons (.call 119 (.cons (.idx (.var 1) (.int 2)) .nil)) .nil))) .nil))) .nil)
def c138_node_at : CS := .cons (.expr (.call 127 (.cons (.var 0) (.cons (.var 1) .nil)))) (.cons (.asg (.var 3) (.call 119 (.cons (.idx (.idx (.var 0) (.var 1)) (.int 2)) .nil))) (.cons (.iff (.not (.tru (.call 26 (.cons (.var 2) (.cons (.int 0) (.cons (.bin .sub (.blt .len (.cons (.var 3) .nil)) (.int 1)) .nil)))))) (.cons (.raise 10 .nil) .nil) .nil) (.cons (.ret (.idx (.var 3) (.var 2))) .nil)))
def c171_are_fractions : CS := .cons (.ret (.and (.cons (.isin (.var 0) [.tuple]) (.cons (.cmp .eq (.blt .len (.cons (.var 0) .nil)) (.var 1)) (.cons (.blt .all (.cons (.comp [2] (.var 2) (.val (.var 0)) .nil (.call 2 (.cons (.var 2) .nil))) .nil)) .nil))))) .nil
def c182_paired : CS := .cons (.iff (.cmp .eq (.var 0) (.glob 20)) (.cons (.ret (.call 5 (.cons (.var 1) (.cons (.var 2) .nil)))) .nil) .nil) (.cons (.iff (.cmp .eq (.var 0) (.glob 21)) (.cons (.ret (.call 6 (.cons (.var 1) (.cons (.var 2) .nil)))) .nil) .nil) (.cons (.iff (.cmp .eq (.var 0) (.glob 22)) (.cons (.ret (.ifx (.cmp .eq (.idx (.var 2) (.int 0)) (.int 0)) .non (.call 8 (.cons (.var 1) (.cons (.var 2) .nil))))) .nil) .nil) (.cons (.ret (.call 7 (.cons (.var 1) (.cons (.var 2) .nil)))) .nil)))
def c170_raw_point_in : CS := .cons (.ret (.blt .tuple (.cons (.comp [4, 5] (.tup (.cons (.var 4) (.cons (.var 5) .nil))) (.zip (.var 3) (.idx (.idx (.var 0) (.var 1)) (.int 1))) .nil (.call 7 (.cons (.var 4) (.cons (.call 55 (.cons (.var 2) (.cons (.var 5) .nil))) .nil)))) .nil))) .nil
def c173_raw_worth_in : CS := .cons (.ret (.umth 0 (.new 0 (.cons (.var 0) (.cons (.var 2) .nil))) (.cons (.idx (.idx (.var 0) (.var 1)) (.int 2)) (.cons (.call 170 (.cons (.var 0) (.cons (.var 1) (.cons (.var 2) (.cons (.var 3) .nil))))) .nil)))) .nil
def c172_check_point : CS := .cons (.iff (.not (.tru (.call 171 (.cons (.var 2) (.cons (.blt .len (.cons (.idx (.idx (.var 0) (.var 1)) (.int 1)) .nil)) .nil))))) (.cons (.raise 14 .nil) .nil) .nil) .nil
def c174_worth : CS := .cons (.expr (.call 127 (.cons (.var 0) (.cons (.var 1) .nil)))) (.cons (.expr (.call 172 (.cons (.var 0) (.cons (.var 1) (.cons (.var 2) .nil))))) (.cons (.ret (.call 173 (.cons (.var 0) (.cons (.var 1) (.cons (.tup .nil) (.cons (.var 2) .nil)))))) .nil))
def c128_law_parts : CS := .cons (.iff (.cmp .inn (.idx (.var 0) (.int 0)) (.lst (.cons (.str "plus") (.cons (.str "less") (.cons (.str "times") (.cons (.str "over") .nil)))))) (.cons (.ret (.lst (.cons (.idx (.var 0) (.int 1)) (.cons (.idx (.var 0) (.int 2)) .nil)))) .nil) .nil) (.cons (.iff (.cmp .eq (.idx (.var 0) (.int 0)) (.str "power")) (.cons (.ret (.lst (.cons (.idx (.var 0) (.int 1)) .nil))) .nil) .nil) (.cons (.iff (.cmp .eq (.idx (.var 0) (.int 0)) (.str "call")) (.cons (.ret (.blt .list (.cons (.idx (.var 0) (.int 2)) .nil))) .nil) .nil) (.cons (.ret (.lst .nil)) .nil)))
def c134_law_nodes : CS := .cons (.asg (.var 1) (.lst (.cons (.var 0) .nil))) (.cons (.asg (.var 2) (.int 0)) (.cons (.whl (.cmp .lt (.var 2) (.blt .len (.cons (.var 1) .nil))) (.cons (.asg (.var 1) (.bin .add (.bin .add (.slc (.var 1) .nil (.cons (.bin .add (.var 2) (.int 1)) .nil)) (.call 128 (.cons (.idx (.var 1) (.var 2)) .nil))) (.slc (.var 1) (.cons (.bin .add (.var 2) (.int 1)) .nil) .nil))) (.cons (.asg (.var 2) (.bin .add (.var 2) (.int 1))) .nil))) (.cons (.ret (.var 1)) .nil)))
def c129_law_degree : CS := .cons (.slc 2 (.comp [3] (.var 3) (.val (.call 128 (.cons (.var 0) .nil))) .nil (.call 129 (.cons (.var 3) (.cons (.var 1) .nil))))) (.cons (.iff (.cmp .inn (.idx (.var 0) (.int 0)) (.lst (.cons (.str "plus") (.cons (.str "less") (.cons (.str "times") (.cons (.str "over") .nil)))))) (.cons (.ret (.bin .add (.idx (.var 2) (.int 0)) (.idx (.var 2) (.int 1)))) .nil) .nil) (.cons (.iff (.cmp .eq (.idx (.var 0) (.int 0)) (.str "power")) (.cons (.ret (.bin .mul (.idx (.var 2) (.int 0)) (.blt .max (.cons (.int 1) (.cons (.idx (.var 0) (.int 2)) .nil))))) .nil) .nil) (.cons (.iff (.cmp .eq (.idx (.var 0) (.int 0)) (.str "call")) (.cons (.ret (.bin .mul (.mth .get (.var 1) (.cons (.idx (.var 0) (.int 1)) (.cons (.int 1) .nil))) (.blt .max (.cons (.var 2) .nil)))) .nil) .nil) (.cons (.ret (.int 1)) .nil))))
def c130_law_share : CS := .cons (.asg (.var 1) (.bin .sub (.call 10 (.cons (.var 0) (.cons (.int 1000) .nil))) (.int 500))) (.cons (.iff (.cmp .eq (.call 10 (.cons (.var 0) (.cons (.int 9) .nil))) (.int 0)) (.cons (.asg (.var 1) (.bin .sub (.int 9999999999) (.call 10 (.cons (.var 0) (.cons (.int 1000) .nil))))) .nil) .nil) (.cons (.ret (.call 11 (.cons (.var 1) (.cons (.bin .add (.int 1) (.call 10 (.cons (.var 0) (.cons (.int 12) .nil)))) .nil)))) .nil))
def c131_law_leaf : CS := .cons (.asg (.var 3) (.call 10 (.cons (.var 0) (.cons (.int 4) .nil)))) (.cons (.iff (.cmp .eq (.var 3) (.int 0)) (.cons (.ret (.tup (.cons (.str "num") (.cons (.call 130 (.cons (.var 0) .nil)) .nil)))) .nil) .nil) (.cons (.iff (.cmp .eq (.var 3) (.int 1)) (.cons (.ret (.tup (.cons (.str "told") (.cons (.call 130 (.cons (.var 0) .nil)) (.cons (.call 49 (.cons (.var 0) (.cons (.slc (.var 2) .nil (.cons (.int 6) .nil)) (.cons (.int 9) .nil)))) .nil))))) .nil) .nil) (.cons (.ret (.tup (.cons (.str "in") (.cons (.call 10 (.cons (.var 0) (.cons (.var 1) .nil))) .nil)))) .nil)))
def c132_law_node : CS := .cons (.asg (.var 5) (.call 10 (.cons (.var 0) (.cons (.int 8) .nil)))) (.cons (.iff (.or (.cons (.cmp .lt (.var 4) (.int 2)) (.cons (.cmp .eq (.var 5) (.int 0)) .nil))) (.cons (.ret (.call 131 (.cons (.var 0) (.cons (.var 1) (.cons (.var 2) .nil))))) .nil) .nil) (.cons (.iff (.cmp .lt (.var 5) (.int 5)) (.cons (.asg (.var 6) (.call 132 (.cons (.var 0) (.cons (.var 1) (.cons (.var 2) (.cons (.var 3) (.cons (.bin .sub (.var 4) (.int 1)) .nil))))))) (.cons (.asg (.var 7) (.call 132 (.cons (.var 0) (.cons (.var 1) (.cons (.var 2) (.cons (.var 3) (.cons (.bin .sub (.var 4) (.int 1)) .nil))))))) (.cons (.ret (.tup (.cons (.idx (.lst (.cons (.str "plus") (.cons (.str "less") (.cons (.str "times") (.cons (.str "over") .nil))))) (.bin .sub (.var 5) (.int 1))) (.cons (.var 6) (.cons (.var 7) .nil))))) .nil))) .nil) (.cons (.iff (.or (.cons (.cmp .eq (.var 5) (.int 5)) (.cons (.cmp .eq (.blt .len (.cons (.var 3) .nil)) (.int 0)) .nil))) (.cons (.ret (.tup (.cons (.str "power") (.cons (.call 132 (.cons (.var 0) (.cons (.var 1) (.cons (.var 2) (.cons (.var 3) (.cons (.bin .sub (.var 4) (.int 1)) .nil)))))) (.cons (.call 10 (.cons (.var 0) (.cons (.int 5) .nil))) .nil))))) .nil) .nil) (.cons (.asg (.tup (.cons (.var 8) (.cons (.var 9) .nil))) (.idx (.var 3) (.call 10 (.cons (.var 0) (.cons (.blt .len (.cons (.var 3) .nil)) .nil))))) (.cons (.ret (.tup (.cons (.str "call") (.cons (.var 8) (.cons (.blt .tuple (.cons (.comp [10] (.var 10) (.range1 (.var 9)) .nil (.call 132 (.cons (.var 0) (.cons (.var 1) (.cons (.var 2) (.cons (.var 3) (.cons (.bin .sub (.var 4) (.int 1)) .nil))))))) .nil)) .nil))))) .nil)))))
def c142_law_book : CS := .cons (.asg (.var 3) (.call 48 (.cons (.var 0) (.cons (.bin .add (.int 1) (.call 10 (.cons (.var 0) (.cons (.int 6) .nil)))) .nil)))) (.cons (.asg (.var 4) (.call 133 (.cons (.var 0) (.cons (.bin .add (.int 1) (.call 10 (.cons (.var 0) (.cons (.var 1) .nil)))) .nil)))) (.cons (.asg (.var 5) (.lst .nil)) (.cons (.asg (.var 6) (.lst .nil)) (.cons (.asg (.var 7) .dct0) (.cons (.forr (.var 8) (.val (.var 4)) (.cons (.asg (.var 9) (.bin .add (.int 1) (.call 10 (.cons (.var 0) (.cons (.int 4) .nil))))) (.cons (.asg (.var 10) (.blt .tuple (.cons (.comp [12] (.var 12) (.range1 (.var 9)) .nil (.call 49 (.cons (.var 0) (.cons (.slc (.var 3) .nil (.cons (.int 6) .nil)) (.cons (.int 9) .nil))))) .nil))) (.cons (.asg (.var 11) (.call 132 (.cons (.var 0) (.cons (.var 9) (.cons (.var 3) (.cons (.var 6) (.cons (.var 2) .nil))))))) (.cons (.iff (.or (.cons (.cmp .gt (.call 129 (.cons (.var 11) (.cons (.var 7) .nil))) (.int 200)) (.cons (.cmp .gt (.blt .len (.cons (.call 134 (.cons (.var 11) .nil)) .nil)) (.int 40)) .nil))) (.cons (.asg (.var 11) (.tup (.cons (.str "in") (.cons (.int 0) .nil)))) .nil) .nil) (.cons (.asg (.idx (.var 7) (.var 8)) (.call 129 (.cons (.var 11) (.cons (.var 7) .nil)))) (.cons (.expr (.mth .append (.var 6) (.cons (.tup (.cons (.var 8) (.cons (.var 9) .nil))) .nil))) (.cons (.expr (.mth .append (.var 5) (.cons (.tup (.cons (.var 8) (.cons (.var 10) (.cons (.var 11) .nil)))) .nil))) .nil)))))))) (.cons (.ret (.blt .tuple (.cons (.var 5) .nil))) .nil))))))
def c133_law_titles : CS := .cons (.asg (.var 2) (.lst .nil)) (.cons (.forr (.var 3) (.val (.call 48 (.cons (.var 0) (.cons (.var 1) .nil)))) (.cons (.expr (.mth .insert (.var 2) (.cons (.call 10 (.cons (.var 0) (.cons (.bin .add (.blt .len (.cons (.var 2) .nil)) (.int 1)) .nil))) (.cons (.var 3) .nil)))) .nil)) (.cons (.ret (.var 2)) .nil))
def c181_Teller_init : CS := .cons (.sat (.var 0) 0 (.var 1)) (.cons (.sat (.var 0) 1 (.var 2)) (.cons (.sat (.var 0) 2 (.call 126 (.cons (.var 1) .nil))) .nil))
def c183_Teller_told : CS := .cons (.asg (.var 3) (.idx (.var 1) (.int 0))) (.cons (.iff (.cmp .eq (.var 3) (.glob 23)) (.cons (.ret (.idx (.var 1) (.int 1))) .nil) .nil) (.cons (.iff (.cmp .eq (.var 3) (.glob 24)) (.cons (.ret (.call 7 (.cons (.idx (.var 1) (.int 1)) (.cons (.call 55 (.cons (.attr (.var 0) 1) (.cons (.idx (.var 1) (.int 2)) .nil))) .nil)))) .nil) .nil) (.cons (.iff (.cmp .eq (.var 3) (.glob 14)) (.cons (.ret (.idx (.var 2) (.idx (.var 1) (.int 1)))) .nil) .nil) (.cons (.iff (.cmp .eq (.var 3) (.glob 16)) (.cons (.asg (.var 4) (.umth 0 (.var 0) (.cons (.idx (.var 1) (.int 1)) (.cons (.var 2) .nil)))) (.cons (.ret (.ifx (.cmp .is (.var 4) .non) .non (.call 25 (.cons (.var 4) (.cons (.idx (.var 1) (.int 2)) .nil))))) .nil)) .nil) (.cons (.iff (.cmp .eq (.var 3) (.glob 15)) (.cons (.slc 5 (.comp [7] (.var 7) (.val (.idx (.var 1) (.int 2))) .nil (.umth 0 (.var 0) (.cons (.var 7) (.cons (.var 2) .nil))))) (.cons (.ret (.ifx (.cmp .inn .non (.var 5)) .non (.umth 0 (.var 0) (.cons (.idx (.idx (.attr (.var 0) 0) (.idx (.attr (.var 0) 2) (.idx (.var 1) (.int 1)))) (.int 2)) (.cons (.blt .tuple (.cons (.var 5) .nil)) .nil))))) .nil)) .nil) (.cons (.par 4 6 (.umth 0 (.var 0) (.cons (.idx (.var 1) (.int 1)) (.cons (.var 2) .nil))) (.umth 0 (.var 0) (.cons (.idx (.var 1) (.int 2)) (.cons (.var 2) .nil)))) (.cons (.ret (.ifx (.or (.cons (.cmp .is (.var 4) .non) (.cons (.cmp .is (.var 6) .non) .nil))) .non (.call 182 (.cons (.var 3) (.cons (.var 4) (.cons (.var 6) .nil)))))) .nil)))))))
def c140_formula_number : CS := .cons (.expr (.call 124 (.cons (.var 0) .nil))) (.cons (.ret (.ifx (.tru (.call 34 (.cons (.var 1) .nil))) (.mth .get (.call 126 (.cons (.var 0) .nil)) (.cons (.var 1) .nil)) .non)) .nil)
def c139_called_by : CS := .cons (.expr (.call 127 (.cons (.var 0) (.cons (.var 1) .nil)))) (.cons (.asg (.var 2) (.call 126 (.cons (.var 0) .nil))) (.cons (.ret (.blt .tuple (.cons (.blt .sorted (.cons (.blt .set (.cons (.comp [3] (.var 3) (.val (.call 119 (.cons (.idx (.idx (.var 0) (.var 1)) (.int 2)) .nil))) (.cons (.cmp .eq (.idx (.var 3) (.int 0)) (.glob 15)) .nil) (.idx (.var 2) (.idx (.var 3) (.int 1)))) .nil)) .nil)) .nil))) .nil))
abbrev f0 : CF := ⟨1, 1, c0_is_integer⟩
abbrev f1 : CF := ⟨2, 2, c1_divisor⟩
abbrev f2 : CF := ⟨1, 1, c2_is_fraction⟩
abbrev f3 : CF := ⟨2, 3, c3_made⟩
abbrev f4 : CF := ⟨1, 1, c4_check_fraction⟩
abbrev f17 : CF := ⟨2, 2, c17_fraction⟩
abbrev f5 : CF := ⟨2, 2, c5_raw_plus⟩
abbrev f6 : CF := ⟨2, 2, c6_raw_less⟩
abbrev f7 : CF := ⟨2, 2, c7_raw_times⟩
abbrev f8 : CF := ⟨2, 2, c8_raw_by⟩
abbrev f13 : CF := ⟨2, 2, c13_plus⟩
abbrev f14 : CF := ⟨2, 2, c14_less⟩
abbrev f15 : CF := ⟨2, 2, c15_times⟩
abbrev f16 : CF := ⟨2, 2, c16_by⟩
abbrev f20 : CF := ⟨1, 3, c20_law_hand⟩
abbrev f10 : CF := ⟨2, 5, c10_law_draw⟩
abbrev f9 : CF := ⟨2, 4, c9_law_is⟩
abbrev f11 : CF := ⟨2, 5, c11_law_low⟩
abbrev f12 : CF := ⟨2, 4, c12_law_great⟩
abbrev f21 : CF := ⟨2, 2, c21_law_share⟩
abbrev f26 : CF := ⟨3, 3, c26_is_within⟩
abbrev f24 : CF := ⟨2, 2, c24_raw_at_most⟩
abbrev f28 : CF := ⟨2, 2, c28_at_most⟩
abbrev f25 : CF := ⟨2, 5, c25_raw_power⟩
abbrev f27 : CF := ⟨2, 2, c27_power_of⟩
abbrev f34 : CF := ⟨1, 2, c34_is_name⟩
abbrev f35 : CF := ⟨1, 3, c35_are_named_pairs⟩
abbrev f36 : CF := ⟨1, 3, c36_is_dimension⟩
abbrev f37 : CF := ⟨1, 1, c37_check_dimension⟩
abbrev f38 : CF := ⟨3, 6, c38_raw_together⟩
abbrev f42 : CF := ⟨2, 2, c42_together⟩
abbrev f43 : CF := ⟨2, 2, c43_apart⟩
abbrev f39 : CF := ⟨2, 4, c39_raw_raised⟩
abbrev f44 : CF := ⟨2, 2, c44_raised⟩
abbrev f40 : CF := ⟨1, 2, c40_are_dimensions⟩
abbrev f41 : CF := ⟨1, 5, c41_raw_bases⟩
abbrev f45 : CF := ⟨1, 1, c45_bases_of⟩
abbrev f48 : CF := ⟨2, 6, c48_law_names⟩
abbrev f49 : CF := ⟨3, 6, c49_law_size⟩
abbrev f46 : CF := ⟨3, 6, c46_law_added⟩
abbrev f63 : CF := ⟨1, 3, c63_are_weights⟩
abbrev f64 : CF := ⟨2, 6, c64_raw_weighs⟩
abbrev f65 : CF := ⟨2, 2, c65_weighs⟩
abbrev f67 : CF := ⟨2, 7, c67_law_weighed⟩
abbrev f53 : CF := ⟨1, 3, c53_is_scale⟩
abbrev f54 : CF := ⟨1, 1, c54_check_scale⟩
abbrev f55 : CF := ⟨2, 6, c55_raw_scaled⟩
abbrev f56 : CF := ⟨2, 4, c56_scaled⟩
abbrev f94 : CF := ⟨1, 3, c94_is_plain_dimension⟩
abbrev f145 : CF := ⟨1, 1, c145_is_told_unit⟩
abbrev f146 : CF := ⟨1, 3, c146_is_system⟩
abbrev f147 : CF := ⟨1, 1, c147_check_system⟩
abbrev f148 : CF := ⟨2, 5, c148_raw_are_units⟩
abbrev f154 : CF := ⟨2, 2, c154_are_units⟩
abbrev f149 : CF := ⟨2, 2, c149_check_units⟩
abbrev f150 : CF := ⟨2, 6, c150_raw_factor⟩
abbrev f151 : CF := ⟨2, 6, c151_raw_dimension⟩
abbrev f152 : CF := ⟨2, 2, c152_factor_of⟩
abbrev f153 : CF := ⟨2, 2, c153_dimension_in⟩
abbrev f155 : CF := ⟨2, 5, c155_law_system⟩
abbrev f156 : CF := ⟨3, 7, c156_law_units⟩
abbrev f157 : CF := ⟨2, 9, c157_law_factor⟩
abbrev f158 : CF := ⟨2, 6, c158_law_dimension⟩
abbrev f96 : CF := ⟨1, 2, c96_check_dimensions⟩
abbrev f97 : CF := ⟨2, 3, c97_are_exponents⟩
abbrev f95 : CF := ⟨1, 4, c95_matrix_of⟩
abbrev f98 : CF := ⟨2, 6, c98_raw_is_pure⟩
abbrev f104 : CF := ⟨2, 2, c104_is_pure⟩
abbrev f99 : CF := ⟨3, 5, c99_less_times⟩
abbrev f100 : CF := ⟨2, 8, c100_echelon⟩
abbrev f101 : CF := ⟨1, 7, c101_tidied⟩
abbrev f102 : CF := ⟨1, 12, c102_pure_basis⟩
abbrev f105 : CF := ⟨2, 9, c105_in_basis⟩
abbrev f115 : CF := ⟨1, 1, c115_is_short⟩
abbrev f169 : CF := ⟨2, 2, c169_is_form_part⟩
abbrev f116 : CF := ⟨1, 4, c116_has_form⟩
abbrev f117 : CF := ⟨1, 4, c117_raw_parts⟩
abbrev f118 : CF := ⟨1, 6, c118_has_size⟩
abbrev f119 : CF := ⟨1, 4, c119_node_rows⟩
abbrev f121 : CF := ⟨1, 2, c121_has_formula_form⟩
abbrev f122 : CF := ⟨3, 4, c122_is_right⟩
abbrev f120 : CF := ⟨2, 4, c120_degree_of⟩
abbrev f123 : CF := ⟨1, 4, c123_is_book⟩
abbrev f124 : CF := ⟨1, 1, c124_check_book⟩
abbrev f125 : CF := ⟨2, 2, c125_check_number⟩
abbrev f127 : CF := ⟨2, 2, c127_check_formula⟩
abbrev f126 : CF := ⟨1, 3, c126_formula_numbers⟩
abbrev f137 : CF := ⟨1, 2, c137_nodes_many⟩
abbrev f138 : CF := ⟨3, 4, c138_node_at⟩
abbrev f171 : CF := ⟨2, 3, c171_are_fractions⟩
abbrev f182 : CF := ⟨3, 3, c182_paired⟩
abbrev f170 : CF := ⟨4, 6, c170_raw_point_in⟩
abbrev f173 : CF := ⟨4, 4, c173_raw_worth_in⟩
abbrev f172 : CF := ⟨3, 3, c172_check_point⟩
abbrev f174 : CF := ⟨3, 3, c174_worth⟩
abbrev f128 : CF := ⟨1, 1, c128_law_parts⟩
abbrev f134 : CF := ⟨1, 3, c134_law_nodes⟩
abbrev f129 : CF := ⟨2, 4, c129_law_degree⟩
abbrev f130 : CF := ⟨1, 2, c130_law_share⟩
abbrev f131 : CF := ⟨3, 4, c131_law_leaf⟩
abbrev f132 : CF := ⟨5, 11, c132_law_node⟩
abbrev f142 : CF := ⟨3, 13, c142_law_book⟩
abbrev f133 : CF := ⟨2, 4, c133_law_titles⟩
abbrev f181 : CF := ⟨3, 3, c181_Teller_init⟩
abbrev f183 : CF := ⟨3, 8, c183_Teller_told⟩
abbrev f140 : CF := ⟨2, 2, c140_formula_number⟩
abbrev f139 : CF := ⟨2, 4, c139_called_by⟩
end PL

namespace PL
open PySem PySem.Spec PyProof.Rows L2
def Tyd (h : AH) : AV → Prop
  | .ref a => (∃ xs, h a = some (.lst xs)) ∨ ∃ kvs, h a = some (.dK kvs)
  | .wt _ => False
  | _ => True
def isInt : AV → Bool | .int _ => true | _ => false
def isTupV : AV → Bool | .tup _ => true | _ => false
variable {G : Pg} {n : Nat} {Q : AQ} {E : AXQ} {h : AH}
theorem is_integer_spec (c0 : G.code 0 = some f0) {v : AV} (ht : Tyd h v) (hq : Q (.bl (isInt v)) h) : wpC G (n + 1) 0 [v] h Q E := by
  refine call_i c0 rfl ?_
  unfold c0_is_integer
  cases v with
  | ref a =>
    bv_omega
    rcases ht with ⟨xs, e⟩ | ⟨xs, e⟩
    · refine t_lst e ?_
      bv_omega
      exact shr_i hq
    · refine t_dK e ?_
      bv_omega
      exact shr_i hq
  | wt _ => exact ht.elim
  | _ =>
    bv_omega
    exact shr_i hq
theorem divisor_spec (c1 : G.code 1 = some f1) {x y : Nat} (hq : Q (.int (Nat.gcd x y)) h) : wpC G (n + 1) 1 [.int x, .int y] h Q E := by
  refine call_i c1 rfl ?_
  unfold c1_divisor
  bv_omega
  refine wp_whl (wpC_mono G n) (fun m σ h' => ∃ a b : Nat, m = b ∧ σ = [some (.int a), some (.int b)] ∧ h' = h ∧ Nat.gcd a b = Nat.gcd x y) (m := y) ⟨x, y, rfl, rfl, rfl, rfl⟩ ?_
  rintro m σ h' ⟨a, b, rfl, rfl, rfl, hg⟩
  bv_omega
  by_cases e : m = 0
  · subst e
    rw [Nat.gcd_zero_right] at hg
    rw [← hg] at hq
    have e0 : ((0 : Nat) : Int) = 0 := rfl
    simp only [e0]
    bv_omega
    exact shr_i hq
  · have e0 : ¬ ((m : Int) = 0) := by omega
    simp only [e0]
    bv_omega
    refine ⟨by omega, a % m, Nat.mod_lt _ (by omega), m, by simp, ?_⟩
    rw [← hg, Nat.gcd_comm a m, Nat.gcd_rec m a, Nat.gcd_comm]
theorem nat_abs {i : Int} : (if i < 0 then -i else i) = (i.natAbs : Int) := by split <;> omega

def fr (q : Rat) : AV := .tup [.int q.num, .int q.den]
theorem log_lt {x k : Nat} (h : x < 2 ^ k) (hk : 0 < k) : x.log2 < k := by
  rcases Nat.eq_zero_or_pos x with rfl | hx
  · simpa using hk
  · exact (Nat.log2_lt (by omega)).mpr h
theorem mulW {i j : Int} {a b : Nat} (ha : i.natAbs < 2 ^ a) (hb : j.natAbs < 2 ^ b) (h0 : 0 < a) (h1 : 0 < b) (h : a + b ≤ 1000000) : CMulW i j := wide_mul ha hb h0 h1 h
theorem fdiv_neg' {a g : Int} (hg : 0 < g) (hd : g ∣ a) : a.fdiv (-g) = -(a / g) := by
  obtain ⟨c, rfl⟩ := hd
  have h1 : g * c = (-g) * (-c) := by rw [Int.neg_mul_neg]
  rw [Int.mul_ediv_cancel_left _ (by omega), h1, Int.mul_fdiv_cancel_left _ (by omega)]
theorem fdiv_pos' {a g : Int} (hg : 0 < g) : a.fdiv g = a / g := Int.fdiv_eq_ediv_of_nonneg a (by omega)
theorem divInt_num {t b : Int} (hb : 0 < b) : (Rat.divInt t b).num = t / (Nat.gcd t.natAbs b.natAbs : Int) ∧ ((Rat.divInt t b).den : Int) = b / (Nat.gcd t.natAbs b.natAbs : Int) := by
  obtain ⟨n, rfl⟩ := Int.eq_ofNat_of_zero_le (by omega : 0 ≤ b)
  have hn : n ≠ 0 := by omega
  have e : Rat.divInt t (n : Int) = Rat.normalize t n hn := by
    rw [Rat.divInt_ofNat]
    exact (Rat.normalize_eq_mkRat hn).symm
  rw [e, Rat.normalize_eq]
  simp
theorem made_val {t b : Int} (hb : b ≠ 0) : (if b < 0 then .tup [.int (t.fdiv (-(Nat.gcd t.natAbs b.natAbs : Int))), .int (b.fdiv (-(Nat.gcd t.natAbs b.natAbs : Int)))] else .tup [.int (t.fdiv (Nat.gcd t.natAbs b.natAbs : Int)), .int (b.fdiv (Nat.gcd t.natAbs b.natAbs : Int))] : AV) = fr (Rat.divInt t b) := by
  have hg : 0 < (Nat.gcd t.natAbs b.natAbs : Int) := by
    have := Nat.gcd_pos_of_pos_right t.natAbs (show 0 < b.natAbs by omega)
    omega
  have d1 : (Nat.gcd t.natAbs b.natAbs : Int) ∣ t := Int.ofNat_dvd_left.mpr (Nat.gcd_dvd_left _ _)
  have d2 : (Nat.gcd t.natAbs b.natAbs : Int) ∣ b := Int.ofNat_dvd_left.mpr (Nat.gcd_dvd_right _ _)
  unfold fr
  split
  · rename_i hneg
    have e : Rat.divInt t b = Rat.divInt (-t) (-b) := by rw [Rat.divInt_neg', Int.neg_neg]
    have q := divInt_num (t := -t) (b := -b) (by omega)
    rw [Int.natAbs_neg, Int.natAbs_neg] at q
    rw [e, q.1, q.2, fdiv_neg' hg d1, fdiv_neg' hg d2, Int.neg_ediv_of_dvd d1, Int.neg_ediv_of_dvd d2]
  · have q := divInt_num (t := t) (b := b) (by omega)
    rw [q.1, q.2, fdiv_pos' hg, fdiv_pos' hg]
theorem made_gen (c1 : G.code 1 = some f1) (c3 : G.code 3 = some f3) {t b : Int} (hb : b ≠ 0) (hl : (Nat.gcd t.natAbs b.natAbs).log2 < 9000) (hq : Q (fr (Rat.divInt t b)) h) : wpC G (n + 2) 3 [.int t, .int b] h Q E := by
  refine call_i c3 rfl ?_
  unfold c3_made
  bv_omega
  rw [nat_abs, nat_abs]
  refine divisor_spec c1 ?_
  have hg := Nat.gcd_pos_of_pos_right t.natAbs (show 0 < b.natAbs by omega)
  have mv := made_val (t := t) hb
  by_cases e : b < 0
  · simp only [e, if_true] at mv ⊢
    bv_omega
    rw [mv]
    refine ⟨⟨by omega, by simpa using hl⟩, ⟨by omega, by simpa using hl⟩, shr_i hq⟩
  · simp only [e, if_false] at mv ⊢
    bv_omega
    rw [mv]
    refine ⟨⟨by omega, by simpa using hl⟩, ⟨by omega, by simpa using hl⟩, shr_i hq⟩
theorem made_spec (c1 : G.code 1 = some f1) (c3 : G.code 3 = some f3) {t b : Int} (hb : b ≠ 0) (hs : b.natAbs < 2 ^ 8000) (hq : Q (fr (Rat.divInt t b)) h) : wpC G (n + 2) 3 [.int t, .int b] h Q E := by
  refine made_gen c1 c3 hb ?_ hq
  have h1 : Nat.gcd t.natAbs b.natAbs ≤ b.natAbs := Nat.le_of_dvd (by omega) (Nat.gcd_dvd_right _ _)
  exact Nat.lt_of_lt_of_le (log_lt (Nat.lt_of_le_of_lt h1 hs) (by omega)) (by omega)

def isFr : AV → Bool
  | .tup [.int a, .int b] => decide (0 < b) && decide (Nat.gcd a.natAbs b.natAbs = 1)
  | _ => false
def TydT (h : AH) (v : AV) : Prop := Tyd h v ∧ ∀ xs, v = .tup xs → ∀ x ∈ xs, Tyd h x
theorem isFr_fr (q : Rat) : isFr (fr q) = true := by
  show (decide (0 < (q.den : Int)) && decide (Nat.gcd q.num.natAbs (q.den : Int).natAbs = 1)) = true
  have h1 : 0 < (q.den : Int) := by have := q.den_pos; omega
  have h2 : Nat.gcd q.num.natAbs q.den = 1 := q.reduced
  have h3 : 0 < q.den := q.den_pos
  simp [h1, h2, h3]
theorem isFr_1 {x : AV} : isFr (.tup [x]) = false := by cases x <;> rfl
theorem isFr_3 {x y z : AV} {r : List AV} : isFr (.tup (x :: y :: z :: r)) = false := by cases x <;> first | rfl | (cases y <;> rfl)
theorem isFr_b {x y : AV} (h : isInt x = false ∨ isInt y = false) : isFr (.tup [x, y]) = false := by
  cases x with
  | int a =>
    cases y with
    | int b => rcases h with h | h <;> cases h
    | _ => rfl
  | _ => rfl
theorem is_fraction_spec (c0 : G.code 0 = some f0) (c1 : G.code 1 = some f1) (c2 : G.code 2 = some f2) {v : AV} (ht : TydT h v) (hq : Q (.bl (isFr v)) h) : wpC G (n + 2) 2 [v] h Q E := by
  refine call_i c2 rfl ?_
  unfold c2_is_fraction
  have no : (∀ xs, v ≠ .tup xs) → isFr v = false := by
    intro hx
    cases v with
    | tup xs => exact absurd rfl (hx xs)
    | _ => rfl
  cases v with
  | ref a =>
    bv_omega
    rcases ht.1 with ⟨xs, e⟩ | ⟨xs, e⟩
    · refine t_lst e ?_
      bv_omega
      exact shr_i hq
    · refine t_dK e ?_
      bv_omega
      exact shr_i hq
  | tup xs =>
    have hx := ht.2 xs rfl
    match xs, hx, hq with
    | [], _, hq => bv_omega; simp; exact shr_i hq
    | [_], _, hq => rw [isFr_1] at hq; bv_omega; simp; exact shr_i hq
    | a :: b :: c :: r, _, hq =>
      rw [isFr_3] at hq
      bv_omega
      have e : ¬ (((r.length + 1 + 1 + 1 : Nat) : Int) = 2) := by omega
      simp only [e]
      bv_omega
      exact shr_i hq
    | [x, y], hx, hq =>
      bv_omega
      have e : ((0 + 1 + 1 : Nat) : Int) = 2 := rfl
      simp only [e]
      bv_omega
      refine is_integer_spec c0 (hx x (by simp)) ?_
      bv_omega
      cases x with
      | int a =>
        simp only [isInt]
        bv_omega
        refine is_integer_spec c0 (hx y (by simp)) ?_
        bv_omega
        cases y with
        | int b =>
          simp only [isInt]
          bv_omega
          replace hq : Q (.bl (decide (0 < b) && decide (Nat.gcd a.natAbs b.natAbs = 1))) h := hq
          by_cases hb : 0 < b
          · simp only [hb, decide_true, Bool.true_and] at hq ⊢
            bv_omega
            rw [nat_abs]
            have eb : (b : Int) = (b.natAbs : Int) := by omega
            have eg : Nat.gcd a.natAbs b.natAbs = Nat.gcd a.natAbs b.natAbs := rfl
            generalize hk : b.natAbs = k at eb hq
            subst eb
            refine divisor_spec c1 ?_
            bv_omega
            have ed : decide (((Nat.gcd a.natAbs k : Nat) : Int) = 1) = decide (Nat.gcd a.natAbs k = 1) := by
              apply decide_eq_decide.mpr
              omega
            rw [ed]
            exact shr_i hq
          · simp only [hb, decide_false, Bool.false_and] at hq ⊢
            bv_omega
            exact shr_i hq
        | _ => simp only [isInt]; bv_omega; exact shr_i hq
      | _ => simp only [isInt]; bv_omega; exact shr_i hq
  | wt _ => exact ht.1.elim
  | _ => bv_omega; exact shr_i hq

def Sz (k : Nat) (q : Rat) : Prop := q.num.natAbs < 2 ^ k ∧ q.den < 2 ^ k
theorem Sz.mono {k m : Nat} {q : Rat} (s : Sz k q) (h : k ≤ m) : Sz m q := ⟨Nat.lt_of_lt_of_le s.1 (Nat.pow_le_pow_right (by omega) h), Nat.lt_of_lt_of_le s.2 (Nat.pow_le_pow_right (by omega) h)⟩
theorem sz_divInt {t b : Int} {k : Nat} (hb : b ≠ 0) (h1 : t.natAbs < 2 ^ k) (h2 : b.natAbs < 2 ^ k) : Sz k (Rat.divInt t b) := by
  have key : ∀ t b : Int, 0 < b → t.natAbs < 2 ^ k → b.natAbs < 2 ^ k → Sz k (Rat.divInt t b) := by
    intro t b hb h1 h2
    have q := divInt_num (t := t) hb
    have hg : 0 < (Nat.gcd t.natAbs b.natAbs) := Nat.gcd_pos_of_pos_right t.natAbs (by omega)
    refine ⟨?_, ?_⟩
    · rw [q.1, Int.natAbs_ediv_of_dvd (Int.ofNat_dvd_left.mpr (Nat.gcd_dvd_left _ _))]
      exact Nat.lt_of_le_of_lt (Nat.div_le_self _ _) h1
    · have e : (Rat.divInt t b).den = b.natAbs / Nat.gcd t.natAbs b.natAbs := by
        have e2 : ((Rat.divInt t b).den : Int) = ((b.natAbs / Nat.gcd t.natAbs b.natAbs : Nat) : Int) := by
          rw [q.2]
          have : (b : Int) = (b.natAbs : Int) := by omega
          rw [Int.natCast_ediv, ← this]
        omega
      rw [e]
      exact Nat.lt_of_le_of_lt (Nat.div_le_self _ _) h2
  by_cases h : 0 < b
  · exact key t b h h1 h2
  · have e : Rat.divInt t b = Rat.divInt (-t) (-b) := by rw [Rat.divInt_neg', Int.neg_neg]
    rw [e]
    exact key (-t) (-b) (by omega) (by rw [Int.natAbs_neg]; exact h1) (by rw [Int.natAbs_neg]; exact h2)
theorem add_divInt (x y : Rat) : x + y = Rat.divInt (x.num * y.den + y.num * x.den) (x.den * y.den) := by
  have h1 : (x.den : Int) ≠ 0 := by have := x.den_pos; omega
  have h2 : (y.den : Int) ≠ 0 := by have := y.den_pos; omega
  rw [← Rat.divInt_add_divInt _ _ h1 h2, Rat.num_divInt_den, Rat.num_divInt_den]
theorem sub_divInt (x y : Rat) : x - y = Rat.divInt (x.num * y.den - y.num * x.den) (x.den * y.den) := by
  have h := add_divInt x (-y)
  rw [Rat.neg_num, Rat.neg_den] at h
  rw [Rat.sub_eq_add_neg, h, Int.neg_mul, Int.sub_eq_add_neg]
theorem mul_divInt (x y : Rat) : x * y = Rat.divInt (x.num * y.num) (x.den * y.den) := by
  rw [← Rat.divInt_mul_divInt, Rat.num_divInt_den, Rat.num_divInt_den]
theorem div_divInt (x y : Rat) : x / y = Rat.divInt (x.num * y.den) (x.den * y.num) := by
  rw [Rat.div_def, Rat.inv_def, ← Rat.divInt_mul_divInt, Rat.num_divInt_den]
theorem lt_mul {a b : Nat} {i j : Int} (ha : i.natAbs < 2 ^ a) (hb : j.natAbs < 2 ^ b) : (i * j).natAbs < 2 ^ (a + b) := wide_lt ha hb
theorem den_nz (x : Rat) : (x.den : Int) ≠ 0 := by have := x.den_pos; omega
theorem sz_add {a b : Nat} {x y : Rat} (hx : Sz a x) (hy : Sz b y) : Sz (a + b + 1) (x + y) := by
  rw [add_divInt]
  have h1 := lt_mul (i := x.num) (j := y.den) hx.1 hy.2
  have h2 := lt_mul (i := y.num) (j := x.den) hy.1 hx.2
  have h3 := lt_mul (i := x.den) (j := y.den) hx.2 hy.2
  rw [Nat.add_comm b a] at h2
  have e : (2 : Nat) ^ (a + b + 1) = 2 ^ (a + b) + 2 ^ (a + b) := by rw [Nat.pow_succ]; omega
  exact sz_divInt (Int.mul_ne_zero (den_nz x) (den_nz y)) (by rw [e]; omega) (by rw [e]; omega)
theorem sz_sub {a b : Nat} {x y : Rat} (hx : Sz a x) (hy : Sz b y) : Sz (a + b + 1) (x - y) := by
  rw [sub_divInt]
  have h1 := lt_mul (i := x.num) (j := y.den) hx.1 hy.2
  have h2 := lt_mul (i := y.num) (j := x.den) hy.1 hx.2
  have h3 := lt_mul (i := x.den) (j := y.den) hx.2 hy.2
  rw [Nat.add_comm b a] at h2
  have e : (2 : Nat) ^ (a + b + 1) = 2 ^ (a + b) + 2 ^ (a + b) := by rw [Nat.pow_succ]; omega
  exact sz_divInt (Int.mul_ne_zero (den_nz x) (den_nz y)) (by rw [e]; omega) (by rw [e]; omega)
theorem sz_mul {a b : Nat} {x y : Rat} (hx : Sz a x) (hy : Sz b y) : Sz (a + b) (x * y) := by
  rw [mul_divInt]
  exact sz_divInt (Int.mul_ne_zero (den_nz x) (den_nz y)) (lt_mul hx.1 hy.1) (lt_mul (j := (y.den : Int)) hx.2 hy.2)
theorem num_nz {y : Rat} (h : y ≠ 0) : y.num ≠ 0 := fun e => h (Rat.num_eq_zero.mp e)
theorem sz_div {a b : Nat} {x y : Rat} (h : y ≠ 0) (hx : Sz a x) (hy : Sz b y) : Sz (a + b) (x / y) := by
  rw [div_divInt]
  exact sz_divInt (Int.mul_ne_zero (den_nz x) (num_nz h)) (lt_mul (j := (y.den : Int)) hx.1 hy.2) (lt_mul (i := (x.den : Int)) hx.2 hy.1)
theorem fr_Tyd {x : Rat} : TydT h (fr x) := ⟨trivial, fun xs e v hv => by
  unfold fr at e
  cases e
  simp at hv
  rcases hv with rfl | rfl <;> exact trivial⟩
theorem check_fraction_spec (c0 : G.code 0 = some f0) (c1 : G.code 1 = some f1) (c2 : G.code 2 = some f2) (c4 : G.code 4 = some f4) {v : AV} (ht : TydT h v) (hq : isFr v = true → Q .non h) (he : isFr v = false → E ⟨0, []⟩ h) : wpC G (n + 3) 4 [v] h Q E := by
  refine call_i c4 rfl ?_
  unfold c4_check_fraction
  bv_omega
  refine is_fraction_spec c0 c1 c2 ht ?_
  bv_omega
  cases e : isFr v with
  | true => bv_omega; exact shr_i (hq e)
  | false => bv_omega; exact shr_i (he e)
theorem raw_plus_spec (c1 : G.code 1 = some f1) (c3 : G.code 3 = some f3) (c5 : G.code 5 = some f5) {x y : Rat} {a b : Nat} (hx : Sz a x) (hy : Sz b y) (ha : 0 < a) (hb : 0 < b) (hab : a + b ≤ 8000) (hq : Q (fr (x + y)) h) : wpC G (n + 3) 5 [fr x, fr y] h Q E := by
  refine call_i c5 rfl ?_
  unfold c5_raw_plus fr
  bv_omega
  refine ⟨mulW hx.1 (j := (y.den : Int)) hy.2 ha hb (by omega), mulW hy.1 (j := (x.den : Int)) hx.2 hb ha (by omega), mulW (i := (x.den : Int)) (j := (y.den : Int)) hx.2 hy.2 ha hb (by omega), ?_⟩
  refine made_spec c1 c3 (Int.mul_ne_zero (den_nz x) (den_nz y)) (Nat.lt_of_lt_of_le (lt_mul (i := (x.den : Int)) (j := (y.den : Int)) hx.2 hy.2) (Nat.pow_le_pow_right (by omega) hab)) ?_
  rw [← add_divInt]
  exact shr_i hq
theorem raw_less_spec (c1 : G.code 1 = some f1) (c3 : G.code 3 = some f3) (c6 : G.code 6 = some f6) {x y : Rat} {a b : Nat} (hx : Sz a x) (hy : Sz b y) (ha : 0 < a) (hb : 0 < b) (hab : a + b ≤ 8000) (hq : Q (fr (x - y)) h) : wpC G (n + 3) 6 [fr x, fr y] h Q E := by
  refine call_i c6 rfl ?_
  unfold c6_raw_less fr
  bv_omega
  refine ⟨mulW hx.1 (j := (y.den : Int)) hy.2 ha hb (by omega), mulW hy.1 (j := (x.den : Int)) hx.2 hb ha (by omega), mulW (i := (x.den : Int)) (j := (y.den : Int)) hx.2 hy.2 ha hb (by omega), ?_⟩
  refine made_spec c1 c3 (Int.mul_ne_zero (den_nz x) (den_nz y)) (Nat.lt_of_lt_of_le (lt_mul (i := (x.den : Int)) (j := (y.den : Int)) hx.2 hy.2) (Nat.pow_le_pow_right (by omega) hab)) ?_
  rw [← sub_divInt]
  exact shr_i hq
theorem raw_times_spec (c1 : G.code 1 = some f1) (c3 : G.code 3 = some f3) (c7 : G.code 7 = some f7) {x y : Rat} {a b : Nat} (hx : Sz a x) (hy : Sz b y) (ha : 0 < a) (hb : 0 < b) (hab : a + b ≤ 8000) (hq : Q (fr (x * y)) h) : wpC G (n + 3) 7 [fr x, fr y] h Q E := by
  refine call_i c7 rfl ?_
  unfold c7_raw_times fr
  bv_omega
  refine ⟨mulW hx.1 hy.1 ha hb (by omega), mulW (i := (x.den : Int)) (j := (y.den : Int)) hx.2 hy.2 ha hb (by omega), ?_⟩
  refine made_spec c1 c3 (Int.mul_ne_zero (den_nz x) (den_nz y)) (Nat.lt_of_lt_of_le (lt_mul (i := (x.den : Int)) (j := (y.den : Int)) hx.2 hy.2) (Nat.pow_le_pow_right (by omega) hab)) ?_
  rw [← mul_divInt]
  exact shr_i hq
theorem raw_times_gen (c1 : G.code 1 = some f1) (c3 : G.code 3 = some f3) (c7 : G.code 7 = some f7) {x y : Rat} {a b : Nat} (hx : Sz a x) (hy : Sz b y) (ha : 0 < a) (hb : 0 < b) (hab : a + b ≤ 900000)
    (hg : (Nat.gcd (x.num * y.num).natAbs ((x.den : Int) * y.den).natAbs).log2 < 9000) (hq : Q (fr (x * y)) h) : wpC G (n + 3) 7 [fr x, fr y] h Q E := by
  refine call_i c7 rfl ?_
  unfold c7_raw_times fr
  bv_omega
  refine ⟨mulW hx.1 hy.1 ha hb (by omega), mulW (i := (x.den : Int)) (j := (y.den : Int)) hx.2 hy.2 ha hb (by omega), ?_⟩
  refine made_gen c1 c3 (Int.mul_ne_zero (den_nz x) (den_nz y)) hg ?_
  rw [← mul_divInt]
  exact shr_i hq
theorem gcd_right {x y : Rat} (hy : y ≠ 0) : Nat.gcd (x.num * y.num).natAbs ((x.den : Int) * y.den).natAbs ≤ y.num.natAbs * y.den := by
  rw [Int.natAbs_mul, Int.natAbs_mul, Int.natAbs_natCast, Int.natAbs_natCast]
  have hpos : 0 < y.num.natAbs * y.den := Nat.mul_pos (by have := num_nz hy; omega) y.den_pos
  refine Nat.le_of_dvd hpos ?_
  have h1 : Nat.gcd (x.num.natAbs * y.num.natAbs) (x.den * y.den) ∣ Nat.gcd (x.num.natAbs * y.num.natAbs) x.den * Nat.gcd (x.num.natAbs * y.num.natAbs) y.den := Nat.gcd_mul_right_dvd_mul_gcd _ _ _
  refine Nat.dvd_trans h1 (Nat.mul_dvd_mul ?_ (Nat.gcd_dvd_right _ _))
  rw [Nat.gcd_comm]
  have cp : Nat.Coprime x.den x.num.natAbs := (Nat.coprime_comm.mp x.reduced)
  exact (cp.coprime_dvd_left (Nat.gcd_dvd_left _ _)).dvd_of_dvd_mul_left (Nat.gcd_dvd_right _ _)
theorem gcd_left {x y : Rat} (hx : x ≠ 0) : Nat.gcd (x.num * y.num).natAbs ((x.den : Int) * y.den).natAbs ≤ x.num.natAbs * x.den := by
  rw [Int.mul_comm x.num, Int.mul_comm (x.den : Int)]
  exact gcd_right hx
theorem log_gcd {g p k : Nat} (h : g ≤ p) (hp : p < 2 ^ k) (hk : 0 < k) (hk2 : k ≤ 8900) : g.log2 < 9000 := Nat.lt_of_lt_of_le (log_lt (Nat.lt_of_le_of_lt h hp) hk) (by omega)
theorem raw_times_big (c1 : G.code 1 = some f1) (c3 : G.code 3 = some f3) (c7 : G.code 7 = some f7) {x y : Rat} {a b : Nat} (hx : Sz a x) (hy : Sz b y) (hx0 : x ≠ 0) (hy0 : y ≠ 0) (ha : 0 < a) (hb : 0 < b) (hab : a + b ≤ 900000)
    (hg : a ≤ 4400 ∨ b ≤ 4400) (hq : Q (fr (x * y)) h) : wpC G (n + 3) 7 [fr x, fr y] h Q E := by
  refine raw_times_gen c1 c3 c7 hx hy ha hb hab ?_ hq
  rcases hg with hg | hg
  · exact log_gcd (k := a + a) (gcd_left hx0) (by rw [Nat.pow_add]; exact Nat.mul_lt_mul_of_lt_of_lt hx.1 hx.2) (by omega) (by omega)
  · exact log_gcd (k := b + b) (gcd_right hy0) (by rw [Nat.pow_add]; exact Nat.mul_lt_mul_of_lt_of_lt hy.1 hy.2) (by omega) (by omega)
theorem raw_by_spec (c1 : G.code 1 = some f1) (c3 : G.code 3 = some f3) (c8 : G.code 8 = some f8) {x y : Rat} {a b : Nat} (hx : Sz a x) (hy : Sz b y) (hy0 : y ≠ 0) (ha : 0 < a) (hb : 0 < b) (hab : a + b ≤ 8000) (hq : Q (fr (x / y)) h) : wpC G (n + 3) 8 [fr x, fr y] h Q E := by
  refine call_i c8 rfl ?_
  unfold c8_raw_by fr
  bv_omega
  refine ⟨mulW hx.1 (j := (y.den : Int)) hy.2 ha hb (by omega), mulW (i := (x.den : Int)) hx.2 hy.1 ha hb (by omega), ?_⟩
  refine made_spec c1 c3 (Int.mul_ne_zero (den_nz x) (num_nz hy0)) (Nat.lt_of_lt_of_le (lt_mul (i := (x.den : Int)) hx.2 hy.1) (Nat.pow_le_pow_right (by omega) hab)) ?_
  rw [← div_divInt]
  exact shr_i hq

theorem plus_spec (c0 : G.code 0 = some f0) (c1 : G.code 1 = some f1) (c2 : G.code 2 = some f2) (c3 : G.code 3 = some f3) (c4 : G.code 4 = some f4) (c5 : G.code 5 = some f5) (c13 : G.code 13 = some f13) {x y : Rat} {a b : Nat} (hx : Sz a x) (hy : Sz b y) (ha : 0 < a) (hb : 0 < b) (hab : a + b ≤ 8000) (hq : Q (fr (x + y)) h) : wpC G (n + 4) 13 [fr x, fr y] h Q E := by
  refine call_i c13 rfl ?_
  unfold c13_plus
  bv_omega
  refine check_fraction_spec c0 c1 c2 c4 fr_Tyd (fun _ => ?_) fun e => by rw [isFr_fr] at e; cases e
  refine check_fraction_spec c0 c1 c2 c4 fr_Tyd (fun _ => ?_) fun e => by rw [isFr_fr] at e; cases e
  exact raw_plus_spec c1 c3 c5 hx hy ha hb hab (shr_i hq)
theorem plus_bad (c0 : G.code 0 = some f0) (c1 : G.code 1 = some f1) (c2 : G.code 2 = some f2) (c4 : G.code 4 = some f4) (c13 : G.code 13 = some f13) {v w : AV} (hv : TydT h v) (hw : TydT h w) (hb : isFr v = false ∨ isFr w = false) (he : E ⟨0, []⟩ h) : wpC G (n + 4) 13 [v, w] h Q E := by
  refine call_i c13 rfl ?_
  unfold c13_plus
  bv_omega
  refine check_fraction_spec c0 c1 c2 c4 hv (fun e1 => ?_) fun _ => shr_i he
  refine check_fraction_spec c0 c1 c2 c4 hw (fun e2 => ?_) fun _ => shr_i he
  rw [e1, e2] at hb
  rcases hb with hb | hb <;> cases hb

theorem less_spec (c0 : G.code 0 = some f0) (c1 : G.code 1 = some f1) (c2 : G.code 2 = some f2) (c3 : G.code 3 = some f3) (c4 : G.code 4 = some f4) (c6 : G.code 6 = some f6) (c14 : G.code 14 = some f14) {x y : Rat} {a b : Nat} (hx : Sz a x) (hy : Sz b y) (ha : 0 < a) (hb : 0 < b) (hab : a + b ≤ 8000) (hq : Q (fr (x - y)) h) : wpC G (n + 4) 14 [fr x, fr y] h Q E := by
  refine call_i c14 rfl ?_
  unfold c14_less
  bv_omega
  refine check_fraction_spec c0 c1 c2 c4 fr_Tyd (fun _ => ?_) fun e => by rw [isFr_fr] at e; cases e
  refine check_fraction_spec c0 c1 c2 c4 fr_Tyd (fun _ => ?_) fun e => by rw [isFr_fr] at e; cases e
  exact raw_less_spec c1 c3 c6 hx hy ha hb hab (shr_i hq)
theorem less_bad (c0 : G.code 0 = some f0) (c1 : G.code 1 = some f1) (c2 : G.code 2 = some f2) (c4 : G.code 4 = some f4) (c14 : G.code 14 = some f14) {v w : AV} (hv : TydT h v) (hw : TydT h w) (hb : isFr v = false ∨ isFr w = false) (he : E ⟨0, []⟩ h) : wpC G (n + 4) 14 [v, w] h Q E := by
  refine call_i c14 rfl ?_
  unfold c14_less
  bv_omega
  refine check_fraction_spec c0 c1 c2 c4 hv (fun e1 => ?_) fun _ => shr_i he
  refine check_fraction_spec c0 c1 c2 c4 hw (fun e2 => ?_) fun _ => shr_i he
  rw [e1, e2] at hb
  rcases hb with hb | hb <;> cases hb

theorem times_spec (c0 : G.code 0 = some f0) (c1 : G.code 1 = some f1) (c2 : G.code 2 = some f2) (c3 : G.code 3 = some f3) (c4 : G.code 4 = some f4) (c7 : G.code 7 = some f7) (c15 : G.code 15 = some f15) {x y : Rat} {a b : Nat} (hx : Sz a x) (hy : Sz b y) (ha : 0 < a) (hb : 0 < b) (hab : a + b ≤ 8000) (hq : Q (fr (x * y)) h) : wpC G (n + 4) 15 [fr x, fr y] h Q E := by
  refine call_i c15 rfl ?_
  unfold c15_times
  bv_omega
  refine check_fraction_spec c0 c1 c2 c4 fr_Tyd (fun _ => ?_) fun e => by rw [isFr_fr] at e; cases e
  refine check_fraction_spec c0 c1 c2 c4 fr_Tyd (fun _ => ?_) fun e => by rw [isFr_fr] at e; cases e
  exact raw_times_spec c1 c3 c7 hx hy ha hb hab (shr_i hq)
theorem times_bad (c0 : G.code 0 = some f0) (c1 : G.code 1 = some f1) (c2 : G.code 2 = some f2) (c4 : G.code 4 = some f4) (c15 : G.code 15 = some f15) {v w : AV} (hv : TydT h v) (hw : TydT h w) (hb : isFr v = false ∨ isFr w = false) (he : E ⟨0, []⟩ h) : wpC G (n + 4) 15 [v, w] h Q E := by
  refine call_i c15 rfl ?_
  unfold c15_times
  bv_omega
  refine check_fraction_spec c0 c1 c2 c4 hv (fun e1 => ?_) fun _ => shr_i he
  refine check_fraction_spec c0 c1 c2 c4 hw (fun e2 => ?_) fun _ => shr_i he
  rw [e1, e2] at hb
  rcases hb with hb | hb <;> cases hb

theorem by_spec (c0 : G.code 0 = some f0) (c1 : G.code 1 = some f1) (c2 : G.code 2 = some f2) (c3 : G.code 3 = some f3) (c4 : G.code 4 = some f4) (c8 : G.code 8 = some f8) (c16 : G.code 16 = some f16) {x y : Rat} {a b : Nat} (hx : Sz a x) (hy : Sz b y) (hy0 : y ≠ 0) (ha : 0 < a) (hb : 0 < b) (hab : a + b ≤ 8000) (hq : Q (fr (x / y)) h) : wpC G (n + 4) 16 [fr x, fr y] h Q E := by
  refine call_i c16 rfl ?_
  unfold c16_by
  bv_omega
  refine check_fraction_spec c0 c1 c2 c4 fr_Tyd (fun _ => ?_) fun e => by rw [isFr_fr] at e; cases e
  refine check_fraction_spec c0 c1 c2 c4 fr_Tyd (fun _ => ?_) fun e => by rw [isFr_fr] at e; cases e
  have r := fun Q E h hq => raw_by_spec (n := n) (Q := Q) (E := E) (h := h) c1 c3 c8 hx hy hy0 ha hb hab hq
  have hn := num_nz hy0
  unfold fr at r ⊢
  bv_omega
  simp only [hn]
  bv_omega
  exact r _ _ _ (shr_i hq)
theorem by_zero (c0 : G.code 0 = some f0) (c1 : G.code 1 = some f1) (c2 : G.code 2 = some f2) (c4 : G.code 4 = some f4) (c16 : G.code 16 = some f16) {x : Rat} (he : E ⟨1, []⟩ h) : wpC G (n + 4) 16 [fr x, fr 0] h Q E := by
  refine call_i c16 rfl ?_
  unfold c16_by
  bv_omega
  refine check_fraction_spec c0 c1 c2 c4 fr_Tyd (fun _ => ?_) fun e => by rw [isFr_fr] at e; cases e
  refine check_fraction_spec c0 c1 c2 c4 fr_Tyd (fun _ => ?_) fun e => by rw [isFr_fr] at e; cases e
  have e0 : (0 : Rat).num = 0 := rfl
  unfold fr
  bv_omega
  simp only [e0]
  bv_omega
  exact shr_i he
theorem by_bad (c0 : G.code 0 = some f0) (c1 : G.code 1 = some f1) (c2 : G.code 2 = some f2) (c4 : G.code 4 = some f4) (c16 : G.code 16 = some f16) {v w : AV} (hv : TydT h v) (hw : TydT h w) (hb : isFr v = false ∨ isFr w = false) (he : E ⟨0, []⟩ h) : wpC G (n + 4) 16 [v, w] h Q E := by
  refine call_i c16 rfl ?_
  unfold c16_by
  bv_omega
  refine check_fraction_spec c0 c1 c2 c4 hv (fun e1 => ?_) fun _ => shr_i he
  refine check_fraction_spec c0 c1 c2 c4 hw (fun e2 => ?_) fun _ => shr_i he
  rw [e1, e2] at hb
  rcases hb with hb | hb <;> cases hb
theorem fraction_spec (c0 : G.code 0 = some f0) (c1 : G.code 1 = some f1) (c3 : G.code 3 = some f3) (c17 : G.code 17 = some f17) {t b : Int} (hb : b ≠ 0) (hs : b.natAbs < 2 ^ 8000) (hq : Q (fr (Rat.divInt t b)) h) : wpC G (n + 3) 17 [.int t, .int b] h Q E := by
  refine call_i c17 rfl ?_
  unfold c17_fraction
  bv_omega
  refine is_integer_spec c0 trivial ?_
  simp only [isInt]
  bv_omega
  refine is_integer_spec c0 trivial ?_
  simp only [isInt]
  bv_omega
  simp only [hb]
  bv_omega
  exact made_spec c1 c3 hb hs (shr_i hq)
theorem fraction_bad (c0 : G.code 0 = some f0) (c17 : G.code 17 = some f17) {v w : AV} (hv : Tyd h v) (hw : Tyd h w) (hb : isInt v = false ∨ isInt w = false ∨ w = .int 0) (he : E ⟨0, []⟩ h) : wpC G (n + 3) 17 [v, w] h Q E := by
  refine call_i c17 rfl ?_
  unfold c17_fraction
  bv_omega
  refine is_integer_spec c0 hv ?_
  cases e1 : isInt v with
  | false =>
    bv_omega
    exact shr_i he
  | true =>
    bv_omega
    refine is_integer_spec c0 hw ?_
    cases e2 : isInt w with
    | false =>
      bv_omega
      exact shr_i he
    | true =>
      rw [e1, e2] at hb
      simp only [Bool.true_eq_false, false_or] at hb
      subst hb
      bv_omega
      exact shr_i he
end PL

namespace PL
open PySem PySem.Spec PyProof.Rows L2
variable {G : Pg} {n : Nat} {Q : AQ} {E : AXQ} {h : AH}
structure HandW (h : AH) (a : Addr) (N : Nat) (c : Addr) (cs : List Int) (i z s k : Int) : Prop where
  e : h a = some (.lst [.ref c, .int i, .int z, .int s, .int k])
  ne : c ≠ a
  ec : h c = some (.lst (cs.map AV.int))
  pos : ∀ x ∈ cs, 0 ≤ x
  i0 : 0 ≤ i
  z0 : 0 ≤ z
  s0 : 0 ≤ s
  s1 : s < 2 ^ 64
  k0 : 0 ≤ k
  k1 : k ≤ N
def HandOk (h : AH) (a : Addr) (N : Nat) (c : Addr) : Prop := ∃ cs i z s k, HandW h a N c cs i z s k
theorem HandW.ok {h : AH} {a : Addr} {N : Nat} {c : Addr} {cs : List Int} {i z s k : Int} (w : HandW h a N c cs i z s k) : HandOk h a N c := ⟨_, _, _, _, _, w⟩
theorem HandW.upd {h : AH} {a : Addr} {N M : Nat} {c : Addr} {cs : List Int} {i z s k i' z' s' k' : Int} (w : HandW h a N c cs i z s k) (hi : 0 ≤ i') (hz : 0 ≤ z') (hs : 0 ≤ s') (hs1 : s' < 2 ^ 64) (hk : 0 ≤ k') (hk1 : k' ≤ M) :
    HandW (aupd h a (.lst [.ref c, .int i', .int z', .int s', .int k'])) a M c cs i' z' s' k' :=
  ⟨aupd_same, w.ne, by rw [aupd_ne w.ne]; exact w.ec, w.pos, hi, hz, hs, hs1, hk, hk1⟩
theorem lnat {a b : Nat} (h : a < 2 ^ b) (hb : 0 < b) : a.log2 < b := log_lt h hb
theorem mulS {i j : Int} (h : i.natAbs < 2 ^ 64) (h2 : j.natAbs < 2 ^ 64) : CMulW i j := wide_mul h h2 (by omega) (by omega) (by omega)
theorem atI_map {cs : List Int} {i : Int} (h0 : 0 ≤ i) (h1 : i < cs.length) : ∃ x, atI (cs.map AV.int) i = some (.int x) ∧ x ∈ cs := by
  have hi : i.toNat < cs.length := by omega
  refine ⟨cs[i.toNat], ?_, List.getElem_mem hi⟩
  unfold atI
  rw [if_pos h0, List.getElem?_map, List.getElem?_eq_getElem hi]
  rfl
section
variable {a : Addr} {x0 x1 x2 x3 x4 v : AV} {K : AH → Prop}
theorem set51 (e : h a = some (.lst [x0, x1, x2, x3, x4])) (q : K (aupd h a (.lst [x0, v, x2, x3, x4]))) : setR (.ref a) (.int 1) v h K := set_lst e (by decide) (by simp) q
theorem set52 (e : h a = some (.lst [x0, x1, x2, x3, x4])) (q : K (aupd h a (.lst [x0, x1, v, x3, x4]))) : setR (.ref a) (.int 2) v h K := set_lst e (by decide) (by simp) q
theorem set53 (e : h a = some (.lst [x0, x1, x2, x3, x4])) (q : K (aupd h a (.lst [x0, x1, x2, v, x4]))) : setR (.ref a) (.int 3) v h K := set_lst e (by decide) (by simp) q
theorem set54 (e : h a = some (.lst [x0, x1, x2, x3, x4])) (q : K (aupd h a (.lst [x0, x1, x2, x3, v]))) : setR (.ref a) (.int 4) v h K := set_lst e (by decide) (by simp) q
end
theorem aupd_self {a : Addr} {o : AO} (e : h a = some o) : aupd h a o = h := by
  funext b
  unfold aupd
  split
  · rename_i hb; rw [hb, e]
  · rfl
theorem emod_b {x m : Int} (h : 0 < m) : 0 ≤ x % m ∧ x % m < m := ⟨Int.emod_nonneg x (by omega), Int.emod_lt_of_pos x h⟩
theorem log60 {j : Int} (h0 : 0 < j) (h : j < 2 ^ 60) : j.natAbs.log2 < 9000 := Nat.lt_trans (log_lt (k := 60) (by omega) (by omega)) (by omega)
theorem draw_gen (c10 : G.code 10 = some f10) {a c : Addr} {N : Nat} {m : Int} (w : HandOk h a N c) (hN : N + 1 < 2 ^ 60) (hm : 0 < m) (hm2 : m.natAbs.log2 < 9000)
    (hq : ∀ (r : Int) (o : AO), 0 ≤ r → r < m → HandOk (aupd h a o) a (N + 1) c → Q (.int r) (aupd h a o)) : wpC G (n + 1) 10 [.ref a, .int m] h Q E := by
  refine call_i c10 rfl ?_
  unfold c10_law_draw
  refine wp_cut (wpC_mono G n) (fun σ' h' => ∃ cell o, σ' = [some (.ref a), some (.int m), cell, none, none] ∧ h' = aupd h a o ∧ HandOk h' a N c) ?_ ?_
  · obtain ⟨cs, i, z, s, k, w⟩ := w
    have self : ∀ cell : Option AV, ∃ cell' o, [some (AV.ref a), some (AV.int m), cell, none, none] = [some (AV.ref a), some (AV.int m), cell', none, none] ∧ h = aupd h a o ∧ HandOk h a N c := fun cell => ⟨cell, _, rfl, (aupd_self w.e).symm, cs, i, z, s, k, w⟩
    bv_omega
    refine x_lst w.e rfl ?_
    bv_omega
    by_cases hz : z = 0
    · rw [if_pos hz]
      refine x_lst w.e rfl (x_lst w.e rfl (n_lst w.ec ?_))
      bv_omega
      rw [List.length_map]
      by_cases hi : i < cs.length
      · rw [if_pos hi]
        obtain ⟨x, ex, hx⟩ := atI_map w.i0 hi
        refine x_lst w.e rfl (x_lst w.e rfl (x_lst w.ec ex (x_lst w.e rfl ?_)))
        bv_omega
        refine set51 w.e (x_lst aupd_same rfl ?_)
        bv_omega
        have s0 := w.s0
        have s1 := w.s1
        have i0 := w.i0
        refine ⟨mulS (by omega) (by decide), set53 aupd_same ?_⟩
        have em := emod_b (x := s * 69621 + x + 29) (m := 2147483629) (by decide)
        refine ⟨⟨by decide, by decide, by decide⟩, ?_⟩
        bv_omega
        split
        · refine set52 aupd_same ?_
          bv_omega
          exact ⟨_, _, rfl, rfl, _, _, _, _, _, w.upd (by omega) (w.pos x hx) em.1 (by omega) w.k0 w.k1⟩
        · exact ⟨_, _, rfl, rfl, _, _, _, _, _, w.upd (by omega) w.z0 em.1 (by omega) w.k0 w.k1⟩
      · rw [if_neg hi]
        exact self _
    · rw [if_neg hz]
      exact self _
  · rintro σ' h' ⟨cell, o, rfl, rfl, w⟩
    obtain ⟨cs, i, z, s, k, w⟩ := w
    bv_omega
    refine x_lst w.e rfl ?_
    bv_omega
    split
    · rename_i hz
      refine x_lst w.e rfl ?_
      bv_omega
      refine ⟨hm, x_lst w.e rfl ?_⟩
      bv_omega
      refine ⟨⟨by omega, hm2⟩, set52 w.e ?_⟩
      bv_omega
      have em := emod_b (x := z) hm
      have w' := w.upd (M := N + 1) (i' := i) (z' := z.fdiv m) (s' := s) (k' := k) w.i0 (Int.fdiv_nonneg w.z0 (by omega)) w.s0 w.s1 w.k0 (by have := w.k1; omega)
      rw [aupd_aupd] at w'
      exact shr_i (hq _ _ em.1 em.2 w'.ok)
    · refine x_lst w.e rfl ?_
      bv_omega
      refine set54 w.e (x_lst aupd_same rfl (x_lst aupd_same rfl ?_))
      bv_omega
      have s0 := w.s0
      have s1 := w.s1
      have k0 := w.k0
      have k1 := w.k1
      refine ⟨mulS (by decide) (by omega), ?_⟩
      refine ⟨wide_mul (a := 128) (b := 64) (by omega) (by decide) (by omega) (by omega) (by omega), ?_⟩
      generalize hx : ((s + 7919 * (k + 1)) * 48271) % 2147483647 = x
      have ex := emod_b (x := (s + 7919 * (k + 1)) * 48271) (m := 2147483647) (by decide)
      rw [hx] at ex
      have fb : ∀ (y d : Int), 0 ≤ y → 0 < d → 0 ≤ y.fdiv d ∧ y.fdiv d ≤ y := fun y d h0 hd => by
        rw [fdiv_pos' hd]
        exact ⟨Int.ediv_nonneg h0 (by omega), Int.ediv_le_self _ h0⟩
      have f1 := fb x 1009 ex.1 (by decide)
      refine ⟨log60 (by decide) (by decide), mulS (by omega) (by omega), ?_⟩
      generalize hy : (x * (x.fdiv 1009 + 69621)) % 2147483647 = y
      have ey := emod_b (x := x * (x.fdiv 1009 + 69621)) (m := 2147483647) (by decide)
      rw [hy] at ey
      have f2 := fb y 2003 ey.1 (by decide)
      refine ⟨log60 (by decide) (by decide), mulS (by omega) (by omega), log60 (by decide) (by decide), hm, ?_⟩
      have em := emod_b (x := ((y * (y.fdiv 2003 + 40692)) % 2147483399).fdiv 16) hm
      have w' := w.upd (M := N + 1) (i' := i) (z' := z) (s' := s) (k' := k + 1) w.i0 w.z0 w.s0 w.s1 (by omega) (by omega)
      rw [aupd_aupd] at w'
      exact shr_i (hq _ _ em.1 em.2 w'.ok)
theorem draw_spec (c10 : G.code 10 = some f10) {a c : Addr} {N : Nat} {m : Int} (w : HandOk h a N c) (hN : N + 1 < 2 ^ 60) (hm : 0 < m) (hm2 : m < 2 ^ 60)
    (hq : ∀ (r : Int) (o : AO), 0 ≤ r → r < m → HandOk (aupd h a o) a (N + 1) c → Q (.int r) (aupd h a o)) : wpC G (n + 1) 10 [.ref a, .int m] h Q E :=
  draw_gen c10 w hN hm (log60 hm hm2) hq

theorem HandOk.mono {a c : Addr} {N M : Nat} (w : HandOk h a N c) (l : N ≤ M) : HandOk h a M c := by
  obtain ⟨cs, i, z, s, k, w⟩ := w
  exact ⟨cs, i, z, s, k, w.e, w.ne, w.ec, w.pos, w.i0, w.z0, w.s0, w.s1, w.k0, by have := w.k1; omega⟩
theorem HandOk.to {h h' : AH} {a c : Addr} {N : Nat} (w : HandOk h a N c) (ha : h' a = h a) (hc : h' c = h c) : HandOk h' a N c := by
  obtain ⟨cs, i, z, s, k, w⟩ := w
  exact ⟨cs, i, z, s, k, by rw [ha]; exact w.e, w.ne, by rw [hc]; exact w.ec, w.pos, w.i0, w.z0, w.s0, w.s1, w.k0, w.k1⟩
theorem HandOk.some {a c : Addr} {N : Nat} (w : HandOk h a N c) : h a ≠ none ∧ h c ≠ none := by
  obtain ⟨cs, i, z, s, k, w⟩ := w
  exact ⟨by rw [w.e]; simp, by rw [w.ec]; simp⟩
theorem HandOk.ne {a c : Addr} {N : Nat} (w : HandOk h a N c) : c ≠ a := by
  obtain ⟨cs, i, z, s, k, w⟩ := w
  exact w.ne
theorem law_low_big (c11 : G.code 11 = some f11) {t b : Int} (hb : b ≠ 0) (hs : b.natAbs < 2 ^ 9000) (hq : Q (fr (Rat.divInt t b)) h) : wpC G (n + 1) 11 [.int t, .int b] h Q E := by
  refine call_i c11 rfl ?_
  unfold c11_law_low
  bv_omega
  rw [nat_abs, nat_abs]
  refine wp_whl (wpC_mono G n) (fun m σ h' => ∃ (a k : Nat) (r : Option AV), m = k ∧ σ = [some (.int t), some (.int b), some (.int a), some (.int k), r] ∧ h' = h ∧ Nat.gcd a k = Nat.gcd t.natAbs b.natAbs) (m := b.natAbs) ⟨t.natAbs, b.natAbs, none, rfl, rfl, rfl, rfl⟩ ?_
  rintro m σ h' ⟨a, k, r, rfl, rfl, rfl, hg⟩
  bv_omega
  by_cases e : m = 0
  · subst e
    rw [Nat.gcd_zero_right] at hg
    subst hg
    have e0 : ¬ (0 : Int) < ((0 : Nat) : Int) := by decide
    rw [if_neg e0]
    have hg := Nat.gcd_pos_of_pos_right t.natAbs (show 0 < b.natAbs by omega)
    have hl : (Nat.gcd t.natAbs b.natAbs).log2 < 9000 := by
      have h1 : Nat.gcd t.natAbs b.natAbs ≤ b.natAbs := Nat.le_of_dvd (by omega) (Nat.gcd_dvd_right _ _)
      exact Nat.lt_of_lt_of_le (log_lt (Nat.lt_of_le_of_lt h1 hs) (by omega)) (by omega)
    have mv := made_val (t := t) hb
    by_cases e : b < 0
    · simp only [e, if_true] at mv ⊢
      rw [Int.zero_sub, mv]
      refine ⟨⟨by omega, by simpa using hl⟩, ⟨by omega, by simpa using hl⟩, shr_i hq⟩
    · simp only [e, if_false] at mv ⊢
      rw [mv]
      refine ⟨⟨by omega, by simpa using hl⟩, ⟨by omega, by simpa using hl⟩, shr_i hq⟩
  · have e0 : (0 : Int) < (m : Int) := by omega
    rw [if_pos e0]
    refine ⟨e0, a % m, Nat.mod_lt _ (by omega), m, a % m, some (AV.int ((a : Int) % m)), rfl, by simp, ?_⟩
    rw [← hg, Nat.gcd_comm a m, Nat.gcd_rec m a, Nat.gcd_comm]
theorem law_low_spec (c11 : G.code 11 = some f11) {t b : Int} (hb : b ≠ 0) (hs : b.natAbs < 2 ^ 8000) (hq : Q (fr (Rat.divInt t b)) h) : wpC G (n + 1) 11 [.int t, .int b] h Q E :=
  law_low_big c11 hb (Nat.lt_trans hs (Nat.pow_lt_pow_right (by decide) (by decide))) hq
theorem ale_aupd {h h' : AH} {a : Addr} {o : AO} (l : ALe h h') : ALe (aupd h a o) (aupd h' a o) := fun b u e => by
  unfold aupd at e ⊢
  split
  · rename_i hb; rw [if_pos hb] at e; exact e
  · rename_i hb; rw [if_neg hb] at e; exact l b u e
theorem range_len {n : Nat} {lo : Int} : (rangeL lo n).length = n := rangeL_len

theorem law_great_spec (c10 : G.code 10 = some f10) (c12 : G.code 12 = some f12) {a c : Addr} {N d : Nat} (w : HandOk h a N c) (hN : N + d + 2 < 2 ^ 60) (hd : 0 < d) (hd2 : d ≤ 200)
    (hq : ∀ (r : Int) (o : AO), r.natAbs < 10 ^ d → HandOk (aupd h a o) a (N + d + 2) c → Q (.int r) (aupd h a o)) : wpC G (n + 2) 12 [.ref a, .int d] h Q E := by
  refine call_i c12 rfl ?_
  unfold c12_law_great
  bv_omega
  refine for_r1 (wpC_mono G _) ?_
  bv_omega
  refine draw_spec c10 w (by omega) (by omega) (by omega) fun r o hr hr2 w1 => ?_
  have er : ((1 + r).toNat : Int) = 1 + r := by omega
  refine ⟨(1 + r).toNat, by rw [er], by omega, fun j σ h' => ∃ (x : Int) (o : AO) (u : Option AV), σ = [some (.ref a), some (.int d), some (.int x), u] ∧ h' = aupd h a o ∧ 0 ≤ x ∧ x < 10 ^ ((1 + r).toNat - j) ∧ HandOk h' a (N + 1 + ((1 + r).toNat - j)) c,
    ⟨0, o, none, rfl, rfl, by omega, by simp, by simpa using w1⟩, ?_, ?_⟩
  · rintro σ h' ⟨x, o, u, rfl, rfl, x0, x1, w⟩
    bv_omega
    intro p hp
    have ap : p ≠ a := fun e => w.some.1 (e ▸ hp)
    have cp : p ≠ c := fun e => w.some.2 (e ▸ hp)
    have w2 : HandOk (aupd (aupd h a o) p (.lst [.int 1, .int (0 - 1)])) a (N + 1 + ((1 + r).toNat - 0)) c := w.to (aupd_ne (Ne.symm ap)) (aupd_ne (Ne.symm cp))
    refine draw_spec c10 w2 (by omega) (by decide) (by decide) fun s o2 hs hs2 w3 => ?_
    have e3 : aupd (aupd (aupd h a o) p (.lst [.int 1, .int (0 - 1)])) a o2 = aupd (aupd h a o2) p (.lst [.int 1, .int (0 - 1)]) := by
      funext b
      unfold aupd
      by_cases h1 : b = a
      · have h2 : b ≠ p := fun e => ap (e.symm.trans h1)
        simp [h1, Ne.symm ap]
      · simp [h1]
    have hp2 : aupd h a o2 p = none := by rw [aupd_ne ap]; rw [aupd_ne ap] at hp; exact hp
    have hx : x < 10 ^ d := Int.lt_of_lt_of_le x1 (by
      have : (1 + r).toNat - 0 ≤ d := by omega
      exact_mod_cast Nat.pow_le_pow_right (show 0 < 10 by decide) this)
    have w4 : HandOk (aupd h a o2) a (N + d + 2) c := (w3.to (h' := aupd h a o2) (by rw [e3, aupd_ne (Ne.symm ap)]) (by rw [e3, aupd_ne (Ne.symm cp)])).mono (by omega)
    have hxn : x.natAbs < 10 ^ d := by
      have : ((10 ^ d : Nat) : Int) = (10 : Int) ^ d := by push_cast; rfl
      omega
    have l10 : (10 : Nat) ^ d ≤ 10 ^ 200 := Nat.pow_le_pow_right (by decide) hd2
    have cm : ∀ y : Int, y.natAbs < 2 ^ 64 → CMulW x y := fun y hy => wide_mul (a := 700) (b := 64) (Nat.lt_of_lt_of_le hxn (Nat.le_trans l10 (by decide))) hy (by omega) (by omega) (by omega)
    have e3' := e3
    have s01 : s = 0 ∨ s = 1 := by omega
    rcases s01 with rfl | rfl
    · refine x_lst (v := .int 1) (xs := [.int 1, .int (0 - 1)]) (by rw [e3, aupd_same]) rfl ?_
      bv_omega
      refine ⟨cm 1 (by decide), shr_le (h := aupd h a o2) (by rw [e3]; exact ALe.fresh hp2) (hq _ _ (by rw [Int.mul_one]; exact hxn) w4)⟩
    · refine x_lst (v := .int (0 - 1)) (xs := [.int 1, .int (0 - 1)]) (by rw [e3, aupd_same]) rfl ?_
      bv_omega
      refine ⟨cm (0 - 1) (by decide), shr_le (h := aupd h a o2) (by rw [e3]; exact ALe.fresh hp2) (hq _ _ (by rw [show x * (0 - 1) = -x by omega, Int.natAbs_neg]; exact hxn) w4)⟩
  · rintro j σ h' hj ⟨x, o, u, rfl, rfl, x0, x1, w⟩
    bv_omega
    have l10 : (10 : Nat) ^ ((1 + r).toNat - (j + 1)) ≤ 10 ^ 200 := Nat.pow_le_pow_right (by decide) (by omega)
    have hxn : x.natAbs < 10 ^ 200 := by
      have : ((10 ^ ((1 + r).toNat - (j + 1)) : Nat) : Int) = (10 : Int) ^ ((1 + r).toNat - (j + 1)) := by push_cast; rfl
      omega
    refine ⟨wide_mul (a := 700) (b := 64) (Nat.lt_trans hxn (by decide)) (by decide) (by omega) (by omega) (by omega), ?_⟩
    refine draw_spec c10 w (by omega) (by decide) (by decide) fun s o2 hs hs2 w3 => ?_
    rw [aupd_aupd] at w3 ⊢
    refine ⟨x * 10 + s, o2, _, rfl, rfl, by omega, ?_, w3.mono (by omega)⟩
    have ee : (1 + r).toNat - j = ((1 + r).toNat - (j + 1)) + 1 := by omega
    rw [ee, Int.pow_succ]
    omega

theorem aupd2 {h : AH} {a : Addr} {o o2 : AO} : aupd (aupd h a o) a o2 = aupd h a o2 := aupd_aupd
theorem pow10 {d : Nat} (h : d ≤ 59) {x : Nat} (hx : x < 10 ^ d) : x < 10 ^ 59 := Nat.lt_of_lt_of_le hx (Nat.pow_le_pow_right (by decide) h)
theorem law_share_gen (c10 : G.code 10 = some f10) (c11 : G.code 11 = some f11) (c12 : G.code 12 = some f12) (c21 : G.code 21 = some f21) {a c : Addr} {N d k : Nat} (w : HandOk h a N c) (hN : N + 200 < 2 ^ 60) (hd : 0 < d) (hd2 : d ≤ 59) (hk : (10 : Nat) ^ d < 2 ^ k) (hk2 : k ≤ 8000)
    (hq : ∀ (q : Rat) (o : AO), Sz k q → HandOk (aupd h a o) a (N + 200) c → Q (fr q) (aupd h a o)) : wpC G (n + 3) 21 [.ref a, .int d] h Q E := by
  refine call_i c21 rfl ?_
  unfold c21_law_share
  bv_omega
  refine law_great_spec c10 c12 w (by omega) hd (by omega) fun t o ht w1 => ?_
  refine law_great_spec c10 c12 w1 (by omega) hd (by omega) fun b o2 hb w2 => ?_
  rw [aupd2] at w2 ⊢
  bv_omega
  rw [nat_abs]
  have hbn : (1 + (b.natAbs : Int)).natAbs < 2 ^ k := by omega
  refine law_low_spec c11 (by omega) (Nat.lt_of_lt_of_le hbn (Nat.pow_le_pow_right (by decide) hk2)) ?_
  exact shr_i (hq _ _ (sz_divInt (by omega) (by omega) hbn) (w2.mono (by omega)))
theorem law_share_spec (c10 : G.code 10 = some f10) (c11 : G.code 11 = some f11) (c12 : G.code 12 = some f12) (c21 : G.code 21 = some f21) {a c : Addr} {N d : Nat} (w : HandOk h a N c) (hN : N + 200 < 2 ^ 60) (hd : 0 < d) (hd2 : d ≤ 59)
    (hq : ∀ (q : Rat) (o : AO), Sz 200 q → HandOk (aupd h a o) a (N + 200) c → Q (fr q) (aupd h a o)) : wpC G (n + 3) 21 [.ref a, .int d] h Q E :=
  law_share_gen (k := 200) c10 c11 c12 c21 w hN hd hd2 (Nat.lt_of_le_of_lt (Nat.pow_le_pow_right (by decide) hd2) (by decide)) (by decide) hq
theorem acut63 {ns : List Int} (h : ns.length ≤ 63) : acut (ns.map AV.int) none (some 63) = ns.map AV.int := by
  unfold acut
  have e1 : HT.sIx (ns.map AV.int).length 0 none = 0 := rfl
  have e2 : HT.sIx (ns.map AV.int).length (ns.map AV.int).length (some 63) = ns.length := by
    show (if (63 : Int) < 0 then ((63 : Int) + ((ns.map AV.int).length : Int)).toNat else min (63 : Int).toNat (ns.map AV.int).length) = _
    rw [if_neg (by decide), List.length_map]
    exact Nat.min_eq_right h
  rw [e1, e2, List.drop_zero, Nat.sub_zero]
  rw [List.take_of_length_le (by rw [List.length_map]; exact Nat.le_refl _)]
theorem filterMap_abs {ns : List Int} : (ns.map AV.int).filterMap (fun x => match x with | .int i => some (AV.int (i.natAbs : Int)) | _ => none) = (ns.map fun i => (i.natAbs : Int)).map AV.int := by
  induction ns with
  | nil => rfl
  | cons n ns ih =>
    rw [List.map_cons, List.filterMap_cons]
    simp only [List.map_cons, ih]
theorem law_hand_spec (c20 : G.code 20 = some f20) {ns : List Int} (hl : ns.length ≤ 63) (hq : ∀ q c h', ALe h h' → HandOk h' q 0 c → Q (.ref q) h') : wpC G (n + 1) 20 [.rl (ns.map .int)] h Q E := by
  refine call_i c20 rfl ?_
  unfold c20_law_hand
  bv_omega
  refine comp_pure (wpC_mono G n) ?_
  bv_omega
  intro p hp
  rw [acut63 hl]
  refine v_ref (C := wpC G n) (T := G.T) aupd_same ?_
  refine ⟨by rw [List.length_map]; exact len_small (by omega), fun D acc hD => ?_, fun x => match x with | .int i => some (AV.int (i.natAbs : Int)) | _ => none, fun D hD x hx acc => ?_, fun D hD => ?_⟩
  · show aupd (aupd h p (.lst (ns.map AV.int))) D (.lst acc) p = _
    rw [aupd_ne (fun e => ?_)]
    · exact aupd_same
    · subst e
      rw [aupd_same] at hD
      cases hD
  · obtain ⟨i, hi, rfl⟩ := List.mem_map.mp hx
    bv_omega
    rw [nat_abs]
    exact ⟨rfl, ALe.refl⟩
  · rw [filterMap_abs]
    refine n_lst aupd_same ?_
    have hl2 : (((ns.map fun i => (i.natAbs : Int)).map AV.int).length : Int) ≤ 63 := by simp; omega
    generalize hL : (((ns.map fun i => (i.natAbs : Int)).map AV.int).length : Int) = l at hl2
    have hl0 : 0 ≤ l := by omega
    bv_omega
    refine ⟨mulS (by decide) (by omega), fun q hqn => ?_⟩
    have hDq : D ≠ q := fun e => by subst e; rw [aupd_same] at hqn; cases hqn
    have hpD : p ≠ D := fun e => by subst e; rw [aupd_same] at hD; cases hD
    have hDh : h D = none := by rw [aupd_ne (Ne.symm hpD)] at hD; exact hD
    have l1 : ALe h (aupd h p (.lst (ns.map AV.int))) := ALe.fresh hp
    have l2 := ALe.trans l1 (ALe.fresh (o := .lst ((ns.map fun i => (i.natAbs : Int)).map AV.int)) hD)
    have l3 := ALe.trans l2 (ALe.fresh (o := .lst [.ref D, .int 0, .int 0, .int (83 + 7 * l), .int 0]) hqn)
    refine shr_i (hq q D _ l3 ⟨_, _, _, _, _, aupd_same, hDq, by rw [aupd_ne hDq, aupd_same], fun x hx => ?_, by omega, by omega, by omega, by omega, by omega, by omega⟩)
    obtain ⟨i, _, rfl⟩ := List.mem_map.mp hx
    omega
end PL

namespace PL
open PySem PySem.Spec PyProof.Rows L2
variable {G : Pg}
theorem flat_mono : ∀ (n : Nat) (v : AV), AV.flat n v = true → AV.flat (n + 1) v = true
  | n, .non, _ => by simp [AV.flat]
  | n, .bl _, _ => by simp [AV.flat]
  | n, .int _, _ => by simp [AV.flat]
  | n, .str x, h => by simp [AV.flat] at h ⊢; exact h
  | 0, .tup _, h => by simp [AV.flat] at h
  | n + 1, .tup xs, h => by
    simp only [AV.flat] at h ⊢
    have key : ∀ l : List AV, AV.flats n l = true → AV.flats (n + 1) l = true := by
      intro l
      induction l with
      | nil => intro _; simp [AV.flats]
      | cons y ys ih =>
        intro hh
        simp only [AV.flats, Bool.and_eq_true] at hh ⊢
        exact ⟨flat_mono n y hh.1, ih hh.2⟩
    exact key xs h
  | n, .wt _, h => by simp [AV.flat] at h
  | n, .rl _, h => by simp [AV.flat] at h
  | n, .ref _, h => by simp [AV.flat] at h
theorem flats_mem {n : Nat} : ∀ {l : List AV}, AV.flats n l = true → ∀ x ∈ l, AV.flat n x = true
  | [], _, x, hx => by cases hx
  | y :: ys, h, x, hx => by
    simp only [AV.flats, Bool.and_eq_true] at h
    rcases List.mem_cons.mp hx with rfl | hx
    · exact h.1
    · exact flats_mem h.2 x hx
open Classical in
noncomputable def sameF : AV → Option AV
  | .wt [x, y] => some (.bl (decide (x = y)))
  | _ => none
theorem zip_same : ∀ (xs ys : List AV), xs.length = ys.length → ∃ bs, bls? ((zipL xs ys).filterMap sameF) = some bs ∧ (bs.all id = true ↔ xs = ys)
  | [], [], _ => ⟨[], rfl, by simp⟩
  | [], _ :: _, h => by cases h
  | _ :: _, [], h => by cases h
  | x :: xs, y :: ys, h => by
    obtain ⟨bs, e, i⟩ := zip_same xs ys (by simpa using h)
    refine ⟨@decide (x = y) (Classical.propDecidable _) :: bs, ?_, ?_⟩
    · unfold zipL
      rw [List.filterMap_cons]
      simp only [sameF, bls?, e]
      rfl
    · simp [i]
theorem zip_mem : ∀ {xs ys : List AV} {z : AV}, z ∈ zipL xs ys → ∃ x y, x ∈ xs ∧ y ∈ ys ∧ z = .wt [x, y]
  | [], _, z, h => by unfold zipL at h; cases h
  | _ :: _, [], z, h => by unfold zipL at h; cases h
  | x :: xs, y :: ys, z, h => by
    unfold zipL at h
    rcases List.mem_cons.mp h with rfl | h
    · exact ⟨x, y, List.mem_cons_self, List.mem_cons_self, rfl⟩
    · obtain ⟨a, b, h1, h2, h3⟩ := zip_mem h
      exact ⟨a, b, List.mem_cons_of_mem _ h1, List.mem_cons_of_mem _ h2, h3⟩
theorem law_is_flat (c9 : G.code 9 = some f9) {m : Nat} (x y : AV) (hx : AV.flat 50 x = true) (hy : AV.flat 50 y = true) (hn : ∀ ys, y ≠ .tup ys) {Q : AQ} {E : AXQ} {h : AH} (hq : ∀ b, (b = true ↔ x = y) → Q (.bl b) h) : wpC G (m + 1) 9 [x, y] h Q E := by
  refine call_i c9 rfl ?_
  unfold c9_law_is
  have no : (false = true ↔ x = y) → Q (.bl false) h := hq false
  have yes : x = y → Q (.bl true) h := fun e => hq true (by simp [e])
  cases y with
  | tup ys => exact absurd rfl (hn ys)
  | wt _ => simp [AV.flat] at hy
  | rl _ => simp [AV.flat] at hy
  | ref _ => simp [AV.flat] at hy
  | non =>
    cases x with
    | non => bv_omega; exact shr_i (yes rfl)
    | wt _ => simp [AV.flat] at hx
    | rl _ => simp [AV.flat] at hx
    | ref _ => simp [AV.flat] at hx
    | _ => bv_omega; exact shr_i (no (by simp))
  | bl j =>
    cases x with
    | bl i =>
      bv_omega
      exact shr_i (hq _ (by simp))
    | wt _ => simp [AV.flat] at hx
    | rl _ => simp [AV.flat] at hx
    | ref _ => simp [AV.flat] at hx
    | non => bv_omega; exact shr_i (no (by simp))
    | int i => bv_omega; exact shr_i (no (by simp))
    | str i => bv_omega; exact shr_i (no (by simp))
    | tup xs => bv_omega; exact shr_i (no (by simp))
  | int j =>
    cases x with
    | int i => bv_omega; exact shr_i (hq _ (by simp))
    | wt _ => simp [AV.flat] at hx
    | rl _ => simp [AV.flat] at hx
    | ref _ => simp [AV.flat] at hx
    | non => bv_omega; exact shr_i (no (by simp))
    | bl i => bv_omega; exact shr_i (no (by simp))
    | str i => bv_omega; exact shr_i (no (by simp))
    | tup xs => bv_omega; exact ⟨hx, hy, shr_i (no (by simp))⟩
  | str j =>
    cases x with
    | str i =>
      bv_omega
      refine ⟨⟨by simpa [AV.flat] using hx, by simpa [AV.flat] using hy⟩, shr_i (hq _ (by simp))⟩
    | wt _ => simp [AV.flat] at hx
    | rl _ => simp [AV.flat] at hx
    | ref _ => simp [AV.flat] at hx
    | non => bv_omega; exact shr_i (no (by simp))
    | bl i => bv_omega; exact shr_i (no (by simp))
    | int i => bv_omega; exact shr_i (no (by simp))
    | tup xs => bv_omega; exact shr_i (no (by simp))
def Small : Nat → AV → Prop
  | 0, .tup _ => False
  | d + 1, .tup xs => xs.length ≤ 1000000 ∧ ∀ x ∈ xs, Small d x
  | _, _ => True
theorem law_is_spec (c9 : G.code 9 = some f9) {n : Nat} : ∀ (d : Nat) (x y : AV), AV.flat 50 x = true → AV.flat 50 y = true → Small d y → ∀ {Q : AQ} {E : AXQ} {h : AH}, (∀ b, (b = true ↔ x = y) → Q (.bl b) h) → wpC G (n + d + 1) 9 [x, y] h Q E := by
  intro d
  induction d with
  | zero =>
    intro x y hx hy hs Q E h hq
    exact law_is_flat c9 x y hx hy (fun ys e => by subst e; exact hs) hq
  | succ d ih =>
    intro x y hx hy hs Q E h hq
    have no : (false = true ↔ x = y) → Q (.bl false) h := hq false
    cases y with
    | tup ys =>
      refine call_i c9 rfl ?_
      unfold c9_law_is
      cases x with
      | tup xs =>
        bv_omega
        by_cases hl : xs.length = ys.length
        · simp only [hl]
          bv_omega
          refine comp_pure (wpC_mono G _) ?_
          bv_omega
          refine ⟨len_small (by rw [zipL_len]; have := hs.1; omega), fun _ _ _ => by simp, sameF, fun D hD z hz acc => ?_, fun D hD => ?_⟩
          · obtain ⟨a, b, ha, hb, rfl⟩ := zip_mem hz
            refine g_wtR rfl ?_
            bv_omega
            simp only [AV.flat] at hx hy
            have fa := flats_mem hx a ha
            have fb := flats_mem hy b hb
            refine ih a b (flat_mono _ _ fa) (flat_mono _ _ fb) (hs.2 b hb) fun r hr => ?_
            refine ⟨?_, ALe.refl⟩
            show some (AV.bl (@decide (a = b) (Classical.propDecidable _))) = _
            congr 2
            cases r <;> simp at hr ⊢ <;> exact hr
          · obtain ⟨bs, e, i⟩ := zip_same xs ys hl
            refine ⟨_, bs, aupd_same, e, ?_⟩
            exact shr_le (ALe.fresh hD) (hq _ (by rw [i]; simp))
        · have e1 : ¬ ((xs.length : Int) = (ys.length : Int)) := by omega
          simp only [e1]
          bv_omega
          exact shr_i (no (by simp; intro e; exact hl (by rw [e])))
      | wt _ => simp [AV.flat] at hx
      | rl _ => simp [AV.flat] at hx
      | ref _ => simp [AV.flat] at hx
      | non => bv_omega; exact shr_i (no (by simp))
      | bl i => bv_omega; exact shr_i (no (by simp))
      | int i => bv_omega; exact shr_i (no (by simp))
      | str i => bv_omega; exact shr_i (no (by simp))
    | _ => exact law_is_flat c9 x _ hx hy (by simp) hq
end PL

namespace PL
open PySem PySem.Spec PyProof.Rows L2
variable {G : Pg} {n : Nat} {Q : AQ} {E : AXQ} {h : AH}
def inV (v : AV) (lo hi : Int) : Bool := match v with | .int i => decide (lo ≤ i) && decide (i ≤ hi) | _ => false
theorem is_within_spec (c0 : G.code 0 = some f0) (c26 : G.code 26 = some f26) {v : AV} {lo hi : Int} (ht : Tyd h v) (hq : Q (.bl (inV v lo hi)) h) : wpC G (n + 2) 26 [v, .int lo, .int hi] h Q E := by
  refine call_i c26 rfl ?_
  unfold c26_is_within
  bv_omega
  refine is_integer_spec c0 ht ?_
  cases v with
  | int i =>
    simp only [PL.isInt]
    bv_omega
    have hq : Q (.bl (decide (lo ≤ i) && decide (i ≤ hi))) h := hq
    by_cases e : lo ≤ i
    · simp only [e, decide_true, Bool.true_and] at hq ⊢
      bv_omega
      exact shr_i hq
    · simp only [e, decide_false, Bool.false_and] at hq ⊢
      bv_omega
      exact shr_i hq
  | wt _ => exact ht.elim
  | _ => simp only [PL.isInt]; bv_omega; exact shr_i hq
theorem raw_at_most_spec (c24 : G.code 24 = some f24) {x y : Rat} {a b : Nat} (hx : Sz a x) (hy : Sz b y) (ha : 0 < a) (hb : 0 < b) (hab : a + b ≤ 100000) (hq : Q (.bl (decide (x ≤ y))) h) : wpC G (n + 1) 24 [fr x, fr y] h Q E := by
  refine call_i c24 rfl ?_
  unfold c24_raw_at_most fr
  bv_omega
  refine ⟨mulW hx.1 (j := (y.den : Int)) hy.2 ha hb (by omega), mulW hy.1 (j := (x.den : Int)) hx.2 hb ha (by omega), ?_⟩
  have e : decide (x.num * (y.den : Int) ≤ y.num * (x.den : Int)) = decide (x ≤ y) := decide_eq_decide.mpr (Rat.le_iff x y).symm
  rw [e]
  exact shr_i hq
theorem at_most_spec (c0 : G.code 0 = some f0) (c1 : G.code 1 = some f1) (c2 : G.code 2 = some f2) (c4 : G.code 4 = some f4) (c24 : G.code 24 = some f24) (c28 : G.code 28 = some f28) {x y : Rat} {a b : Nat} (hx : Sz a x) (hy : Sz b y) (ha : 0 < a) (hb : 0 < b) (hab : a + b ≤ 100000) (hq : Q (.bl (decide (x ≤ y))) h) : wpC G (n + 4) 28 [fr x, fr y] h Q E := by
  refine call_i c28 rfl ?_
  unfold c28_at_most
  bv_omega
  refine check_fraction_spec c0 c1 c2 c4 fr_Tyd (fun _ => ?_) fun e => by rw [isFr_fr] at e; cases e
  refine check_fraction_spec c0 c1 c2 c4 fr_Tyd (fun _ => ?_) fun e => by rw [isFr_fr] at e; cases e
  exact raw_at_most_spec (n := n + 2) c24 hx hy ha hb hab (shr_i hq)
theorem at_most_bad (c0 : G.code 0 = some f0) (c1 : G.code 1 = some f1) (c2 : G.code 2 = some f2) (c4 : G.code 4 = some f4) (c28 : G.code 28 = some f28) {v w : AV} (hv : TydT h v) (hw : TydT h w) (hb : isFr v = false ∨ isFr w = false) (he : E ⟨0, []⟩ h) : wpC G (n + 4) 28 [v, w] h Q E := by
  refine call_i c28 rfl ?_
  unfold c28_at_most
  bv_omega
  refine check_fraction_spec c0 c1 c2 c4 hv (fun e1 => ?_) fun _ => shr_i he
  refine check_fraction_spec c0 c1 c2 c4 hw (fun e2 => ?_) fun _ => shr_i he
  rw [e1, e2] at hb
  rcases hb with hb | hb <;> cases hb
theorem pow_add' (x : Rat) (a : Nat) : ∀ b : Nat, x ^ (a + b) = x ^ a * x ^ b
  | 0 => by rw [Nat.add_zero, Rat.pow_zero, Rat.mul_one]
  | b + 1 => by rw [← Nat.add_assoc, Rat.pow_succ, pow_add' x a b, Rat.pow_succ, Rat.mul_assoc]
theorem inv_pow' (x : Rat) : ∀ m : Nat, (x⁻¹) ^ m = (x ^ m)⁻¹
  | 0 => by rw [Rat.pow_zero, Rat.pow_zero]; decide +kernel
  | m + 1 => by rw [Rat.pow_succ, inv_pow' x m, Rat.pow_succ, Rat.inv_mul_rev, Rat.mul_comm]
theorem sz_pow {k : Nat} {x : Rat} (s : Sz k x) (m : Nat) : Sz (k * m + 1) (x ^ m) := by
  have key : ∀ a : Nat, a < 2 ^ k → a ^ m < 2 ^ (k * m + 1) := fun a ha => by
    have h1 : a ^ m ≤ (2 ^ k) ^ m := Nat.pow_le_pow_left (Nat.le_of_lt ha) m
    rw [← Nat.pow_mul] at h1
    exact Nat.lt_of_le_of_lt h1 (Nat.pow_lt_pow_right (by decide) (Nat.lt_succ_self _))
  refine ⟨?_, ?_⟩
  · rw [Rat.num_pow, Int.natAbs_pow]
    exact key _ s.1
  · rw [Rat.den_pow]
    exact key _ s.2
theorem sz_inv {k : Nat} {x : Rat} (h0 : x ≠ 0) (s : Sz k x) : Sz k x⁻¹ := by
  rw [Rat.inv_def]
  exact sz_divInt (num_nz h0) (by simpa using s.2) s.1
theorem sz_one {k : Nat} (h : 0 < k) : Sz k 1 := by
  have : (2 : Nat) ^ 1 ≤ 2 ^ k := Nat.pow_le_pow_right (by decide) h
  exact ⟨by show 1 < 2 ^ k; omega, by show 1 < 2 ^ k; omega⟩
theorem gcd_pow (x : Rat) (f p : Nat) : (Nat.gcd ((x ^ f).num * (x ^ p).num).natAbs (((x ^ f).den : Int) * (x ^ p).den).natAbs).log2 < 9000 := by
  have e1 : (x ^ f).num * (x ^ p).num = (x ^ (f + p)).num := by rw [Rat.num_pow, Rat.num_pow, Rat.num_pow, Int.pow_add]
  have e2 : ((x ^ f).den : Int) * (x ^ p).den = ((x ^ (f + p)).den : Int) := by rw [Rat.den_pow, Rat.den_pow, Rat.den_pow, Nat.pow_add]; simp
  rw [e1, e2, Int.natAbs_natCast]
  have e3 : Nat.gcd (x ^ (f + p)).num.natAbs (x ^ (f + p)).den = 1 := (x ^ (f + p)).reduced
  rw [e3]
  decide
theorem raw_power_nat (c1 : G.code 1 = some f1) (c3 : G.code 3 = some f3) (c7 : G.code 7 = some f7) (c25 : G.code 25 = some f25) (g4 : G.T.gv 4 = some (fr 1)) {x : Rat} {k m : Nat} (s : Sz k x) (hk : 0 < k) (hb : k * m + 2 ≤ 400000) (hq : Q (fr (x ^ m)) h) : wpC G (n + 4) 25 [fr x, .int m] h Q E := by
  refine call_i c25 rfl ?_
  unfold c25_raw_power
  bv_omega
  have e0 : ¬ ((m : Int) < 0) := by omega
  rw [if_neg e0]
  refine ⟨_, g4, ?_⟩
  refine wp_whl (wpC_mono G _) (fun r σ h' => ∃ f p : Nat, σ = [some (fr x), some (.int m), some (fr (x ^ f)), some (.int r), some (fr (x ^ p))] ∧ h' = h ∧ f + p * r = m) (m := m) ⟨0, 1, by rw [Rat.pow_zero, Rat.pow_one], rfl, by omega⟩ ?_
  rintro r σ h' ⟨f, p, rfl, rfl, hm⟩
  bv_omega
  by_cases hr : r = 0
  · subst hr
    have e1 : ¬ ((0 : Int) < ((0 : Nat) : Int)) := by decide
    rw [if_neg e1]
    have ef : f = m := by omega
    subst ef
    exact shr_i hq
  · have e1 : (0 : Int) < (r : Int) := by omega
    rw [if_pos e1]
    have hp : f + p ≤ m := by
      have : p * 1 ≤ p * r := Nat.mul_le_mul_left p (by omega)
      omega
    have hfp : k * (f + p) ≤ k * m := Nat.mul_le_mul_left k hp
    rw [Nat.mul_add] at hfp
    have e2 : (r : Int).fdiv 2 = ((r / 2 : Nat) : Int) := by rw [fdiv_pos' (by decide)]; rfl
    have hlt : r / 2 < r := Nat.div_lt_self (by omega) (by decide)
    have lg : ((2 : Int).natAbs).log2 < 9000 := by decide
    have tp : ∀ f' : Nat, f' + 2 * p * (r / 2) = m → 0 < r / 2 → wpC G (n + 3) 7 [fr (x ^ p), fr (x ^ p)] h' (fun v h1 => ∃ m', m' < r ∧ ∃ f p, [some (fr x), some (AV.int m), some (fr (x ^ f')), some (AV.int ((r / 2 : Nat) : Int)), some v] = [some (fr x), some (AV.int m), some (fr (x ^ f)), some (AV.int m'), some (fr (x ^ p))] ∧ h1 = h' ∧ f + p * m' = m) (fun x h' => Shr (E x) h') := by
      intro f' hf' h2
      have hpp : p + p ≤ m := by
        have : 2 * p * 1 ≤ 2 * p * (r / 2) := Nat.mul_le_mul_left _ (by omega)
        omega
      have hkp : k * (p + p) ≤ k * m := Nat.mul_le_mul_left k hpp
      rw [Nat.mul_add] at hkp
      refine raw_times_gen (n := n) c1 c3 c7 (sz_pow s p) (sz_pow s p) (by omega) (by omega) (by omega) (gcd_pow x p p) ?_
      rw [← pow_add']
      exact ⟨r / 2, hlt, f', p + p, rfl, rfl, by rw [← hf']; congr 2; omega⟩
    have hd := Nat.div_add_mod r 2
    by_cases ho : r % 2 = 1
    · have e4 : (r : Int) % 2 = 1 := by omega
      have hm2 : f + p + 2 * p * (r / 2) = m := by
        rw [← hm]
        rw [ho] at hd
        have : p * r = 2 * p * (r / 2) + p := by
          rw [← hd]
          rw [hd, Nat.mul_comm 2 p, Nat.mul_assoc, show 2 * (r / 2) = r - 1 by omega, Nat.mul_sub_one]
          have : p ≤ p * r := Nat.le_mul_of_pos_right p (by omega)
          omega
        omega
      simp only [e4]
      bv_omega
      refine raw_times_gen (n := n) c1 c3 c7 (sz_pow s f) (sz_pow s p) (by omega) (by omega) (by omega) (gcd_pow x f p) ?_
      rw [← pow_add']
      refine ⟨lg, ?_⟩
      rw [e2]
      by_cases h2 : r / 2 = 0
      · have e3 : ¬ ((0 : Int) < ((r / 2 : Nat) : Int)) := by omega
        rw [if_neg e3]
        rw [h2] at hm2
        first
          | exact ⟨r / 2, hlt, f + p, p, rfl, rfl, by rw [h2]; simpa using hm2⟩
          | exact ⟨r / 2, hlt, f + p, p, rfl, by rw [h2]; simpa using hm2⟩
      · have e3 : (0 : Int) < ((r / 2 : Nat) : Int) := by omega
        rw [if_pos e3]
        exact tp (f + p) hm2 (by omega)
    · have e4 : ¬ ((r : Int) % 2 = 1) := by omega
      have hm2 : f + 2 * p * (r / 2) = m := by
        rw [← hm]
        have h0 : r % 2 = 0 := by omega
        rw [h0, Nat.add_zero] at hd
        rw [Nat.mul_comm 2 p, Nat.mul_assoc, hd]
      simp only [e4]
      bv_omega
      refine ⟨lg, ?_⟩
      rw [e2]
      by_cases h2 : r / 2 = 0
      · have e3 : ¬ ((0 : Int) < ((r / 2 : Nat) : Int)) := by omega
        rw [if_neg e3]
        rw [h2] at hm2
        first
          | exact ⟨r / 2, hlt, f, p, rfl, rfl, by rw [h2]; simpa using hm2⟩
          | exact ⟨r / 2, hlt, f, p, rfl, by rw [h2]; simpa using hm2⟩
      · have e3 : (0 : Int) < ((r / 2 : Nat) : Int) := by omega
        rw [if_pos e3]
        exact tp f hm2 (by omega)
theorem raw_power_neg (c1 : G.code 1 = some f1) (c3 : G.code 3 = some f3) (c7 : G.code 7 = some f7) (c8 : G.code 8 = some f8) (c25 : G.code 25 = some f25) (g4 : G.T.gv 4 = some (fr 1)) {x : Rat} {k m : Nat} (s : Sz k x) (h0 : x ≠ 0) (hm : 0 < m) (hk : 0 < k) (hk8 : k ≤ 7900) (hb : k * m + 2 ≤ 400000) (hq : Q (fr ((x ^ m)⁻¹)) h) : wpC G (n + 5) 25 [fr x, .int (-(m : Int))] h Q E := by
  refine call_i c25 rfl ?_
  unfold c25_raw_power
  bv_omega
  have e0 : -(m : Int) < 0 := by omega
  rw [if_pos e0]
  have hk2 : k ≤ k * m := Nat.le_mul_of_pos_right k hm
  refine ⟨_, g4, raw_by_spec (n := n + 1) c1 c3 c8 (sz_one (k := 1) (by decide)) s h0 (by decide) hk (by omega) ?_⟩
  have e1 : (1 : Rat) / x = x⁻¹ := by rw [Rat.div_def, Rat.one_mul]
  rw [e1, Int.neg_neg]
  refine raw_power_nat (n := n) c1 c3 c7 c25 g4 (sz_inv h0 s) hk hb ?_
  rw [inv_pow']
  exact shr_i hq
theorem raw_power_spec (c1 : G.code 1 = some f1) (c3 : G.code 3 = some f3) (c7 : G.code 7 = some f7) (c8 : G.code 8 = some f8) (c25 : G.code 25 = some f25) (g4 : G.T.gv 4 = some (fr 1)) {x : Rat} {k m : Nat} {i : Int} (s : Sz k x) (h0 : x ≠ 0 ∨ 0 ≤ i) (hi : i.natAbs ≤ m) (hk : 0 < k) (hk8 : k ≤ 7900) (hb : k * m + 2 ≤ 400000) (hq : Q (fr (x ^ i)) h) : wpC G (n + 5) 25 [fr x, .int i] h Q E := by
  have hkm : k * i.natAbs ≤ k * m := Nat.mul_le_mul_left k hi
  by_cases hn : i < 0
  · have e : i = -(i.natAbs : Int) := by omega
    rw [e] at hq ⊢
    refine raw_power_neg c1 c3 c7 c8 c25 g4 s (h0.resolve_right (by omega)) (by omega) hk hk8 (by omega) ?_
    rw [Rat.zpow_neg, Rat.zpow_natCast] at hq
    exact hq
  · have e : i = (i.natAbs : Int) := by omega
    rw [e] at hq ⊢
    exact raw_power_nat (n := n + 1) c1 c3 c7 c25 g4 s hk (by omega) hq
theorem sz_zpow {k : Nat} {x : Rat} {i : Int} (s : Sz k x) (h0 : x ≠ 0 ∨ 0 ≤ i) : Sz (k * i.natAbs + 1) (x ^ i) := by
  by_cases hn : i < 0
  · have e : i = -(i.natAbs : Int) := by omega
    have h1 : x ≠ 0 := h0.resolve_right (by omega)
    rw [e, Rat.zpow_neg, Rat.zpow_natCast, Int.natAbs_neg, Int.natAbs_natCast]
    refine sz_inv (fun z => ?_) (sz_pow s _)
    have : (x ^ i.natAbs).num = 0 := by rw [z]; rfl
    rw [Rat.num_pow] at this
    exact absurd this (Int.pow_ne_zero (num_nz h1))
  · have e : i = (i.natAbs : Int) := by omega
    rw [e, Rat.zpow_natCast, Int.natAbs_natCast]
    exact sz_pow s _

theorem power_of_spec_m (c0 : G.code 0 = some f0) (c1 : G.code 1 = some f1) (c2 : G.code 2 = some f2) (c3 : G.code 3 = some f3) (c4 : G.code 4 = some f4) (c7 : G.code 7 = some f7) (c8 : G.code 8 = some f8) (c25 : G.code 25 = some f25) (c26 : G.code 26 = some f26) (c27 : G.code 27 = some f27) (g4 : G.T.gv 4 = some (fr 1))
    {x : Rat} {k m : Nat} {i : Int} (s : Sz k x) (h0 : x ≠ 0 ∨ 0 ≤ i) (h1 : -100 ≤ i) (h2 : i ≤ 100) (hk : 0 < k) (hi : i.natAbs ≤ m) (hk8 : k ≤ 7900) (hb : k * m + 2 ≤ 400000) (hq : Q (fr (x ^ i)) h) : wpC G (n + 6) 27 [fr x, .int i] h Q E := by
  refine call_i c27 rfl ?_
  unfold c27_power_of
  bv_omega
  refine check_fraction_spec (n := n + 2) c0 c1 c2 c4 fr_Tyd (fun _ => ?_) fun e => by rw [isFr_fr] at e; cases e
  refine is_within_spec (n := n + 3) c0 c26 trivial ?_
  have hin : inV (.int i) (-100) 100 = true := by
    show (decide (-100 ≤ i) && decide (i ≤ 100)) = true
    simp [h1, h2]
  rw [hin]
  have r := fun Q E h hq => raw_power_spec (n := n) (Q := Q) (E := E) (h := h) c1 c3 c7 c8 c25 g4 (m := m) s h0 hi hk hk8 hb hq
  have ex : fr x = .tup [.int x.num, .int x.den] := rfl
  rw [ex] at r ⊢
  bv_omega
  by_cases hz : x.num = 0
  · simp only [hz]
    bv_omega
    have hi : ¬ i < 0 := by
      rcases h0 with h0 | h0
      · exact absurd hz (num_nz h0)
      · omega
    rw [if_neg hi]
    have r2 := r (fun v h => Shr (Q v) h) (fun x h' => Shr (E x) h') h (shr_i hq)
    rw [hz] at r2
    exact r2
  · simp only [hz]
    bv_omega
    exact r _ _ _ (shr_i hq)
theorem power_of_spec (c0 : G.code 0 = some f0) (c1 : G.code 1 = some f1) (c2 : G.code 2 = some f2) (c3 : G.code 3 = some f3) (c4 : G.code 4 = some f4) (c7 : G.code 7 = some f7) (c8 : G.code 8 = some f8) (c25 : G.code 25 = some f25) (c26 : G.code 26 = some f26) (c27 : G.code 27 = some f27) (g4 : G.T.gv 4 = some (fr 1))
    {x : Rat} {k : Nat} {i : Int} (s : Sz k x) (h0 : x ≠ 0 ∨ 0 ≤ i) (h1 : -100 ≤ i) (h2 : i ≤ 100) (hk : 0 < k) (hb : k * 100 + 2 ≤ 8000) (hq : Q (fr (x ^ i)) h) : wpC G (n + 6) 27 [fr x, .int i] h Q E :=
  power_of_spec_m (m := 100) c0 c1 c2 c3 c4 c7 c8 c25 c26 c27 g4 s h0 h1 h2 hk (by omega) (by omega) (by omega) hq
theorem power_of_bad (c0 : G.code 0 = some f0) (c1 : G.code 1 = some f1) (c2 : G.code 2 = some f2) (c4 : G.code 4 = some f4) (c27 : G.code 27 = some f27) {v w : AV} (hv : TydT h v) (hb : isFr v = false) (he : E ⟨0, []⟩ h) : wpC G (n + 6) 27 [v, w] h Q E := by
  refine call_i c27 rfl ?_
  unfold c27_power_of
  bv_omega
  refine check_fraction_spec (n := n + 2) c0 c1 c2 c4 hv (fun e => ?_) fun _ => shr_i he
  rw [hb] at e
  cases e
theorem power_of_num (c0 : G.code 0 = some f0) (c1 : G.code 1 = some f1) (c2 : G.code 2 = some f2) (c4 : G.code 4 = some f4) (c26 : G.code 26 = some f26) (c27 : G.code 27 = some f27) {x : Rat} {w : AV} (hw : Tyd h w) (hb : inV w (-100) 100 = false) (he : E ⟨2, []⟩ h) : wpC G (n + 6) 27 [fr x, w] h Q E := by
  refine call_i c27 rfl ?_
  unfold c27_power_of
  bv_omega
  refine check_fraction_spec (n := n + 2) c0 c1 c2 c4 fr_Tyd (fun _ => ?_) fun e => by rw [isFr_fr] at e; cases e
  refine is_within_spec (n := n + 3) c0 c26 hw ?_
  rw [hb]
  bv_omega
  exact shr_i he
theorem power_of_zero (c0 : G.code 0 = some f0) (c1 : G.code 1 = some f1) (c2 : G.code 2 = some f2) (c4 : G.code 4 = some f4) (c26 : G.code 26 = some f26) (c27 : G.code 27 = some f27) {i : Int} (h1 : -100 ≤ i) (h2 : i < 0) (he : E ⟨1, []⟩ h) : wpC G (n + 6) 27 [fr 0, .int i] h Q E := by
  refine call_i c27 rfl ?_
  unfold c27_power_of
  bv_omega
  refine check_fraction_spec (n := n + 2) c0 c1 c2 c4 fr_Tyd (fun _ => ?_) fun e => by rw [isFr_fr] at e; cases e
  refine is_within_spec (n := n + 3) c0 c26 trivial ?_
  have hin : inV (.int i) (-100) 100 = true := by
    show (decide (-100 ≤ i) && decide (i ≤ 100)) = true
    have : i ≤ 100 := by omega
    simp [h1, this]
  rw [hin]
  have ex : fr 0 = .tup [.int 0, .int 1] := rfl
  rw [ex]
  bv_omega
  rw [if_pos h2]
  exact shr_i he
end PL

namespace PL
open PySem PySem.Spec PyProof.Rows L2
def sl (a b : Str) : Prop := a.cps.toList < b.cps.toList
instance (a b : Str) : Decidable (sl a b) := inferInstanceAs (Decidable (a.cps.toList < b.cps.toList))
theorem sl_trans {a b c : Str} (h : sl a b) (k : sl b c) : sl a c := List.lt_trans h k
theorem sl_irrefl (a : Str) : ¬ sl a a := List.lt_irrefl _
theorem sl_asymm {a b : Str} (h : sl a b) : ¬ sl b a := fun k => sl_irrefl _ (sl_trans h k)
theorem sl_ne {a b : Str} (h : sl a b) : a ≠ b := fun e => sl_irrefl b (e ▸ h)
theorem sl_total {a b : Str} (h : ¬ sl a b) (k : ¬ sl b a) : a = b := by
  have e : a.cps.toList = b.cps.toList := List.le_antisymm (List.not_lt.mp k) (List.not_lt.mp h)
  have : a.cps = b.cps := Array.toList_inj.mp e
  cases a; cases b; simp_all
abbrev NM (α : Type) := List (Str × α)
section
variable {α : Type} {f : α → AV}
def prf (f : α → AV) (p : Str × α) : AV := .tup [.str p.1, f p.2]
def kvf (f : α → AV) (p : Str × α) : Key × AV := (.inr p.1, f p.2)
def np (f : α → AV) (d : NM α) : AV := .tup (d.map (prf f))
def Asc (d : NM α) : Prop := d.Pairwise fun p q => sl p.1 q.1
def NKs (d : NM α) : Prop := (d.map (·.1)).Nodup
theorem Asc.nks {d : NM α} (h : Asc d) : NKs d := by
  unfold NKs List.Nodup
  rw [List.pairwise_map]
  exact List.Pairwise.imp (fun h => sl_ne h) h
theorem pairs_np : ∀ (d : NM α), pairs? (d.map (prf f)) = some (d.map (kvf f))
  | [] => rfl
  | p :: d => by
    rw [List.map_cons, List.map_cons]
    show (match AV.toKey (.str p.1), pairs? (d.map (prf f)) with | some k, some r => some ((k, f p.2) :: r) | _, _ => none) = _
    rw [pairs_np d]
    rfl
def dset (d : NM α) (b : Str) (v : α) : NM α := if b ∈ d.map (·.1) then d.map (fun p => if p.1 = b then (p.1, v) else p) else d ++ [(b, v)]
theorem dput_kv {d : NM α} {b : Str} {v : α} : dput (d.map (kvf f)) (.inr b) (f v) = (dset d b v).map (kvf f) := by
  unfold dput dset
  have e : ((d.map (kvf f)).any fun kv => decide (kv.1 = (.inr b : Key))) = decide (b ∈ d.map (·.1)) := by
    induction d with
    | nil => rfl
    | cons p d ih =>
      rw [List.map_cons, List.any_cons, ih, List.map_cons]
      have : decide ((kvf f p).1 = (.inr b : Key)) = decide (b = p.1) := by
        apply decide_eq_decide.mpr
        show Sum.inr p.1 = Sum.inr b ↔ _
        constructor
        · intro h; exact (Sum.inr.inj h).symm
        · intro h; rw [h]
      rw [this]
      by_cases h : b = p.1 <;> simp [h]
  rw [e]
  by_cases h : b ∈ d.map (·.1)
  · simp only [h, decide_true, if_true, List.map_map]
    apply List.map_congr_left
    intro p hp
    show (if (kvf f p).1 = (.inr b : Key) then ((kvf f p).1, f v) else kvf f p) = kvf f (if p.1 = b then (p.1, v) else p)
    by_cases hb : p.1 = b
    · have : (kvf f p).1 = (.inr b : Key) := by show Sum.inr p.1 = _; rw [hb]
      rw [if_pos this, if_pos hb]; rfl
    · have : ¬ (kvf f p).1 = (.inr b : Key) := fun e => hb (Sum.inr.inj e)
      rw [if_neg this, if_neg hb]
  · simp only [h, decide_false, Bool.false_eq_true, if_false, List.map_append]
    rfl
theorem keys_dset {d : NM α} {b : Str} {v : α} : (dset d b v).map (·.1) = if b ∈ d.map (·.1) then d.map (·.1) else d.map (·.1) ++ [b] := by
  unfold dset
  split
  · rw [List.map_map]
    apply List.map_congr_left
    intro p _
    show (if p.1 = b then (p.1, v) else p).1 = p.1
    split <;> rfl
  · rw [List.map_append]; rfl
theorem nks_dset {d : NM α} {b : Str} {v : α} (h : NKs d) : NKs (dset d b v) := by
  unfold NKs
  rw [keys_dset]
  split
  · exact h
  · rename_i hb
    exact List.nodup_append.mpr ⟨h, by simp, by
      intro x hx y hy e
      rw [List.mem_singleton.mp hy] at e
      exact hb (e ▸ hx)⟩
theorem mem_keys_dset {d : NM α} {b x : Str} {v : α} (h : x ∈ (dset d b v).map (·.1)) : x ∈ d.map (·.1) ∨ x = b := by
  rw [keys_dset] at h
  split at h
  · exact .inl h
  · rcases List.mem_append.mp h with h | h
    · exact .inl h
    · exact .inr (List.mem_singleton.mp h)
theorem mem_dset {d : NM α} {b : Str} {v : α} {q : Str × α} (h : q ∈ dset d b v) : q ∈ d ∨ q = (b, v) := by
  unfold dset at h
  split at h
  · obtain ⟨p, hp, rfl⟩ := List.mem_map.mp h
    split
    · rename_i e; exact .inr (by rw [e])
    · exact .inl hp
  · rcases List.mem_append.mp h with h | h
    · exact .inl h
    · exact .inr (List.mem_singleton.mp h)
theorem lookup_map_kv {d : NM α} {b : Str} : dget (d.map (kvf f)) (.inr b) = (d.lookup b).map f := by
  unfold dget
  induction d with
  | nil => rfl
  | cons p d ih =>
    rw [List.map_cons, List.find?_cons, List.lookup_cons]
    by_cases h : b = p.1
    · have e1 : decide ((kvf f p).1 = (.inr b : Key)) = true := decide_eq_true (by show Sum.inr p.1 = _; rw [h])
      have e2 : (b == p.1) = true := by simp [h]
      rw [e1, e2]
      rfl
    · have e1 : decide ((kvf f p).1 = (.inr b : Key)) = false := decide_eq_false (fun e => h (Sum.inr.inj e).symm)
      have e2 : (b == p.1) = false := by simp [h]
      rw [e1, e2]
      exact ih
theorem lookup_none {d : NM α} {b : Str} (h : b ∉ d.map (·.1)) : d.lookup b = none := by
  induction d with
  | nil => rfl
  | cons p d ih =>
    rw [List.map_cons] at h
    rw [List.lookup_cons]
    have e : (b == p.1) = false := by
      have : b ≠ p.1 := fun e => h (e ▸ List.mem_cons_self)
      simp [this]
    rw [e]
    exact ih (fun hh => h (List.mem_cons_of_mem _ hh))
theorem lookup_mem {d : NM α} {b : Str} {v : α} (h : d.lookup b = some v) : (b, v) ∈ d := by
  induction d with
  | nil => cases h
  | cons p d ih =>
    rw [List.lookup_cons] at h
    by_cases e : b = p.1
    · have e2 : (b == p.1) = true := by simp [e]
      rw [e2] at h
      cases h
      rw [e]
      exact List.mem_cons_self
    · have e2 : (b == p.1) = false := by simp [e]
      rw [e2] at h
      exact List.mem_cons_of_mem _ (ih h)
theorem lookup_some {d : NM α} {b : Str} {v : α} (hn : NKs d) (h : (b, v) ∈ d) : d.lookup b = some v := by
  induction d with
  | nil => cases h
  | cons p d ih =>
    rw [List.lookup_cons]
    unfold NKs at hn
    rw [List.map_cons, List.nodup_cons] at hn
    rcases List.mem_cons.mp h with h | h
    · subst h
      simp
    · have hb : b ≠ p.1 := fun e => hn.1 (e ▸ List.mem_map_of_mem (f := (·.1)) h)
      have e2 : (b == p.1) = false := by simp [hb]
      rw [e2]
      exact ih hn.2 h
theorem lookup_dset {d : NM α} {b x : Str} {v : α} : (dset d b v).lookup x = if x = b then some v else d.lookup x := by
  unfold dset
  by_cases hb : b ∈ d.map (·.1)
  · rw [if_pos hb]
    induction d with
    | nil => cases hb
    | cons p d ih =>
      rw [List.map_cons, List.lookup_cons, List.lookup_cons]
      by_cases hp : p.1 = b
      · rw [if_pos hp]
        by_cases hx : x = b
        · subst hx
          simp [hp]
        · have e : (x == p.1) = false := by simp [hp, hx]
          simp only [e, if_neg hx]
          by_cases hb2 : b ∈ d.map (·.1)
          · rw [ih hb2, if_neg hx]
          · congr 1
            have : d.map (fun p => if p.1 = b then (p.1, v) else p) = d.map id := by
              apply List.map_congr_left
              intro q hq
              have : q.1 ≠ b := fun e => hb2 (e ▸ List.mem_map_of_mem (f := (·.1)) hq)
              simp [this]
            rw [this, List.map_id]
      · rw [if_neg hp]
        by_cases hx : x = p.1
        · have hxb : ¬ x = b := fun e => hp (hx ▸ e)
          have e : (x == p.1) = true := by simp [hx]
          simp only [e, if_neg hxb]
        · have e : (x == p.1) = false := by simp [hx]
          simp only [e]
          rw [List.map_cons] at hb
          refine ih ?_
          rcases List.mem_cons.mp hb with hb | hb
          · exact absurd hb.symm hp
          · exact hb
  · rw [if_neg hb, List.lookup_append]
    by_cases hx : x = b
    · subst hx
      rw [lookup_none hb]
      simp
    · have : List.lookup x [(b, v)] = none := by
        rw [List.lookup_cons]
        have e : (x == b) = false := by simp [hx]
        rw [e]; rfl
      rw [this, if_neg hx, Option.or_none]
theorem merge_kv : ∀ (e d : NM α), (∀ p ∈ e, p.1 ∉ d.map (·.1)) → NKs e → merge (d.map (kvf f)) (e.map (kvf f)) = (d ++ e).map (kvf f)
  | [], d, _, _ => by simp [merge]
  | p :: e, d, h, n => by
    unfold NKs at n
    rw [List.map_cons, List.nodup_cons] at n
    have hp := h p List.mem_cons_self
    have e1 : dset d p.1 p.2 = d ++ [p] := by unfold dset; rw [if_neg hp]
    show merge (dput (d.map (kvf f)) (.inr p.1) (f p.2)) (e.map (kvf f)) = _
    rw [dput_kv, e1, merge_kv e (d ++ [p]) ?_ n.2]
    · rw [List.append_assoc]; rfl
    · intro q hq
      rw [List.map_append]
      intro hh
      rcases List.mem_append.mp hh with hh | hh
      · exact h q (List.mem_cons_of_mem _ hq) hh
      · have e : q.1 = p.1 := List.mem_singleton.mp hh
        have := List.mem_map_of_mem (f := fun x : Str × α => x.1) hq
        exact n.1 (by rw [← e]; exact this)
theorem dict_np {d : NM α} (hn : NKs d) {h : AH} {Q : AQ} (q : newD h (d.map (kvf f)) Q) : dictR (np f d) h Q := by
  refine ⟨_, pairs_np d, ?_⟩
  have e := merge_kv (f := f) d [] (by simp) hn
  have e : merge [] (d.map (kvf f)) = d.map (kvf f) := e
  rw [e]
  exact q
theorem keys_kv {d : NM α} : (d.map (kvf f)).map (·.1) = (d.map (·.1)).map Sum.inr := by
  rw [List.map_map, List.map_map]; rfl
theorem ext_np {d e : NM α} (hd : Asc d) (he : Asc e) (h : ∀ b, d.lookup b = e.lookup b) : d = e := by
  have hm : ∀ {d e : NM α}, Asc d → (∀ b, d.lookup b = e.lookup b) → ∀ p, p ∈ d → p ∈ e := by
    intro d e hd h p hp
    have := lookup_some hd.nks hp
    rw [h] at this
    exact lookup_mem this
  have nd : ∀ {d : NM α}, Asc d → d.Nodup := by
    intro d hd
    unfold List.Nodup
    exact List.Pairwise.imp (fun hpq e => sl_ne hpq (congrArg Prod.fst e)) hd
  have pm : d.Perm e := by
    refine (List.perm_ext_iff_of_nodup (nd hd) (nd he)).mpr fun p => ⟨hm hd h p, hm he (fun b => (h b).symm) p⟩
  exact List.Perm.eq_of_pairwise (fun a b _ _ h1 h2 => absurd h2 (sl_asymm h1)) hd he pm
end
theorem sorted_asc {ys : List Str} (hs : sortedS ys = true) (hn : ys.Nodup) : ys.Pairwise sl := by
  have key : ∀ (ys : List Str) (p : Str), risingS p ys = true → (∀ y ∈ ys, p = y ∨ sl p y) ∧ ys.Pairwise (fun a b => a = b ∨ sl a b) := by
    intro ys
    induction ys with
    | nil => intro p _; exact ⟨by simp, List.Pairwise.nil⟩
    | cons x r ih =>
      intro p h
      unfold risingS at h
      rw [Bool.and_eq_true] at h
      obtain ⟨i1, i2⟩ := ih x h.2
      have px : p = x ∨ sl p x := by
        have h1 := h.1
        rw [ltCps_eq] at h1
        have h1 : ¬ sl x p := by
          intro hh
          have : decide (x.cps.toList < p.cps.toList) = true := decide_eq_true hh
          rw [this] at h1; cases h1
        by_cases hp : sl p x
        · exact .inr hp
        · exact .inl (sl_total hp h1)
      refine ⟨?_, List.pairwise_cons.mpr ⟨i1, i2⟩⟩
      intro y hy
      rcases List.mem_cons.mp hy with rfl | hy
      · exact px
      · rcases px with e | px
        · rw [e]; exact i1 y hy
        · rcases i1 y hy with rfl | hxy
          · exact .inr px
          · exact .inr (sl_trans px hxy)
  have weak : ys.Pairwise (fun a b => a = b ∨ sl a b) := by
    cases ys with
    | nil => exact List.Pairwise.nil
    | cons x r =>
      obtain ⟨i1, i2⟩ := key r x hs
      exact List.pairwise_cons.mpr ⟨i1, i2⟩
  exact List.Pairwise.imp₂ (fun a b h1 h2 => h1.resolve_left h2) weak hn
theorem len_nodup_sub {α : Type} [DecidableEq α] : ∀ {xs ys : List α}, xs.Nodup → (∀ x ∈ xs, x ∈ ys) → xs.length ≤ ys.length
  | [], ys, _, _ => Nat.zero_le _
  | x :: xs, ys, hn, hs => by
    rw [List.nodup_cons] at hn
    have hx := hs x List.mem_cons_self
    have := len_nodup_sub (xs := xs) (ys := ys.erase x) hn.2 (fun y hy => (List.mem_erase_of_ne (fun e : y = x => hn.1 (by rw [← e]; exact hy))).mpr (hs y (List.mem_cons_of_mem _ hy)))
    rw [List.length_erase_of_mem hx] at this
    have := List.length_pos_of_mem hx
    rw [List.length_cons]
    omega
end PL

namespace PL
open PySem PySem.Spec PyProof.Rows L2
mutual
def DTy (h : AH) : AV → Prop
  | .ref a => (∃ xs, h a = some (.lst xs)) ∨ ∃ kvs, h a = some (.dK kvs)
  | .wt _ => False
  | .str z => z.length ≤ 1000000
  | .tup xs => xs.length ≤ 1000000 ∧ DTys h xs
  | .non => True
  | .bl _ => True
  | .int _ => True
  | .rl _ => True
def DTys (h : AH) : List AV → Prop
  | [] => True
  | x :: xs => DTy h x ∧ DTys h xs
end
theorem DTys.mem {h : AH} : ∀ {xs : List AV}, DTys h xs → ∀ x ∈ xs, DTy h x
  | [], _, x, hx => by cases hx
  | y :: ys, d, x, hx => by
    unfold DTys at d
    rcases List.mem_cons.mp hx with rfl | hx
    · exact d.1
    · exact DTys.mem d.2 x hx
theorem DTys.of {h : AH} : ∀ {xs : List AV}, (∀ x ∈ xs, DTy h x) → DTys h xs
  | [], _ => by unfold DTys; trivial
  | y :: ys, d => by
    unfold DTys
    exact ⟨d y List.mem_cons_self, DTys.of fun x hx => d x (List.mem_cons_of_mem _ hx)⟩
theorem dty_tup {h : AH} {xs : List AV} : DTy h (.tup xs) ↔ xs.length ≤ 1000000 ∧ ∀ x ∈ xs, DTy h x := by
  constructor
  · intro d
    unfold DTy at d
    exact ⟨d.1, d.2.mem⟩
  · intro d
    unfold DTy
    exact ⟨d.1, DTys.of d.2⟩
theorem dty_ref {h : AH} {a : Addr} : DTy h (.ref a) ↔ ((∃ xs, h a = some (.lst xs)) ∨ ∃ kvs, h a = some (.dK kvs)) := by
  constructor
  · intro d; unfold DTy at d; exact d
  · intro d; unfold DTy; exact d
theorem dty_str {h : AH} {z : Str} : DTy h (.str z) ↔ z.length ≤ 1000000 := by
  constructor
  · intro d; unfold DTy at d; exact d
  · intro d; unfold DTy; exact d
theorem dty_wt {h : AH} {xs : List AV} (d : DTy h (.wt xs)) : False := by unfold DTy at d; exact d
theorem DTy.tyd {h : AH} {v : AV} (d : DTy h v) : Tyd h v := by
  cases v with
  | ref a => exact dty_ref.mp d
  | wt _ => exact (dty_wt d).elim
  | _ => exact trivial
mutual
theorem DTy.mono {h h' : AH} (l : ALe h h') : ∀ {v : AV}, DTy h v → DTy h' v
  | .ref a, d => by
    rcases dty_ref.mp d with ⟨xs, e⟩ | ⟨xs, e⟩
    · exact dty_ref.mpr (.inl ⟨xs, l _ _ e⟩)
    · exact dty_ref.mpr (.inr ⟨xs, l _ _ e⟩)
  | .wt _, d => (dty_wt d).elim
  | .str z, d => dty_str.mpr (dty_str.mp d)
  | .tup xs, d => by
    unfold DTy at d ⊢
    exact ⟨d.1, DTys.mono l d.2⟩
  | .non, _ => by unfold DTy; trivial
  | .bl _, _ => by unfold DTy; trivial
  | .int _, _ => by unfold DTy; trivial
  | .rl _, _ => by unfold DTy; trivial
theorem DTys.mono {h h' : AH} (l : ALe h h') : ∀ {xs : List AV}, DTys h xs → DTys h' xs
  | [], _ => by unfold DTys; trivial
  | x :: xs, d => by
    unfold DTys at d ⊢
    exact ⟨DTy.mono l d.1, DTys.mono l d.2⟩
end
mutual
def clB : AV → Bool
  | .ref _ => false
  | .wt _ => false
  | .str z => decide (z.length ≤ 1000000)
  | .tup xs => decide (xs.length ≤ 1000000) && clBs xs
  | _ => true
def clBs : List AV → Bool
  | [] => true
  | x :: xs => clB x && clBs xs
end
mutual
theorem clB_dty {h : AH} : ∀ {v : AV}, clB v = true → DTy h v
  | .ref _, c => by simp [clB] at c
  | .wt _, c => by simp [clB] at c
  | .str z, c => dty_str.mpr (by simpa [clB] using c)
  | .tup xs, c => by
    simp only [clB, Bool.and_eq_true, decide_eq_true_eq] at c
    unfold DTy
    exact ⟨c.1, clBs_dty c.2⟩
  | .non, _ => by unfold DTy; trivial
  | .bl _, _ => by unfold DTy; trivial
  | .int _, _ => by unfold DTy; trivial
  | .rl _, _ => by unfold DTy; trivial
theorem clBs_dty {h : AH} : ∀ {xs : List AV}, clBs xs = true → DTys h xs
  | [], _ => by unfold DTys; trivial
  | x :: xs, c => by
    simp only [clBs, Bool.and_eq_true] at c
    unfold DTys
    exact ⟨clB_dty c.1, clBs_dty c.2⟩
end
def letC (c : Nat) : Bool := decide (c ∈ ("abcdefghijklmnopqrstuvwxyz" : Str).cps.toList)
def nameOk (s : Str) : Bool := decide (1 ≤ s.length ∧ s.length ≤ 8) && s.cps.toList.all letC
def isName : AV → Bool | .str s => nameOk s | _ => false
def isNP : AV → Bool | .tup [a, _] => isName a | _ => false
def keyOf : AV → Str | .tup (.str s :: _) => s | _ => ⟨#[]⟩
def ascA : List AV → Bool
  | x :: y :: r => decide (sl (keyOf x) (keyOf y)) && ascA (y :: r)
  | _ => true
def areNP : AV → Bool | .tup xs => xs.all isNP && ascA xs | _ => false
def expOk : AV → Bool | .tup [_, .int n] => decide (n ≠ 0) | _ => false
def isDim (v : AV) : Bool := areNP v && match v with | .tup xs => xs.all expOk | _ => false
theorem isNP_key {x : AV} (h : isNP x = true) : ∃ s y, x = .tup [.str s, y] ∧ nameOk s = true := by
  match x, h with
  | .tup [.str s, y], h => exact ⟨s, y, rfl, h⟩
  | .tup [.non, _], h => cases h
  | .tup [.bl _, _], h => cases h
  | .tup [.int _, _], h => cases h
  | .tup [.tup _, _], h => cases h
  | .tup [.wt _, _], h => cases h
  | .tup [.rl _, _], h => cases h
  | .tup [.ref _, _], h => cases h
def fstC : AV → Nat | .str s => s.cps.toList.headD 0 | _ => 0
def blF (P : AV → Bool) : AV → Option AV := fun x => some (.bl (P x))
theorem bls_map (P : AV → Bool) : ∀ (xs : List AV), bls? (xs.filterMap (blF P)) = some (xs.map P)
  | [] => rfl
  | x :: xs => by
    rw [List.filterMap_cons]
    show (bls? (List.filterMap (blF P) xs)).map (P x :: ·) = _
    rw [bls_map P xs]; rfl
theorem all_map (P : AV → Bool) (xs : List AV) : (xs.map P).all id = xs.all P := by
  rw [List.all_map]; rfl
section
variable {G : Pg} {n : Nat} {T : Tb} {C : ACall} (hC : CMono C)
include hC
theorem all_comp {own : List Nat} {g it elt : CE} {σ : AEnv} {h : AH} {Q : AQ} {E : AXQ} (q : wpI C T it σ h (fun xs chk h1 => xs.length ≤ 1000000 ∧ (∀ h2, ALe h1 h2 → chk h2) ∧ ∃ P : AV → Bool,
      (∀ x ∈ xs, ∀ h2, ALe h1 h2 → wpG C T g x (awipe σ own) h2 fun σ2 h3 => wpE C T elt σ2 h3 (fun y h4 => y = .bl (P x) ∧ ALe h2 h4) fun _ _ => False) ∧
      ∀ h2, ALe h1 h2 → Q (.bl (xs.all P)) h2) E) : wpE C T (.comp own g it .nil elt) σ h (fun x h1 => allR x h1 Q) E := by
  refine comp_pure hC (wpI_mono hC it (fun xs chk h1 q => ?_) (fun _ _ z => z) q)
  obtain ⟨hl, hc, P, hs, hf⟩ := q
  refine ⟨len_small hl, fun D acc hD => hc _ (ALe.fresh hD), blF P, fun D hD x hx acc => ?_, fun D hD => ?_⟩
  · refine wpG_mono hC g (fun σ2 h3 q => ?_) (hs x hx _ (ALe.fresh hD))
    show wpE C T elt σ2 h3 _ _
    refine wpE_mono hC elt (fun y h4 q => ?_) (fun _ _ z => z) q
    exact ⟨by rw [q.1]; rfl, q.2⟩
  · refine al_lst aupd_same (bls_map P xs) ?_
    rw [all_map]
    exact hf _ (ALe.fresh hD)
end
variable {G : Pg} {n : Nat} {Q : AQ} {E : AXQ} {h : AH}
theorem is_name_spec (c34 : G.code 34 = some f34) (g0 : G.T.gv 0 = some (.int 8)) (g1 : G.T.gv 1 = some (.str "abcdefghijklmnopqrstuvwxyz")) {v : AV} (ht : DTy h v) (hq : Q (.bl (isName v)) h) : wpC G (n + 1) 34 [v] h Q E := by
  refine call_i c34 rfl ?_
  unfold c34_is_name
  cases v with
  | str z =>
    have hz := dty_str.mp ht
    bv_omega
    refine ⟨len_small hz, ?_⟩
    have hq : Q (.bl (decide (1 ≤ z.length ∧ z.length ≤ 8) && z.cps.toList.all letC)) h := hq
    by_cases e1 : (1 : Int) ≤ z.length
    · rw [if_pos e1]
      refine ⟨_, g0, ?_⟩
      bv_omega
      by_cases e2 : (z.length : Int) ≤ 8
      · rw [if_pos e2]
        refine all_comp (wpC_mono G n) ?_
        bv_omega
        refine ⟨by rw [List.length_map]; exact hz, fun _ _ => trivial, fun x => letC (fstC x), ?_, ?_⟩
        · intro x hx h2 _
          obtain ⟨c, _, rfl⟩ := List.mem_map.mp hx
          bv_omega
          refine ⟨_, g1, ?_⟩
          bv_omega
          exact ⟨rfl, ALe.refl⟩
        · intro h2 l
          have e : ((z.cps.toList.map fun c => AV.str ⟨#[c]⟩).all fun x => letC (fstC x)) = z.cps.toList.all letC := by
            rw [List.all_map]; rfl
          rw [e]
          have e3 : decide (1 ≤ z.length ∧ z.length ≤ 8) = true := decide_eq_true ⟨by omega, by omega⟩
          rw [e3, Bool.true_and] at hq
          exact shr_le l hq
      · rw [if_neg e2]
        have e3 : decide (1 ≤ z.length ∧ z.length ≤ 8) = false := decide_eq_false (by omega)
        rw [e3, Bool.false_and] at hq
        exact shr_i hq
    · rw [if_neg e1]
      have e3 : decide (1 ≤ z.length ∧ z.length ≤ 8) = false := decide_eq_false (by omega)
      rw [e3, Bool.false_and] at hq
      exact shr_i hq
  | ref a =>
    bv_omega
    rcases dty_ref.mp ht with ⟨xs, e⟩ | ⟨xs, e⟩
    · refine t_lst e ?_
      bv_omega
      exact shr_i hq
    · refine t_dK e ?_
      bv_omega
      exact shr_i hq
  | wt _ => exact (dty_wt ht).elim
  | _ =>
    bv_omega
    exact shr_i hq
theorem mem_rangeL : ∀ {n : Nat} {lo : Int} {x : AV}, x ∈ rangeL lo n ↔ ∃ i : Nat, i < n ∧ x = .int (lo + i)
  | 0, lo, x => by
    unfold rangeL
    constructor
    · intro h; cases h
    · rintro ⟨i, hi, _⟩; omega
  | n + 1, lo, x => by
    unfold rangeL
    rw [List.mem_cons, mem_rangeL (lo := lo + 1)]
    constructor
    · rintro (rfl | ⟨i, hi, rfl⟩)
      · exact ⟨0, by omega, by simp⟩
      · exact ⟨i + 1, by omega, by congr 1; push_cast; omega⟩
    · rintro ⟨i, hi, rfl⟩
      cases i with
      | zero => exact .inl (by simp)
      | succ i => exact .inr ⟨i, by omega, by congr 1; push_cast; omega⟩
def ascAt (xs : List AV) (i : Nat) : Bool := decide (sl (keyOf (xs.getD i .non)) (keyOf (xs.getD (i + 1) .non)))
theorem ascA_iff : ∀ (xs : List AV), ascA xs = true ↔ ∀ i : Nat, i + 1 < xs.length → ascAt xs i = true
  | [] => by simp [ascA]
  | [x] => by simp [ascA]
  | x :: y :: r => by
    unfold ascA
    rw [Bool.and_eq_true, ascA_iff (y :: r)]
    constructor
    · rintro ⟨h1, h2⟩ i hi
      cases i with
      | zero => exact h1
      | succ i => exact h2 i (by simpa using hi)
    · intro h
      exact ⟨h 0 (by simp), fun i hi => h (i + 1) (by simpa using hi)⟩
theorem atI_nat {xs : List AV} {i : Nat} (h : i < xs.length) : atI xs (i : Int) = some (xs.getD i .non) := by
  unfold atI
  rw [if_pos (by omega)]
  simp [h]
theorem getD_mem {xs : List AV} {i : Nat} (h : i < xs.length) : xs.getD i .non ∈ xs := by
  have e : xs.getD i .non = xs[i] := by simp [h]
  rw [e]
  exact List.getElem_mem h
theorem len_two {x : AV} (h : isNP x = true) : ∃ s y, x = .tup [.str s, y] ∧ nameOk s = true := isNP_key h
theorem are_named_pairs_spec (c34 : G.code 34 = some f34) (c35 : G.code 35 = some f35) (g0 : G.T.gv 0 = some (.int 8)) (g1 : G.T.gv 1 = some (.str "abcdefghijklmnopqrstuvwxyz")) {v : AV} (ht : DTy h v) (hq : Q (.bl (areNP v)) h) : wpC G (n + 2) 35 [v] h Q E := by
  refine call_i c35 rfl ?_
  unfold c35_are_named_pairs
  cases v with
  | tup xs =>
    obtain ⟨hl, hx⟩ := dty_tup.mp ht
    have hq : Q (.bl (xs.all isNP && ascA xs)) h := hq
    bv_omega
    refine all_comp (wpC_mono G (n + 1)) ?_
    bv_omega
    refine ⟨hl, fun _ _ => trivial, isNP, fun x hx' h2 l => ?_, fun h2 l => ?_⟩
    · have dx := (hx x hx').mono l
      cases x with
      | tup ys =>
        obtain ⟨hl2, hy⟩ := dty_tup.mp dx
        match ys, hy with
        | [], _ => bv_omega; simp; exact ⟨rfl, ALe.refl⟩
        | [_], _ => bv_omega; simp; exact ⟨rfl, ALe.refl⟩
        | a :: b :: c :: r, _ =>
          bv_omega
          have e : ¬ (((r.length + 1 + 1 + 1 : Nat) : Int) = 2) := by omega
          simp only [e, if_false]
          exact ⟨rfl, ALe.refl⟩
        | [a, b], hy =>
          bv_omega
          have e : ((0 + 1 + 1 : Nat) : Int) = 2 := rfl
          simp only [e, if_true]
          exact is_name_spec c34 g0 g1 (hy a (by simp)) ⟨rfl, ALe.refl⟩
      | ref a =>
        rcases dty_ref.mp dx with ⟨xs, e⟩ | ⟨xs, e⟩
        · refine t_lst e ?_
          bv_omega
          exact ⟨rfl, ALe.refl⟩
        · refine t_dK e ?_
          bv_omega
          exact ⟨rfl, ALe.refl⟩
      | wt _ => exact (dty_wt dx).elim
      | _ =>
        bv_omega
        exact ⟨rfl, ALe.refl⟩
    · by_cases ha : xs.all isNP = true
      · rw [ha, Bool.true_and] at hq
        rw [ha]
        bv_omega
        refine all_comp (wpC_mono G (n + 1)) ?_
        bv_omega
        refine ⟨by omega, by omega, ?_⟩
        have em : ((xs.length : Int) - 1).toNat = xs.length - 1 := by omega
        rw [em]
        refine ⟨by rw [rangeL_len]; omega, fun _ _ => trivial, fun x => match x with | .int i => ascAt xs i.toNat | _ => false, fun x hx' h3 l3 => ?_, fun h3 l3 => ?_⟩
        · obtain ⟨i, hi, rfl⟩ := mem_rangeL.mp hx'
          have a1 : i < xs.length := by omega
          have a2 : i + 1 < xs.length := by omega
          have n1 := List.all_eq_true.mp ha (xs.getD i .non) (getD_mem a1)
          have n2 := List.all_eq_true.mp ha (xs.getD (i + 1) .non) (getD_mem a2)
          obtain ⟨s1, y1, e1, _⟩ := isNP_key n1
          obtain ⟨s2, y2, e2, _⟩ := isNP_key n2
          bv_omega
          rw [Int.zero_add]
          refine ⟨_, atI_nat a1, ?_⟩
          rw [e1]
          bv_omega
          have ei : ((i : Int) + 1) = ((i + 1 : Nat) : Int) := by omega
          rw [ei]
          refine ⟨_, atI_nat a2, ?_⟩
          rw [e2]
          bv_omega
          refine ⟨?_, ALe.refl⟩
          have : ascAt xs i = decide (s1.cps.toList < s2.cps.toList) := by
            unfold ascAt
            rw [e1, e2]
            rfl
          simp only [Int.toNat_natCast, this]
        · have e : (rangeL 0 (xs.length - 1)).all (fun x => match x with | .int i => ascAt xs i.toNat | _ => false) = ascA xs := by
            rw [Bool.eq_iff_iff, ascA_iff, List.all_eq_true]
            constructor
            · intro hh i hi
              have := hh (.int ((0 : Int) + i)) (mem_rangeL.mpr ⟨i, by omega, rfl⟩)
              simpa using this
            · intro hh x hx'
              obtain ⟨i, hi, rfl⟩ := mem_rangeL.mp hx'
              have := hh i (by omega)
              simpa using this
          rw [e]
          exact shr_le (ALe.trans l l3) hq
      · have ha : xs.all isNP = false := by simpa using ha
        rw [ha, Bool.false_and] at hq
        rw [ha]
        bv_omega
        exact shr_le l hq
  | ref a =>
    bv_omega
    rcases dty_ref.mp ht with ⟨xs, e⟩ | ⟨xs, e⟩
    · refine t_lst e ?_
      bv_omega
      exact shr_i hq
    · refine t_dK e ?_
      bv_omega
      exact shr_i hq
  | wt _ => exact (dty_wt ht).elim
  | _ =>
    bv_omega
    exact shr_i hq
theorem is_dimension_spec (c0 : G.code 0 = some f0) (c34 : G.code 34 = some f34) (c35 : G.code 35 = some f35) (c36 : G.code 36 = some f36) (g0 : G.T.gv 0 = some (.int 8)) (g1 : G.T.gv 1 = some (.str "abcdefghijklmnopqrstuvwxyz")) {v : AV} (ht : DTy h v) (hq : Q (.bl (isDim v)) h) : wpC G (n + 3) 36 [v] h Q E := by
  refine call_i c36 rfl ?_
  unfold c36_is_dimension
  bv_omega
  refine are_named_pairs_spec c34 c35 g0 g1 ht ?_
  by_cases ha : areNP v = true
  · rw [ha]
    bv_omega
    obtain ⟨xs, rfl⟩ : ∃ xs, v = .tup xs := by
      cases v with
      | tup xs => exact ⟨xs, rfl⟩
      | _ => cases ha
    obtain ⟨hl, hx⟩ := dty_tup.mp ht
    have hq : Q (.bl (areNP (.tup xs) && xs.all expOk)) h := hq
    rw [ha, Bool.true_and] at hq
    have hn : xs.all isNP = true := by
      have : (xs.all isNP && ascA xs) = true := ha
      rw [Bool.and_eq_true] at this
      exact this.1
    refine all_comp (wpC_mono G (n + 2)) ?_
    bv_omega
    refine ⟨hl, fun _ _ => trivial, expOk, fun x hx' h2 l => ?_, fun h2 l => shr_le l hq⟩
    obtain ⟨s, y, rfl, _⟩ := isNP_key (List.all_eq_true.mp hn x hx')
    have dy := ((dty_tup.mp (hx _ hx')).2 y (by simp)).mono l
    refine g_tupR rfl ?_
    bv_omega
    refine is_integer_spec c0 dy.tyd ?_
    cases y with
    | int i =>
      simp only [isInt]
      bv_omega
      exact ⟨by show _ = decide (i ≠ 0); rw [decide_not], ALe.refl⟩
    | wt _ => exact (dty_wt dy).elim
    | _ => simp only [isInt]; bv_omega; exact ⟨rfl, ALe.refl⟩
  · have ha : areNP v = false := by simpa using ha
    rw [ha]
    bv_omega
    have : isDim v = false := by unfold isDim; rw [ha, Bool.false_and]
    rw [this] at hq
    exact shr_i hq
theorem check_dimension_spec (c0 : G.code 0 = some f0) (c34 : G.code 34 = some f34) (c35 : G.code 35 = some f35) (c36 : G.code 36 = some f36) (c37 : G.code 37 = some f37) (g0 : G.T.gv 0 = some (.int 8)) (g1 : G.T.gv 1 = some (.str "abcdefghijklmnopqrstuvwxyz")) {v : AV} (ht : DTy h v) (hq : isDim v = true → Q .non h) (he : isDim v = false → E ⟨3, []⟩ h) : wpC G (n + 4) 37 [v] h Q E := by
  refine call_i c37 rfl ?_
  unfold c37_check_dimension
  bv_omega
  refine is_dimension_spec c0 c34 c35 c36 g0 g1 ht ?_
  bv_omega
  cases e : isDim v with
  | true => bv_omega; exact shr_i (hq e)
  | false => bv_omega; exact shr_i (he e)
end PL

namespace PL
open PySem PySem.Spec PyProof.Rows L2
abbrev Dm := NM Int
def dm (d : Dm) : AV := np AV.int d
def dv (d : Dm) (b : Str) : Int := (d.lookup b).getD 0
structure DOk (N : List Str) (k : Nat) (d : Dm) : Prop where
  asc : Asc d
  nz : ∀ p ∈ d, p.2 ≠ 0 ∧ p.2.natAbs < 2 ^ k
  sub : ∀ p ∈ d, p.1 ∈ N
structure NmsOk (N : List Str) : Prop where
  ok : ∀ s ∈ N, nameOk s = true
  len : N.length < 60
theorem DOk.mono {N : List Str} {k m : Nat} {d : Dm} (o : DOk N k d) (h : k ≤ m) : DOk N m d :=
  ⟨o.asc, fun p hp => ⟨(o.nz p hp).1, Nat.lt_of_lt_of_le (o.nz p hp).2 (Nat.pow_le_pow_right (by decide) h)⟩, o.sub⟩
theorem nks_len {α : Type} {N : List Str} {d : NM α} (hn : NKs d) (hs : ∀ q ∈ d, q.1 ∈ N) : d.length ≤ N.length := by
  have hn : (d.map (fun x : Str × α => x.1)).Nodup := hn
  have := len_nodup_sub (ys := N) hn (fun x hx => by
    obtain ⟨p, hp, rfl⟩ := List.mem_map.mp hx
    exact hs p hp)
  simpa using this
theorem DOk.len {N : List Str} {k : Nat} {d : Dm} (o : DOk N k d) : d.length ≤ N.length := nks_len o.asc.nks o.sub
theorem dv_mem {d : Dm} {b : Str} (h : dv d b ≠ 0) : (b, dv d b) ∈ d := by
  unfold dv at h ⊢
  cases e : d.lookup b with
  | none => rw [e] at h; exact absurd rfl h
  | some v => exact lookup_mem e
theorem dv_of {d : Dm} {p : Str × Int} (hn : NKs d) (h : p ∈ d) : dv d p.1 = p.2 := by
  unfold dv
  rw [lookup_some hn (show (p.1, p.2) ∈ d from h)]; rfl
theorem dv_none {d : Dm} {b : Str} (h : b ∉ d.map (·.1)) : dv d b = 0 := by
  unfold dv; rw [lookup_none h]; rfl
theorem DOk.bd {N : List Str} {k : Nat} {d : Dm} (o : DOk N k d) (b : Str) : (dv d b).natAbs < 2 ^ k := by
  by_cases h : dv d b = 0
  · rw [h]; exact Nat.two_pow_pos k
  · exact (o.nz _ (dv_mem h)).2
theorem DOk.look {N : List Str} {k : Nat} {d : Dm} (o : DOk N k d) (b : Str) : d.lookup b = if dv d b = 0 then none else some (dv d b) := by
  unfold dv
  cases e : d.lookup b with
  | none => simp
  | some v =>
    have := (o.nz _ (lookup_mem e)).1
    simp [this]
theorem ext_dm {N M : List Str} {k m : Nat} {d e : Dm} (hd : DOk N k d) (he : DOk M m e) (h : ∀ b, dv d b = dv e b) : d = e :=
  ext_np hd.asc he.asc fun b => by rw [hd.look, he.look, h]
theorem DOk.nil {N : List Str} {k : Nat} : DOk N k [] := ⟨List.Pairwise.nil, by simp, by simp⟩
theorem dv_nil {b : Str} : dv [] b = 0 := rfl
theorem dv_cons {d : Dm} {a b : Str} {m : Int} : dv ((a, m) :: d) b = if b = a then m else dv d b := by
  unfold dv
  rw [List.lookup_cons]
  by_cases h : b = a
  · simp [h]
  · have e : (b == a) = false := by simp [h]
    rw [e]; simp [h]
theorem dv_dset {d : Dm} {a b : Str} {m : Int} : dv (dset d a m) b = if b = a then m else dv d b := by
  unfold dv
  rw [lookup_dset]
  split <;> rfl
theorem asc_keys : ∀ {d : Dm}, Asc d → ascA (d.map (prf AV.int)) = true
  | [], _ => rfl
  | [p], _ => rfl
  | p :: q :: r, h => by
    show (decide (sl p.1 q.1) && ascA ((q :: r).map (prf AV.int))) = true
    have h2 := List.pairwise_cons.mp h
    rw [asc_keys (d := q :: r) h2.2, Bool.and_true]
    exact decide_eq_true (h2.1 q List.mem_cons_self)
theorem isDim_dm {N : List Str} {k : Nat} {d : Dm} (hN : NmsOk N) (o : DOk N k d) : isDim (dm d) = true := by
  show ((d.map (prf AV.int)).all isNP && ascA (d.map (prf AV.int)) && (d.map (prf AV.int)).all expOk) = true
  rw [asc_keys o.asc]
  have h1 : (d.map (prf AV.int)).all isNP = true := by
    rw [List.all_map, List.all_eq_true]
    intro p hp
    exact hN.ok _ (o.sub p hp)
  have h2 : (d.map (prf AV.int)).all expOk = true := by
    rw [List.all_map, List.all_eq_true]
    intro p hp
    exact decide_eq_true (o.nz p hp).1
  rw [h1, h2]; rfl
theorem name_len {s : Str} (h : nameOk s = true) : 1 ≤ s.length ∧ s.length ≤ 8 := by
  unfold nameOk at h
  rw [Bool.and_eq_true] at h
  exact of_decide_eq_true h.1
theorem dty_dm {N : List Str} {k : Nat} {d : Dm} {h : AH} (hN : NmsOk N) (o : DOk N k d) : DTy h (dm d) := by
  refine dty_tup.mpr ⟨?_, ?_⟩
  · rw [List.length_map]
    have := o.len
    have := hN.len
    omega
  · intro x hx
    obtain ⟨p, hp, rfl⟩ := List.mem_map.mp hx
    refine dty_tup.mpr ⟨by simp, fun y hy => ?_⟩
    simp at hy
    rcases hy with rfl | rfl
    · exact dty_str.mpr (by have := name_len (hN.ok _ (o.sub p hp)); omega)
    · unfold DTy; trivial
theorem filt_dm (f : Str → Int) : ∀ ys : List Str, (ys.map AV.str).filterMap (fun x => match x with | .str b => if f b ≠ 0 then some (prf AV.int (b, f b)) else none | _ => none) = ((ys.filter fun b => decide (f b ≠ 0)).map fun b => (b, f b)).map (prf AV.int)
  | [] => rfl
  | y :: ys => by
    rw [List.map_cons, List.filterMap_cons, List.filter_cons]
    by_cases h : f y = 0
    · simp only [h, ne_eq, not_true_eq_false, if_false, decide_false, Bool.false_eq_true]
      exact filt_dm f ys
    · simp only [h, ne_eq, not_false_eq_true, if_true, decide_true, List.map_cons]
      rw [filt_dm f ys]
theorem mk_dm {N : List Str} {k : Nat} {ys : List Str} (f : Str → Int) (hp : ys.Pairwise sl) (hs : ∀ b ∈ ys, b ∈ N) (hb : ∀ b ∈ ys, (f b).natAbs < 2 ^ k) (h0 : ∀ b, b ∉ ys → f b = 0) :
    DOk N k ((ys.filter fun b => decide (f b ≠ 0)).map fun b => (b, f b)) ∧ ∀ b, dv ((ys.filter fun b => decide (f b ≠ 0)).map fun b => (b, f b)) b = f b := by
  have asc : Asc ((ys.filter fun b => decide (f b ≠ 0)).map fun b => (b, f b)) := by
    unfold Asc
    rw [List.pairwise_map]
    exact hp.filter _
  refine ⟨⟨asc, ?_, ?_⟩, fun b => ?_⟩
  · intro p hp
    obtain ⟨b, hb1, rfl⟩ := List.mem_map.mp hp
    rw [List.mem_filter] at hb1
    exact ⟨of_decide_eq_true hb1.2, hb b hb1.1⟩
  · intro p hp
    obtain ⟨b, hb1, rfl⟩ := List.mem_map.mp hp
    rw [List.mem_filter] at hb1
    exact hs b hb1.1
  · by_cases hy : b ∈ ys.filter fun b => decide (f b ≠ 0)
    · exact dv_of asc.nks (p := (b, f b)) (List.mem_map.mpr ⟨b, hy, rfl⟩)
    · rw [dv_none (by rw [List.map_map]; intro hh; obtain ⟨c, hc, e⟩ := List.mem_map.mp hh; have e : c = b := e; exact hy (e ▸ hc))]
      rw [List.mem_filter] at hy
      by_cases h2 : b ∈ ys
      · have : ¬ f b ≠ 0 := fun hh => hy ⟨h2, decide_eq_true hh⟩
        exact (Decidable.not_not.mp this).symm
      · exact (h0 b h2).symm
theorem pm1_mulW {s m : Int} {k : Nat} (hs : s = 1 ∨ s = -1) (hm : m.natAbs < 2 ^ k) (hk : k ≤ 900000) : CMulW s m := by
  rcases hs with rfl | rfl
  · exact wide_mul (a := 1) (b := k + 1) (by decide) (Nat.lt_trans hm (Nat.pow_lt_pow_right (by decide) (Nat.lt_succ_self _))) (by decide) (by omega) (by omega)
  · exact wide_mul (a := 1) (b := k + 1) (by decide) (Nat.lt_trans hm (Nat.pow_lt_pow_right (by decide) (Nat.lt_succ_self _))) (by decide) (by omega) (by omega)
theorem pm1_bd {s x y : Int} {k : Nat} (hs : s = 1 ∨ s = -1) (hx : x.natAbs < 2 ^ k) (hy : y.natAbs < 2 ^ k) : (x + s * y).natAbs < 2 ^ (k + 1) := by
  rw [Nat.pow_succ]
  rcases hs with rfl | rfl <;> omega
variable {G : Pg} {n : Nat} {Q : AQ} {E : AXQ} {h : AH}
theorem sum_gen {N : List Str} {k k2 K : Nat} {one other : Dm} (hN : NmsOk N) (h1 : DOk N k one) (h2 : DOk N k2 other) {s : Int} (hw : ∀ p ∈ other, CMulW s p.2) (hbd : ∀ b, (dv one b + s * dv other b).natAbs < 2 ^ K)
    (hq : ∀ d, DOk N K d → (∀ b, dv d b = dv one b + s * dv other b) → Q (dm d) h) : wpB (wpC G n) G.T G.sub c38_raw_together (endF Q E) (astart 6 [dm one, dm other, .int s]) h := by
  unfold c38_raw_together
  have hl60 := hN.len
  refine wp_cut (wpC_mono G n) (fun σ h' => ∃ p, h p = none ∧ σ = [some (dm one), some (dm other), some (.int s), some (.ref p), none, none] ∧ h' = aupd h p (.dK (one.map (kvf AV.int)))) ?_ ?_
  · bv_omega
    exact dict_np h1.asc.nks fun p hp => ⟨p, hp, rfl, rfl⟩
  rintro σ h' ⟨p, hp, rfl, rfl⟩
  refine wp_cut (wpC_mono G n) (fun σ h' => ∃ (f : Dm) (x y : Option AV), σ = [some (dm one), some (dm other), some (.int s), some (.ref p), x, y] ∧ h' = aupd h p (.dK (f.map (kvf AV.int))) ∧ NKs f ∧ (∀ q ∈ f, q.1 ∈ N) ∧ ∀ b, dv f b = dv one b + s * dv other b) ?_ ?_
  · refine for_v (wpC_mono G n) ?_
    bv_omega
    show itR (.tup (other.map (prf AV.int))) _ _
    rw [v_tup]
    refine ⟨fun xs σ h' => ∃ (f rest : Dm) (x y : Option AV), xs = rest.map (prf AV.int) ∧ σ = [some (dm one), some (dm other), some (.int s), some (.ref p), x, y] ∧ h' = aupd h p (.dK (f.map (kvf AV.int))) ∧ NKs f ∧ (∀ q ∈ f, q.1 ∈ N) ∧ NKs rest ∧ (∀ q ∈ rest, q ∈ other) ∧ ∀ b, dv f b + s * dv rest b = dv one b + s * dv other b,
      ⟨one, other, none, none, rfl, rfl, rfl, h1.asc.nks, h1.sub, h2.asc.nks, fun _ h => h, fun _ => rfl⟩, ?_, ?_⟩
    · rintro σ h' ⟨f, rest, x, y, e, rfl, rfl, hf, hs', hr, ho, hb⟩
      have : rest = [] := by
        cases rest with
        | nil => rfl
        | cons _ _ => cases e
      subst this
      exact ⟨trivial, f, x, y, rfl, rfl, hf, hs', fun b => by have := hb b; rw [dv_nil, Int.mul_zero, Int.add_zero] at this; exact this⟩
    · rintro x xs σ h' ⟨f, rest, u, v, e, rfl, rfl, hf, hs', hr, ho, hb⟩
      cases rest with
      | nil => cases e
      | cons q rest =>
        obtain ⟨a, m⟩ := q
        rw [List.map_cons] at e
        obtain ⟨rfl, rfl⟩ := List.cons.inj e
        refine ⟨trivial, g_tupR rfl ?_⟩
        bv_omega
        refine ⟨ms_get aupd_same, get_dK aupd_same (k' := .inr a) rfl ?_⟩
        have hm := ho (a, m) List.mem_cons_self
        have eg : (dget (f.map (kvf AV.int)) (.inr a)).getD (.int 0) = .int (dv f a) := by
          rw [lookup_map_kv]
          unfold dv
          cases f.lookup a <;> rfl
        rw [eg]
        bv_omega
        refine ⟨hw _ hm, ?_⟩
        have hfl : f.length ≤ N.length := nks_len hf hs'
        refine set_dK aupd_same (k := .inr a) rfl (by rw [List.length_map]; have := len_small (n := f.length + 1) (by omega); omega) ?_
        rw [aupd_aupd, dput_kv]
        unfold NKs at hr
        rw [List.map_cons, List.nodup_cons] at hr
        refine ⟨dset f a (dv f a + s * m), rest, _, _, rfl, rfl, rfl, nks_dset hf, ?_, hr.2, fun q hq => ho q (List.mem_cons_of_mem _ hq), fun b => ?_⟩
        · intro q hq
          rcases mem_dset hq with hq | rfl
          · exact hs' q hq
          · exact h2.sub (a, m) hm
        · rw [dv_dset]
          have hb' := hb b
          rw [dv_cons] at hb'
          by_cases e : b = a
          · subst e
            have h0 : dv rest b = 0 := dv_none hr.1
            rw [if_pos rfl] at hb'
            rw [if_pos rfl, h0, Int.mul_zero, Int.add_zero]
            exact hb'
          · rw [if_neg e] at hb'
            rw [if_neg e]
            exact hb'
  rintro σ h' ⟨f, x, y, rfl, rfl, hf, hs', hb⟩
  bv_omega
  have hfl : f.length ≤ N.length := nks_len hf hs'
  refine comp_pure (wpC_mono G n) ?_
  bv_omega
  refine .inr (.inr (.inl ⟨_, f.map (·.1), aupd_same, keys_kv, by rw [List.length_map]; omega, fun ys pm so r hr => v_ref (C := wpC G n) (T := G.T) aupd_same ?_⟩))
  have rp : p ≠ r := fun e => by subst e; rw [aupd_same] at hr; cases hr
  have hlen : ys.length = f.length := by rw [pm.length_eq, List.length_map]
  have hys : ∀ b, b ∈ ys ↔ b ∈ f.map (·.1) := fun b => pm.mem_iff
  refine ⟨by rw [List.length_map]; exact len_small (by omega), fun D acc hD => by
    show aupd _ D _ r = _
    rw [aupd_ne (fun e => by subst e; rw [aupd_same] at hD; cases hD), aupd_same], fun x => match x with | .str b => if dv f b ≠ 0 then some (prf AV.int (b, dv f b)) else none | _ => none, fun D hD x hx acc => ?_, fun D hD => ?_⟩
  · obtain ⟨b, hb', rfl⟩ := List.mem_map.mp hx
    have pD : p ≠ D := fun e => by subst e; rw [aupd_ne rp, aupd_same] at hD; cases hD
    have ep : aupd (aupd (aupd h p (.dK (f.map (kvf AV.int)))) r (.lst (ys.map AV.str))) D (.lst acc) p = some (.dK (f.map (kvf AV.int))) := by
      rw [aupd_ne pD, aupd_ne rp, aupd_same]
    have ed : dget (f.map (kvf AV.int)) (.inr b) = some (.int (dv f b)) := by
      rw [lookup_map_kv]
      obtain ⟨q, hq, rfl⟩ := List.mem_map.mp ((hys b).mp hb')
      rw [lookup_some hf (show (q.1, q.2) ∈ f from hq), dv_of hf hq]; rfl
    bv_omega
    refine x_dK ep (k' := .inr b) rfl ed ?_
    bv_omega
    by_cases e : dv f b = 0
    · simp only [e]
      bv_omega
      exact ALe.refl
    · simp only [e]
      bv_omega
      refine x_dK ep (k' := .inr b) rfl ed ?_
      exact ⟨by simp [e, prf], ALe.refl⟩
  · rw [filt_dm (dv f) ys]
    refine tu_lst aupd_same ?_
    have hpw : ys.Pairwise sl := sorted_asc so (pm.nodup_iff.mpr hf)
    obtain ⟨o, hv⟩ := mk_dm (N := N) (k := K) (dv f) hpw (fun b hb' => by
        obtain ⟨q, hq, rfl⟩ := List.mem_map.mp ((hys b).mp hb')
        exact hs' q hq) (fun b _ => by rw [hb b]; exact hbd b) (fun b hb' => dv_none fun hh => hb' ((hys b).mpr hh))
    refine shr_le (ALe.trans (ALe.fresh hp) (ALe.trans (ALe.fresh hr) (ALe.fresh hD))) ?_
    exact hq _ o fun b => by rw [hv b, hb b]
theorem sum_body {N : List Str} {k : Nat} {one other : Dm} (hN : NmsOk N) (h1 : DOk N k one) (h2 : DOk N k other) {s : Int} (hs : s = 1 ∨ s = -1) (hk : k ≤ 10000)
    (hq : ∀ d, DOk N (k + 1) d → (∀ b, dv d b = dv one b + s * dv other b) → Q (dm d) h) : wpB (wpC G n) G.T G.sub c38_raw_together (endF Q E) (astart 6 [dm one, dm other, .int s]) h :=
  sum_gen hN h1 h2 (fun p hp => pm1_mulW hs (h2.nz p hp).2 (by omega)) (fun b => pm1_bd hs (h1.bd b) (h2.bd b)) hq
theorem raw_together_spec (c38 : G.code 38 = some f38) {N : List Str} {k : Nat} {one other : Dm} (hN : NmsOk N) (h1 : DOk N k one) (h2 : DOk N k other) {s : Int} (hs : s = 1 ∨ s = -1) (hk : k ≤ 10000)
    (hq : ∀ d, DOk N (k + 1) d → (∀ b, dv d b = dv one b + s * dv other b) → Q (dm d) h) : wpC G (n + 1) 38 [dm one, dm other, .int s] h Q E :=
  call_i c38 rfl (sum_body hN h1 h2 hs hk hq)
end PL

namespace PL
open PySem PySem.Spec PyProof.Rows L2
structure CDim (G : Pg) : Prop where
  c0 : G.code 0 = some f0
  c34 : G.code 34 = some f34
  c35 : G.code 35 = some f35
  c36 : G.code 36 = some f36
  c37 : G.code 37 = some f37
  c38 : G.code 38 = some f38
  g0 : G.T.gv 0 = some (.int 8)
  g1 : G.T.gv 1 = some (.str "abcdefghijklmnopqrstuvwxyz")
variable {G : Pg} {n : Nat} {Q : AQ} {E : AXQ} {h : AH}
theorem check_dm (c : CDim G) {N : List Str} {k : Nat} {d : Dm} (hN : NmsOk N) (o : DOk N k d) (hq : Q .non h) : wpC G (n + 4) 37 [dm d] h Q E :=
  check_dimension_spec c.c0 c.c34 c.c35 c.c36 c.c37 c.g0 c.g1 (dty_dm hN o) (fun _ => hq) fun e => by rw [isDim_dm hN o] at e; cases e
theorem check_bad (c : CDim G) {v : AV} (ht : DTy h v) (hb : isDim v = false) (he : E ⟨3, []⟩ h) : wpC G (n + 4) 37 [v] h Q E :=
  check_dimension_spec c.c0 c.c34 c.c35 c.c36 c.c37 c.g0 c.g1 ht (fun e => by rw [hb] at e; cases e) fun _ => he
theorem together_spec (c : CDim G) (c42 : G.code 42 = some f42) {N : List Str} {k : Nat} {one other : Dm} (hN : NmsOk N) (h1 : DOk N k one) (h2 : DOk N k other) (hk : k ≤ 10000)
    (hq : ∀ d, DOk N (k + 1) d → (∀ b, dv d b = dv one b + dv other b) → Q (dm d) h) : wpC G (n + 5) 42 [dm one, dm other] h Q E := by
  refine call_i c42 rfl ?_
  unfold c42_together
  bv_omega
  refine check_dm c hN h1 (check_dm c hN h2 ?_)
  refine raw_together_spec (n := n + 3) c.c38 hN h1 h2 (.inl rfl) hk fun d o hd => shr_i (hq d o fun b => by rw [hd b, Int.one_mul])
theorem apart_spec (c : CDim G) (c43 : G.code 43 = some f43) {N : List Str} {k : Nat} {one other : Dm} (hN : NmsOk N) (h1 : DOk N k one) (h2 : DOk N k other) (hk : k ≤ 10000)
    (hq : ∀ d, DOk N (k + 1) d → (∀ b, dv d b = dv one b - dv other b) → Q (dm d) h) : wpC G (n + 5) 43 [dm one, dm other] h Q E := by
  refine call_i c43 rfl ?_
  unfold c43_apart
  bv_omega
  refine check_dm c hN h1 (check_dm c hN h2 ?_)
  refine raw_together_spec (n := n + 3) c.c38 hN h1 h2 (.inr rfl) hk fun d o hd => shr_i (hq d o fun b => by rw [hd b]; omega)
theorem together_bad (c : CDim G) (c42 : G.code 42 = some f42) {v w : AV} (hv : DTy h v) (hw : DTy h w) (hb : isDim v = false ∨ isDim w = false) (he : E ⟨3, []⟩ h) : wpC G (n + 5) 42 [v, w] h Q E := by
  refine call_i c42 rfl ?_
  unfold c42_together
  bv_omega
  refine check_dimension_spec c.c0 c.c34 c.c35 c.c36 c.c37 c.g0 c.g1 hv (fun e1 => ?_) fun _ => shr_i he
  refine check_dimension_spec c.c0 c.c34 c.c35 c.c36 c.c37 c.g0 c.g1 hw (fun e2 => ?_) fun _ => shr_i he
  rw [e1, e2] at hb
  rcases hb with hb | hb <;> cases hb
theorem apart_bad (c : CDim G) (c43 : G.code 43 = some f43) {v w : AV} (hv : DTy h v) (hw : DTy h w) (hb : isDim v = false ∨ isDim w = false) (he : E ⟨3, []⟩ h) : wpC G (n + 5) 43 [v, w] h Q E := by
  refine call_i c43 rfl ?_
  unfold c43_apart
  bv_omega
  refine check_dimension_spec c.c0 c.c34 c.c35 c.c36 c.c37 c.g0 c.g1 hv (fun e1 => ?_) fun _ => shr_i he
  refine check_dimension_spec c.c0 c.c34 c.c35 c.c36 c.c37 c.g0 c.g1 hw (fun e2 => ?_) fun _ => shr_i he
  rw [e1, e2] at hb
  rcases hb with hb | hb <;> cases hb
def rmul (d : Dm) (m : Int) : Dm := if m = 0 then [] else d.map fun p => (p.1, p.2 * m)
theorem mul_bd {x m : Int} {k j : Nat} (hx : x.natAbs < 2 ^ k) (hm : m.natAbs < 2 ^ j) : (x * m).natAbs < 2 ^ (k + j) := by
  rw [Int.natAbs_mul, Nat.pow_add]
  exact Nat.mul_lt_mul_of_lt_of_lt hx hm
theorem rmul_ok {N : List Str} {k j : Nat} {d : Dm} {m : Int} (o : DOk N k d) (hm : m.natAbs < 2 ^ j) : DOk N (k + j) (rmul d m) := by
  unfold rmul
  split
  · exact DOk.nil
  · rename_i h0
    refine ⟨?_, ?_, ?_⟩
    · unfold Asc
      rw [List.pairwise_map]
      exact o.asc
    · intro p hp
      obtain ⟨q, hq, rfl⟩ := List.mem_map.mp hp
      exact ⟨Int.mul_ne_zero (o.nz q hq).1 h0, mul_bd (o.nz q hq).2 hm⟩
    · intro p hp
      obtain ⟨q, hq, rfl⟩ := List.mem_map.mp hp
      exact o.sub q hq
theorem dv_rmul {d : Dm} {m : Int} {b : Str} : dv (rmul d m) b = dv d b * m := by
  unfold rmul
  split
  · rename_i h; rw [h, dv_nil, Int.mul_zero]
  · induction d with
    | nil => rw [List.map_nil, dv_nil, Int.zero_mul]
    | cons p d ih =>
      obtain ⟨a, x⟩ := p
      rw [List.map_cons, dv_cons, dv_cons]
      split
      · rfl
      · exact ih
def rmF (m : Int) : AV → Option AV := fun x => match x with | .tup [a, .int y] => some (.tup [a, .int (y * m)]) | _ => none
theorem filt_rmul {m : Int} (h0 : m ≠ 0) : ∀ d : Dm, (d.map (prf AV.int)).filterMap (rmF m) = (d.map fun p => (p.1, p.2 * m)).map (prf AV.int)
  | [] => rfl
  | p :: d => by
    rw [List.map_cons, List.filterMap_cons]
    show AV.tup [.str p.1, .int (p.2 * m)] :: _ = _
    rw [filt_rmul h0 d]
    rfl
theorem raw_raised_spec (c39 : G.code 39 = some f39) {N : List Str} {k j : Nat} {d : Dm} {m : Int} (hN : NmsOk N) (o : DOk N k d) (hm : m.natAbs < 2 ^ j) (hk : 0 < k) (hj : 0 < j) (hkj : k + j ≤ 100000) (hq : Q (dm (rmul d m)) h) : wpC G (n + 1) 39 [dm d, .int m] h Q E := by
  refine call_i c39 rfl ?_
  unfold c39_raw_raised
  have hl := o.len
  have hl2 := hN.len
  bv_omega
  refine comp_pure (wpC_mono G n) ?_
  bv_omega
  show itR (.tup (d.map (prf AV.int))) _ _
  rw [v_tup]
  by_cases h0 : m = 0
  · subst h0
    refine ⟨by rw [List.length_map]; exact len_small (by omega), fun _ _ _ => trivial, fun _ => none, fun D hD x hx acc => ?_, fun D hD => ?_⟩
    · obtain ⟨p, hp, rfl⟩ := List.mem_map.mp hx
      refine g_tupR rfl ?_
      bv_omega
      exact ALe.refl
    · refine tu_lst aupd_same ?_
      have e : (d.map (prf AV.int)).filterMap (fun _ => (none : Option AV)) = [] := by simp
      rw [e]
      exact shr_le (ALe.fresh hD) (by simpa [rmul, dm, np] using hq)
  · refine ⟨by rw [List.length_map]; exact len_small (by omega), fun _ _ _ => trivial, rmF m, fun D hD x hx acc => ?_, fun D hD => ?_⟩
    · obtain ⟨p, hp, rfl⟩ := List.mem_map.mp hx
      refine g_tupR rfl ?_
      bv_omega
      simp only [h0]
      bv_omega
      refine ⟨wide_mul (o.nz p hp).2 hm hk hj (by omega), rfl, ALe.refl⟩
    · rw [filt_rmul h0 d]
      refine tu_lst aupd_same ?_
      refine shr_le (ALe.fresh hD) ?_
      unfold rmul at hq
      rw [if_neg h0] at hq
      exact hq
theorem raised_spec (c : CDim G) (c26 : G.code 26 = some f26) (c39 : G.code 39 = some f39) (c44 : G.code 44 = some f44) (g2 : G.T.gv 2 = some (.int 100)) {N : List Str} {k : Nat} {d : Dm} {m : Int} (hN : NmsOk N) (o : DOk N k d) (hk : 0 < k) (hk2 : k ≤ 10000) (hm : -100 ≤ m ∧ m ≤ 100) (hq : Q (dm (rmul d m)) h) : wpC G (n + 5) 44 [dm d, .int m] h Q E := by
  refine call_i c44 rfl ?_
  unfold c44_raised
  bv_omega
  refine check_dm c hN o ?_
  refine ⟨_, g2, ?_⟩
  bv_omega
  refine ⟨_, g2, ?_⟩
  refine is_within_spec (n := n + 2) c.c0 c26 trivial ?_
  have e : inV (.int m) (-100) 100 = true := by
    show (decide (-100 ≤ m) && decide (m ≤ 100)) = true
    simp [hm.1, hm.2]
  rw [e]
  bv_omega
  exact raw_raised_spec (n := n + 3) (j := 7) c39 hN o (by omega) hk (by decide) (by omega) (shr_i hq)
theorem raised_bad (c : CDim G) (c44 : G.code 44 = some f44) {v w : AV} (hv : DTy h v) (hb : isDim v = false) (he : E ⟨3, []⟩ h) : wpC G (n + 5) 44 [v, w] h Q E := by
  refine call_i c44 rfl ?_
  unfold c44_raised
  bv_omega
  exact check_bad c hv hb (shr_i he)
theorem raised_num (c : CDim G) (c26 : G.code 26 = some f26) (c44 : G.code 44 = some f44) (g2 : G.T.gv 2 = some (.int 100)) {N : List Str} {k : Nat} {d : Dm} {w : AV} (hN : NmsOk N) (o : DOk N k d) (hw : Tyd h w) (hb : inV w (-100) 100 = false) (he : E ⟨2, []⟩ h) : wpC G (n + 5) 44 [dm d, w] h Q E := by
  refine call_i c44 rfl ?_
  unfold c44_raised
  bv_omega
  refine check_dm c hN o ?_
  refine ⟨_, g2, ?_⟩
  bv_omega
  refine ⟨_, g2, ?_⟩
  refine is_within_spec (n := n + 2) c.c0 c26 hw ?_
  rw [hb]
  bv_omega
  exact shr_i he
theorem law_added_spec (c46 : G.code 46 = some f46) {N : List Str} {k : Nat} {one other : Dm} (hN : NmsOk N) (h1 : DOk N k one) (h2 : DOk N k other) {s : Int} (hs : s = 1 ∨ s = -1) (hk : k ≤ 10000)
    (hq : ∀ d, DOk N (k + 1) d → (∀ b, dv d b = dv one b + s * dv other b) → Q (dm d) h) : wpC G (n + 1) 46 [dm one, dm other, .int s] h Q E :=
  call_i c46 rfl (show wpB (wpC G n) G.T G.sub c38_raw_together (endF Q E) (astart 6 [dm one, dm other, .int s]) h from sum_body hN h1 h2 hs hk hq)
theorem law_added_gen (c46 : G.code 46 = some f46) {N : List Str} {k k2 K : Nat} {one other : Dm} (hN : NmsOk N) (h1 : DOk N k one) (h2 : DOk N k2 other) {s : Int} (hw : ∀ p ∈ other, CMulW s p.2) (hbd : ∀ b, (dv one b + s * dv other b).natAbs < 2 ^ K)
    (hq : ∀ d, DOk N K d → (∀ b, dv d b = dv one b + s * dv other b) → Q (dm d) h) : wpC G (n + 1) 46 [dm one, dm other, .int s] h Q E :=
  call_i c46 rfl (show wpB (wpC G n) G.T G.sub c38_raw_together (endF Q E) (astart 6 [dm one, dm other, .int s]) h from sum_gen hN h1 h2 hw hbd hq)
end PL

namespace PL
open PySem PySem.Spec PyProof.Rows L2
variable {G : Pg} {n : Nat} {Q : AQ} {E : AXQ} {h : AH}
def HLe (a : Addr) (h h' : AH) : Prop := ∀ b o, b ≠ a → h b = some o → h' b = some o
theorem HLe.refl {a : Addr} {h : AH} : HLe a h h := fun _ _ _ e => e
theorem HLe.trans {a : Addr} {h h1 h2 : AH} (x : HLe a h h1) (y : HLe a h1 h2) : HLe a h h2 := fun b o n e => y b o n (x b o n e)
theorem HLe.of {a : Addr} {h h' : AH} (l : ALe h h') : HLe a h h' := fun b o _ e => l b o e
theorem HLe.upd {a : Addr} {h : AH} {o : AO} : HLe a h (aupd h a o) := fun b u n e => by rw [aupd_ne n]; exact e
def ks (f : NM Bool) : List (Key × AV) := f.map (kvf AV.bl)
theorem asc_ext {xs ys : List Str} (hx : xs.Pairwise sl) (hy : ys.Pairwise sl) (h : ∀ b, b ∈ xs ↔ b ∈ ys) : xs = ys := by
  have nd : ∀ {xs : List Str}, xs.Pairwise sl → xs.Nodup := fun hx => by
    unfold List.Nodup
    exact List.Pairwise.imp (fun hpq => sl_ne hpq) hx
  exact List.Perm.eq_of_pairwise (fun a b _ _ h1 h2 => absurd h2 (sl_asymm h1)) hx hy ((List.perm_ext_iff_of_nodup (nd hx) (nd hy)).mpr h)
structure KInv (N : List Str) (P : Str → Prop) (f : NM Bool) (rest : Dm) : Prop where
  nk : NKs f
  sub : ∀ q ∈ f, q.1 ∈ N
  rk : NKs rest
  rs : ∀ q ∈ rest, q.1 ∈ N ∧ q.2 ≠ 0
  iff : ∀ b, (b ∈ f.map (·.1) ∨ dv rest b ≠ 0) ↔ P b
theorem KInv.start {N : List Str} {k : Nat} {P : Str → Prop} {f : NM Bool} {d : Dm} (i : KInv N P f []) (o : DOk N k d) : KInv N (fun b => P b ∨ dv d b ≠ 0) f d :=
  ⟨i.nk, i.sub, o.asc.nks, fun q hq => ⟨o.sub q hq, (o.nz q hq).1⟩, fun b => by
    have := i.iff b
    simp only [dv_nil, ne_eq, not_true_eq_false, or_false] at this
    rw [this]⟩
theorem KInv.step {N : List Str} {P : Str → Prop} {f : NM Bool} {a : Str} {m : Int} {rest : Dm} (i : KInv N P f ((a, m) :: rest)) : KInv N P (dset f a true) rest := by
  have hr := i.rk
  unfold NKs at hr
  rw [List.map_cons, List.nodup_cons] at hr
  refine ⟨nks_dset i.nk, fun q hq => ?_, hr.2, fun q hq => i.rs q (List.mem_cons_of_mem _ hq), fun b => ?_⟩
  · rcases mem_dset hq with hq | rfl
    · exact i.sub q hq
    · exact (i.rs (a, m) List.mem_cons_self).1
  · rw [← i.iff b, keys_dset, dv_cons]
    have hm := (i.rs (a, m) List.mem_cons_self).2
    by_cases e : b = a
    · subst e
      rw [if_pos rfl]
      constructor
      · intro _; exact .inr hm
      · intro _
        refine .inl ?_
        split
        · assumption
        · simp
    · rw [if_neg e]
      have : b ∈ (if a ∈ f.map (·.1) then f.map (·.1) else f.map (·.1) ++ [a]) ↔ b ∈ f.map (·.1) := by
        split
        · exact Iff.rfl
        · rw [List.mem_append, List.mem_singleton]
          exact ⟨fun h => h.resolve_right e, .inl⟩
      rw [this]
theorem KInv.fin {N : List Str} {P : Str → Prop} {f : NM Bool} (i : KInv N P f []) (b : Str) : b ∈ f.map (·.1) ↔ P b := by
  have := i.iff b
  simpa only [dv_nil, ne_eq, not_true_eq_false, or_false] using this
theorem KInv.zero {N : List Str} : KInv N (fun _ => False) [] [] := ⟨List.nodup_nil, by simp, List.nodup_nil, by simp, by simp [dv_nil]⟩
theorem KInv.len {N : List Str} {P : Str → Prop} {f : NM Bool} {rest : Dm} (i : KInv N P f rest) : f.length ≤ N.length := nks_len i.nk i.sub
theorem KInv.congr {N : List Str} {P P' : Str → Prop} {f : NM Bool} {rest : Dm} (i : KInv N P f rest) (h : ∀ b, P b ↔ P' b) : KInv N P' f rest := ⟨i.nk, i.sub, i.rk, i.rs, fun b => (i.iff b).trans (h b)⟩
theorem dput_bl {f : NM Bool} {a : Str} {v : Bool} : dput (ks f) (.inr a) (.bl v) = ks (dset f a v) := dput_kv (f := AV.bl)
theorem map_nil_eq {α β : Type} {f : α → β} {l : List α} (h : [] = l.map f) : l = [] := by
  cases l with
  | nil => rfl
  | cons _ _ => cases h
def inSome (ds : List Dm) (b : Str) : Prop := ∃ d ∈ ds, dv d b ≠ 0
theorem raw_bases_spec (c41 : G.code 41 = some f41) {N : List Str} {k : Nat} {ds : List Dm} (hN : NmsOk N) (o : ∀ d ∈ ds, DOk N k d)
    (hq : ∀ (ys : List Str) (r : Addr) (h' : AH), ALe h h' → h r = none → ys.Pairwise sl → (∀ b, b ∈ ys ↔ inSome ds b) → (∀ b ∈ ys, b ∈ N) → h' r = some (.lst (ys.map .str)) → Q (.ref r) h') : wpC G (n + 1) 41 [.tup (ds.map dm)] h Q E := by
  refine call_i c41 rfl ?_
  unfold c41_raw_bases
  have hl60 := hN.len
  have CM := wpC_mono G n
  refine wp_cut CM (fun σ h' => ∃ p, h p = none ∧ σ = [some (.tup (ds.map dm)), some (.ref p), none, none, none] ∧ h' = aupd h p (.dK (ks []))) ?_ ?_
  · bv_omega
    exact fun p hp => ⟨p, hp, rfl, rfl⟩
  rintro σ h' ⟨p, hp, rfl, rfl⟩
  refine wp_cut CM (fun σ h' => ∃ (f : NM Bool) (x y z : Option AV), σ = [some (.tup (ds.map dm)), some (.ref p), x, y, z] ∧ h' = aupd h p (.dK (ks f)) ∧ KInv N (inSome ds) f []) ?_ ?_
  · refine for_v CM ?_
    bv_omega
    refine ⟨fun xs σ h' => ∃ (f : NM Bool) (done rest : List Dm) (x y z : Option AV), xs = rest.map dm ∧ σ = [some (.tup (ds.map dm)), some (.ref p), x, y, z] ∧ h' = aupd h p (.dK (ks f)) ∧ KInv N (inSome done) f [] ∧ ds = done ++ rest,
      ⟨[], [], ds, none, none, none, rfl, rfl, rfl, KInv.zero.congr (fun b => by simp [inSome]), rfl⟩, ?_, ?_⟩
    · rintro σ h' ⟨f, done, rest, x, y, z, e, rfl, rfl, i, rfl⟩
      have := map_nil_eq e
      subst this
      exact ⟨f, x, y, z, rfl, rfl, by simpa using i⟩
    · rintro x xs σ h' ⟨f, done, rest, x', y, z, e, rfl, rfl, i, rfl⟩
      cases rest with
      | nil => cases e
      | cons d rest =>
        rw [List.map_cons] at e
        obtain ⟨rfl, rfl⟩ := List.cons.inj e
        have od := o d (by simp)
        bv_omega
        refine for_v CM ?_
        bv_omega
        show itR (.tup (d.map (prf AV.int))) _ _
        rw [v_tup]
        refine ⟨fun xs σ h' => ∃ (f : NM Bool) (r : Dm) (y z : Option AV), xs = r.map (prf AV.int) ∧ σ = [some (.tup ((done ++ d :: rest).map dm)), some (.ref p), some (dm d), y, z] ∧ h' = aupd h p (.dK (ks f)) ∧ KInv N (inSome (done ++ [d])) f r,
          ⟨f, d, y, z, rfl, rfl, rfl, (i.start od).congr (fun b => by simp [inSome, or_and_right, exists_or])⟩, ?_, ?_⟩
        · rintro σ h' ⟨f, r, y, z, e, rfl, rfl, i⟩
          have := map_nil_eq e
          subst this
          exact ⟨trivial, f, done ++ [d], rest, _, _, _, rfl, rfl, rfl, i, by simp⟩
        · rintro x xs σ h' ⟨f, r, y, z, e, rfl, rfl, i⟩
          cases r with
          | nil => cases e
          | cons q r =>
            obtain ⟨a, m⟩ := q
            rw [List.map_cons] at e
            obtain ⟨rfl, rfl⟩ := List.cons.inj e
            refine ⟨trivial, g_tupR rfl ?_⟩
            bv_omega
            refine set_dK aupd_same (k := .inr a) rfl (by unfold ks; rw [List.length_map]; have := i.len; have := len_small (n := f.length + 1) (by omega); omega) ?_
            rw [aupd_aupd, dput_bl]
            exact ⟨_, r, _, _, rfl, rfl, rfl, i.step⟩
  rintro σ h' ⟨f, x, y, z, rfl, rfl, i⟩
  bv_omega
  have hfl := i.len
  refine .inr (.inr (.inl ⟨_, f.map (·.1), aupd_same, by unfold ks; exact keys_kv, by rw [List.length_map]; omega, fun ys pm so r hr => ?_⟩))
  have hys : ∀ b, b ∈ ys ↔ b ∈ f.map (·.1) := fun b => pm.mem_iff
  have hrh : h r = none := by
    by_cases e : r = p
    · subst e; rw [aupd_same] at hr; cases hr
    · rw [aupd_ne e] at hr; exact hr
  refine shr_i (hq ys r _ (ALe.trans (ALe.fresh hp) (ALe.fresh hr)) hrh (sorted_asc so (pm.nodup_iff.mpr i.nk)) (fun b => (hys b).trans (i.fin b)) (fun b hb => ?_) aupd_same)
  obtain ⟨q, hq, rfl⟩ := List.mem_map.mp ((hys b).mp hb)
  exact i.sub q hq
def allDim : AV → Bool | .tup xs => xs.all isDim | _ => false
theorem are_dimensions_spec (c : CDim G) (c40 : G.code 40 = some f40) {v : AV} (ht : DTy h v) (hq : Q (.bl (allDim v)) h) : wpC G (n + 4) 40 [v] h Q E := by
  refine call_i c40 rfl ?_
  unfold c40_are_dimensions
  cases v with
  | tup xs =>
    obtain ⟨hl, hx⟩ := dty_tup.mp ht
    bv_omega
    refine all_comp (wpC_mono G (n + 3)) ?_
    bv_omega
    refine ⟨hl, fun _ _ => trivial, isDim, fun x hx' h2 l => ?_, fun h2 l => shr_le l hq⟩
    exact is_dimension_spec c.c0 c.c34 c.c35 c.c36 c.g0 c.g1 ((hx x hx').mono l) ⟨rfl, ALe.refl⟩
  | ref a =>
    bv_omega
    rcases dty_ref.mp ht with ⟨xs, e⟩ | ⟨xs, e⟩
    · refine t_lst e ?_
      bv_omega
      exact shr_i hq
    · refine t_dK e ?_
      bv_omega
      exact shr_i hq
  | wt _ => exact (dty_wt ht).elim
  | _ =>
    bv_omega
    exact shr_i hq
theorem bases_of_spec (c : CDim G) (c40 : G.code 40 = some f40) (c41 : G.code 41 = some f41) (c45 : G.code 45 = some f45) {N : List Str} {k : Nat} {ds : List Dm} (hN : NmsOk N) (hl : ds.length ≤ 1000) (o : ∀ d ∈ ds, DOk N k d)
    (hq : ∀ (ys : List Str), ys.Pairwise sl → (∀ b, b ∈ ys ↔ inSome ds b) → (∀ b ∈ ys, b ∈ N) → Q (.tup (ys.map .str)) h) : wpC G (n + 5) 45 [.tup (ds.map dm)] h Q E := by
  refine call_i c45 rfl ?_
  unfold c45_bases_of
  bv_omega
  refine are_dimensions_spec c c40 (dty_tup.mpr ⟨by rw [List.length_map]; omega, fun x hx => ?_⟩) ?_
  · obtain ⟨d, hd, rfl⟩ := List.mem_map.mp hx
    exact dty_dm hN (o d hd)
  · have e : (ds.map dm).all isDim = true := by
      rw [List.all_map, List.all_eq_true]
      exact fun d hd => isDim_dm hN (o d hd)
    have e : allDim (.tup (ds.map dm)) = true := e
    rw [e]
    bv_omega
    exact raw_bases_spec (n := n + 3) c41 hN o fun ys r h' l hr hp hb hs e => tu_lst e (shr_le l (hq ys hp hb hs))
theorem bases_of_bad (c : CDim G) (c40 : G.code 40 = some f40) (c45 : G.code 45 = some f45) {v : AV} (ht : DTy h v) (hb : allDim v = false) (he : E ⟨4, []⟩ h) : wpC G (n + 5) 45 [v] h Q E := by
  refine call_i c45 rfl ?_
  unfold c45_bases_of
  bv_omega
  refine are_dimensions_spec c c40 ht ?_
  rw [hb]
  bv_omega
  exact shr_i he
end PL

namespace PL
open PySem PySem.Spec PyProof.Rows L2
variable {G : Pg} {n : Nat} {Q : AQ} {E : AXQ} {h : AH}
abbrev LETS : Str := "abcdefghijklmnopqrstuvwxyz"
theorem lets_at {r : Int} (h0 : 0 ≤ r) (h1 : r < 26) : ∃ c, L2.atI LETS.cps.toList r = some c ∧ letC c = true := by
  obtain ⟨k, rfl⟩ := Int.eq_ofNat_of_zero_le h0
  have t : ((List.range 26).all fun k => match L2.atI LETS.cps.toList (k : Int) with | some c => letC c | none => false) = true := by decide +kernel
  have := List.all_eq_true.mp t k (List.mem_range.mpr (by omega))
  cases e : L2.atI LETS.cps.toList (k : Int) with
  | none => rw [e] at this; cases this
  | some c => rw [e] at this; exact ⟨c, rfl, this⟩
theorem lets_len : LETS.length ≤ sizeLine := by decide +kernel
def LetS (s : Str) (k : Nat) : Prop := s.cps.toList.all letC = true ∧ 1 ≤ s.length ∧ s.length ≤ k
theorem LetS.one {c : Nat} (h : letC c = true) : LetS ⟨#[c]⟩ 1 := ⟨by simp [h], Nat.le_refl _, Nat.le_refl _⟩
theorem LetS.add {s : Str} {c k : Nat} (x : LetS s k) (h : letC c = true) : LetS (s ++ (⟨#[c]⟩ : Str)) (k + 1) := by
  obtain ⟨x1, x2, x3⟩ := x
  have e : (s ++ (⟨#[c]⟩ : Str)) = ⟨s.cps ++ #[c]⟩ := rfl
  have el : (⟨s.cps ++ #[c]⟩ : Str).length = s.length + 1 := by
    show (s.cps ++ #[c]).size = s.cps.size + 1
    simp
  rw [e]
  refine ⟨?_, by rw [el]; omega, by rw [el]; omega⟩
  show (s.cps ++ #[c]).toList.all letC = true
  rw [Array.toList_append, List.all_append, x1]
  simp [h]
theorem LetS.ok {s : Str} {k : Nat} (x : LetS s k) (h : k ≤ 8) : nameOk s = true := by
  unfold nameOk
  rw [x.1, Bool.and_true]
  exact decide_eq_true ⟨x.2.1, by have := x.2.2; omega⟩
theorem HandOk.off {a c p : Addr} {N : Nat} {o : AO} (w : HandOk h a N c) (pa : p ≠ a) (pc : p ≠ c) : HandOk (aupd h p o) a N c := w.to (aupd_ne (Ne.symm pa)) (aupd_ne (Ne.symm pc))
theorem HandOk.new {a c p : Addr} {N : Nat} (w : HandOk h a N c) (hp : h p = none) : p ≠ a ∧ p ≠ c := ⟨fun e => w.some.1 (e ▸ hp), fun e => w.some.2 (e ▸ hp)⟩
structure Go (h0 h : AH) (a c : Addr) (N : Nat) : Prop where
  le : HLe a h0 h
  w : HandOk h a N c
theorem Go.draw {h0 h : AH} {a c : Addr} {N M : Nat} {o : AO} (g : Go h0 h a c N) (w : HandOk (aupd h a o) a (N + 1) c) (hm : N + 1 ≤ M) : Go h0 (aupd h a o) a c M := ⟨g.le.trans HLe.upd, w.mono hm⟩
theorem Go.mono {h0 h : AH} {a c : Addr} {N M : Nat} (g : Go h0 h a c N) (hm : N ≤ M) : Go h0 h a c M := ⟨g.le, g.w.mono hm⟩
theorem Go.set {h0 h : AH} {a c p : Addr} {N : Nat} {o : AO} (g : Go h0 h a c N) (hp : h0 p = none) (pa : p ≠ a) (pc : p ≠ c) : Go h0 (aupd h p o) a c N :=
  ⟨fun b u nb e => by rw [aupd_ne (fun z => by subst z; rw [hp] at e; cases e)]; exact g.le b u nb e, g.w.off pa pc⟩
theorem Go.fresh {h0 h : AH} {a c p : Addr} {N : Nat} {o : AO} (g : Go h0 h a c N) (hp : h p = none) : Go h0 (aupd h p o) a c N :=
  ⟨g.le.trans (HLe.of (ALe.fresh hp)), g.w.off (g.w.new hp).1 (g.w.new hp).2⟩
theorem Go.refl {h : AH} {a c : Addr} {N : Nat} (w : HandOk h a N c) : Go h h a c N := ⟨HLe.refl, w⟩
theorem Go.none {h0 h : AH} {a c p : Addr} {N : Nat} (g : Go h0 h a c N) (hp : h p = none) : h0 p = none := by
  cases e : h0 p with
  | none => rfl
  | some o =>
    by_cases pa : p = a
    · subst pa; exact absurd hp g.w.some.1
    · rw [g.le p o pa e] at hp; cases hp
theorem Go.trans {h0 h1 h2 : AH} {a c : Addr} {N M : Nat} (x : Go h0 h1 a c N) (y : Go h1 h2 a c M) : Go h0 h2 a c M := ⟨x.le.trans y.le, y.w⟩
theorem law_names_spec (c10 : G.code 10 = some f10) (c48 : G.code 48 = some f48) {a c : Addr} {N m : Nat} (w : HandOk h a N c) (hN : N + 9 * m + 9 < 2 ^ 60) (hm : 1 ≤ m) (hm2 : m < 60)
    (hq : ∀ (ys : List Str) (r : Addr) (h' : AH), Go h h' a c (N + 9 * m) → h r = none → NmsOk ys → ys.Pairwise sl → 1 ≤ ys.length → ys.length ≤ m → h' r = some (.lst (ys.map .str)) → Q (.ref r) h') : wpC G (n + 2) 48 [.ref a, .int m] h Q E := by
  refine call_i c48 rfl ?_
  unfold c48_law_names
  have CM := wpC_mono G (n + 1)
  refine wp_cut CM (fun σ h' => σ = [some (.ref a), some (.int m), some (.str LETS), none, none, none] ∧ h' = h) ?_ ?_
  · bv_omega
  rintro σ h' ⟨rfl, rfl⟩
  refine wp_cut CM (fun σ h1 => ∃ p, h' p = none ∧ σ = [some (.ref a), some (.int m), some (.str LETS), some (.ref p), none, none] ∧ h1 = aupd h' p (.dK (ks []))) ?_ ?_
  · bv_omega
    exact fun p hp => ⟨p, hp, rfl, rfl⟩
  rintro σ h1 ⟨p, hp, rfl, rfl⟩
  obtain ⟨pa, pc⟩ := w.new hp
  refine wp_cut CM (fun σ h2 => ∃ (f : NM Bool) (x y : Option AV), σ = [some (.ref a), some (.int m), some (.str LETS), some (.ref p), x, y] ∧ Go h' h2 a c (N + 9 * m) ∧ h2 p = some (.dK (ks f)) ∧ NKs f ∧ (∀ q ∈ f, nameOk q.1 = true) ∧ f.length ≤ m ∧ 1 ≤ f.length) ?_ ?_
  · refine for_r1 CM ?_
    bv_omega
    refine ⟨m, rfl, by omega, fun j σ h2 => ∃ (f : NM Bool) (x y : Option AV), σ = [some (.ref a), some (.int m), some (.str LETS), some (.ref p), x, y] ∧ Go h' h2 a c (N + 9 * (m - j)) ∧ h2 p = some (.dK (ks f)) ∧ NKs f ∧ (∀ q ∈ f, nameOk q.1 = true) ∧ f.length ≤ m - j ∧ (j < m → 1 ≤ f.length),
      ⟨[], none, none, rfl, by rw [Nat.sub_self]; exact (Go.refl w).set hp pa pc, aupd_same, List.nodup_nil, by simp, by simp, by omega⟩, ?_, ?_⟩
    · rintro σ h2 ⟨f, x, y, rfl, g, e, hn, hk, hl, h1⟩
      exact ⟨f, x, y, rfl, g, e, hn, hk, hl, h1 (by omega)⟩
    · rintro j σ h2 hj ⟨f, x, y, rfl, g, e, hn, hk, hl, _⟩
      bv_omega
      refine draw_spec (n := n) c10 g.w (by omega) (by decide) (by decide) fun r o r0 r1 w2 => ?_
      obtain ⟨ch, ec, lc⟩ := lets_at r0 r1
      bv_omega
      refine ⟨lets_len, ch, ec, ?_⟩
      have g2 := g.draw w2 (M := N + 9 * (m - (j + 1)) + 1) (Nat.le_refl _)
      have e2 : aupd h2 a o p = some (.dK (ks f)) := by rw [aupd_ne pa]; exact e
      generalize aupd h2 a o = h3 at g2 e2
      refine wp_mid CM (fun σ h4 => ∃ (s : Str) (x : Option AV), σ = [some (.ref a), some (.int m), some (.str LETS), some (.ref p), x, some (.str s)] ∧ Go h' h4 a c (N + 9 * (m - (j + 1)) + 9) ∧ h4 p = some (.dK (ks f)) ∧ LetS s 8) ?_ ?_
      · refine for_r1 CM ?_
        bv_omega
        refine draw_spec (n := n) c10 g2.w (by omega) (by decide) (by decide) fun r o r0 r1 w3 => ?_
        have g3 := g2.draw w3 (M := N + 9 * (m - (j + 1)) + 2) (Nat.le_refl _)
        have e3 : aupd h3 a o p = some (.dK (ks f)) := by rw [aupd_ne pa]; exact e2
        obtain ⟨q, rfl⟩ := Int.eq_ofNat_of_zero_le r0
        refine ⟨q, rfl, by omega, fun i σ h4 => ∃ (s : Str) (x : Option AV), σ = [some (.ref a), some (.int m), some (.str LETS), some (.ref p), x, some (.str s)] ∧ Go h' h4 a c (N + 9 * (m - (j + 1)) + 2 + (q - i)) ∧ h4 p = some (.dK (ks f)) ∧ LetS s (1 + (q - i)),
          ⟨_, _, rfl, by rw [Nat.sub_self]; exact g3, e3, by rw [Nat.sub_self]; exact LetS.one lc⟩, ?_, ?_⟩
        · rintro σ h4 ⟨s, x, rfl, g, e, l⟩
          exact ⟨s, x, rfl, g.mono (by omega), e, l.1, l.2.1, by have := l.2.2; omega⟩
        · rintro i σ h4 hi ⟨s, x, rfl, g, e, l⟩
          bv_omega
          refine draw_spec (n := n) c10 g.w (by omega) (by decide) (by decide) fun r o r0 r1 w4 => ?_
          obtain ⟨ch, ec, lc⟩ := lets_at r0 r1
          bv_omega
          have ls := l.2.2
          refine ⟨lets_len, ch, ec, ?_, ⟨_, _, rfl, g.draw w4 (by omega), by rw [aupd_ne pa]; exact e, ?_⟩⟩
          · exact len_small (by show s.length + 1 ≤ _; omega)
          · have := l.add lc
            have en : 1 + (q - (i + 1)) + 1 = 1 + (q - i) := by omega
            rw [en] at this
            exact this
      · rintro σ h4 ⟨s, x, rfl, g4, e4, l4⟩
        bv_omega
        refine set_dK e4 (k := .inr s) rfl (by unfold ks; rw [List.length_map]; have := len_small (n := f.length + 1) (by omega); omega) ?_
        rw [dput_bl]
        refine ⟨dset f s true, _, _, rfl, (g4.set hp pa pc).mono (by omega), aupd_same, nks_dset hn, ?_, ?_, ?_⟩
        · intro q hq
          rcases mem_dset hq with hq | rfl
          · exact hk q hq
          · exact l4.ok (Nat.le_refl _)
        · have : (dset f s true).length ≤ f.length + 1 := by
            unfold dset
            split
            · simp
            · simp
          omega
        · intro _
          have : (dset f s true).map (·.1) ≠ [] := by
            rw [keys_dset]
            split
            · rename_i hh
              intro z; rw [z] at hh; cases hh
            · simp
          have : (dset f s true) ≠ [] := fun z => this (by rw [z]; rfl)
          exact List.length_pos_iff.mpr this
  rintro σ h2 ⟨f, x, y, rfl, g, e, hn, hk, hl, h1⟩
  bv_omega
  refine .inr (.inr (.inl ⟨_, f.map (·.1), e, by unfold ks; exact keys_kv, by rw [List.length_map]; omega, fun ys pm so r hr => ?_⟩))
  have hlen : ys.length = f.length := by rw [pm.length_eq, List.length_map]
  refine shr_i (hq ys r _ (g.fresh hr) (g.none hr) ⟨fun s hs => ?_, by omega⟩ (sorted_asc so (pm.nodup_iff.mpr hn)) (by omega) (by omega) aupd_same)
  obtain ⟨q, hq, rfl⟩ := List.mem_map.mp (pm.mem_iff.mp hs)
  exact hk q hq
end PL

namespace PL
open PySem PySem.Spec PyProof.Rows L2
variable {G : Pg} {n : Nat} {Q : AQ} {E : AXQ} {h : AH}
theorem law_size_gen (c10 : G.code 10 = some f10) (c49 : G.code 49 = some f49) {a c r : Addr} {N k : Nat} {ys : List Str} {most : Int} (w : HandOk h a N c) (hN : N + 2 * ys.length + 9 < 2 ^ 60) (hY : NmsOk ys) (hp : ys.Pairwise sl) (er : h r = some (.lst (ys.map .str))) (ra : r ≠ a)
    (hm : 1 ≤ most) (hm2 : most.natAbs < 2 ^ k) (hk : k ≤ 8000) (hq : ∀ (d : Dm) (h' : AH), Go h h' a c (N + 2 * ys.length) → DOk ys k d → (∀ p ∈ d, p.2.natAbs ≤ most.natAbs) → Q (dm d) h') : wpC G (n + 2) 49 [.ref a, .ref r, .int most] h Q E := by
  refine call_i c49 rfl ?_
  unfold c49_law_size
  have CM := wpC_mono G (n + 1)
  have hl60 := hY.len
  refine wp_cut CM (fun σ h1 => ∃ p, h p = none ∧ σ = [some (.ref a), some (.ref r), some (.int most), some (.ref p), none, none] ∧ h1 = aupd h p (.lst [])) ?_ ?_
  · bv_omega
    exact fun p hp => ⟨p, hp, rfl, rfl⟩
  rintro σ h1 ⟨p, hpn, rfl, rfl⟩
  obtain ⟨pa, pc⟩ := w.new hpn
  have pr : p ≠ r := fun e => by subst e; rw [er] at hpn; cases hpn
  refine wp_cut CM (fun σ h2 => ∃ (d : Dm) (x y : Option AV), σ = [some (.ref a), some (.ref r), some (.int most), some (.ref p), x, y] ∧ Go h h2 a c (N + 2 * ys.length) ∧ h2 p = some (.lst (d.map (prf AV.int))) ∧ DOk ys k d ∧ ∀ p ∈ d, p.2.natAbs ≤ most.natAbs) ?_ ?_
  · refine for_v CM ?_
    bv_omega
    refine v_ref (C := wpC G (n + 1)) (T := G.T) (by rw [aupd_ne (Ne.symm pr)]; exact er) ?_
    refine ⟨fun xs σ h2 => ∃ (d : Dm) (done rest : List Str) (x y : Option AV), xs = rest.map .str ∧ ys = done ++ rest ∧ σ = [some (.ref a), some (.ref r), some (.int most), some (.ref p), x, y] ∧ Go h h2 a c (N + 2 * done.length) ∧ h2 p = some (.lst (d.map (prf AV.int))) ∧ Asc d ∧ (∀ q ∈ d, q.1 ∈ done ∧ q.2 ≠ 0 ∧ q.2.natAbs ≤ most.natAbs),
      ⟨[], [], ys, none, none, rfl, rfl, rfl, (Go.refl w).fresh hpn, aupd_same, List.Pairwise.nil, by simp⟩, ?_, ?_⟩
    · rintro σ h2 ⟨d, done, rest, x, y, e, ey, rfl, g, e2, as, hd⟩
      have := map_nil_eq e
      subst this
      rw [List.append_nil] at ey
      subst ey
      exact ⟨g.le r _ ra er, d, x, y, rfl, g, e2, ⟨as, fun q hq => ⟨(hd q hq).2.1, Nat.lt_of_le_of_lt (hd q hq).2.2 hm2⟩, fun q hq => (hd q hq).1⟩, fun q hq => (hd q hq).2.2⟩
    · rintro x xs σ h2 ⟨d, done, rest, x', y', e, ey, rfl, g, e2, as, hd⟩
      cases rest with
      | nil => cases e
      | cons s rest =>
        rw [List.map_cons] at e
        obtain ⟨rfl, rfl⟩ := List.cons.inj e
        refine ⟨g.le r _ ra er, ?_⟩
        have hlen : done.length + 1 + rest.length = ys.length := by rw [ey]; simp; omega
        bv_omega
        refine draw_spec (n := n) c10 g.w (by omega) (by decide) (by decide) fun t o t0 t1 w2 => ?_
        have g2 := g.draw w2 (M := N + 2 * done.length + 1) (Nat.le_refl _)
        have e3 : aupd h2 a o p = some (.lst (d.map (prf AV.int))) := by rw [aupd_ne pa]; exact e2
        generalize aupd h2 a o = h3 at g2 e3
        have up : ∀ z, z ∈ done ++ [s] ↔ z ∈ done ∨ z = s := by simp
        bv_omega
        split
        · refine ⟨wide_mul (a := 2) (b := k + 1) (by decide) (Nat.lt_trans hm2 (Nat.pow_lt_pow_right (by decide) (Nat.lt_succ_self _))) (by decide) (by omega) (by omega), ?_⟩
          refine draw_gen (n := n) c10 g2.w (by omega) (by omega) ?_ fun u o u0 u1 w3 => ?_
          · refine Nat.lt_of_lt_of_le (log_lt (k := k + 1) ?_ (by omega)) (by omega)
            rw [Nat.pow_succ]; omega
          have g3 := g2.draw w3 (M := N + 2 * (done ++ [s]).length) (by rw [List.length_append]; simp; omega)
          have e4 : aupd h3 a o p = some (.lst (d.map (prf AV.int))) := by rw [aupd_ne pa]; exact e3
          generalize aupd h3 a o = h4 at g3 e4
          bv_omega
          have hdl : d.length ≤ 1000 := by
            have := nks_len as.nks (N := ys) (fun q hq => by rw [ey]; exact List.mem_append_left _ (hd q hq).1)
            omega
          refine ⟨ms_app e4, m_app e4 (by rw [List.length_map]; have := len_small (n := d.length + 1) (by omega); omega) ?_⟩
          refine ⟨d ++ [(s, u - most + (if 0 ≤ u - most then 1 else 0))], done ++ [s], rest, _, _, rfl, by rw [ey]; simp, rfl, g3.set hpn pa pc, ?_, ?_, ?_⟩
          · rw [aupd_same, List.map_append]; rfl
          · unfold Asc
            rw [List.pairwise_append]
            refine ⟨as, List.pairwise_singleton _ _, fun q hq z hz => ?_⟩
            rw [List.mem_singleton.mp hz]
            rw [ey, List.pairwise_append] at hp
            exact hp.2.2 q.1 (hd q hq).1 s List.mem_cons_self
          · intro q hq
            rcases List.mem_append.mp hq with hq | hq
            · exact ⟨List.mem_append_left _ (hd q hq).1, (hd q hq).2⟩
            · rw [List.mem_singleton.mp hq]
              refine ⟨by simp, ?_⟩
              show (u - most + (if 0 ≤ u - most then 1 else 0)) ≠ 0 ∧ (u - most + (if 0 ≤ u - most then 1 else 0)).natAbs ≤ most.natAbs
              by_cases hh : 0 ≤ u - most
              · rw [if_pos hh]; omega
              · rw [if_neg hh]; omega
        · exact ⟨d, done ++ [s], rest, _, _, rfl, by rw [ey]; simp, rfl, g2.mono (by rw [List.length_append]; simp; omega), e3, as, fun q hq => ⟨List.mem_append_left _ (hd q hq).1, (hd q hq).2⟩⟩
  rintro σ h2 ⟨d, x, y, rfl, g, e2, o, o9⟩
  bv_omega
  exact tu_lst e2 (shr_i (hq d h2 g o o9))
theorem law_size_spec (c10 : G.code 10 = some f10) (c49 : G.code 49 = some f49) {a c r : Addr} {N k : Nat} {ys : List Str} {most : Int} (w : HandOk h a N c) (hN : N + 2 * ys.length + 9 < 2 ^ 60) (hY : NmsOk ys) (hp : ys.Pairwise sl) (er : h r = some (.lst (ys.map .str))) (ra : r ≠ a)
    (hm : 1 ≤ most) (hm2 : most.natAbs < 2 ^ k) (hk : k ≤ 8000) (hq : ∀ (d : Dm) (h' : AH), Go h h' a c (N + 2 * ys.length) → DOk ys k d → Q (dm d) h') : wpC G (n + 2) 49 [.ref a, .ref r, .int most] h Q E :=
  law_size_gen c10 c49 w hN hY hp er ra hm hm2 hk fun d h' g o _ => hq d h' g o
theorem strOk_name {s : Str} (h : nameOk s = true) : PyData.strOk s = true := by
  unfold nameOk at h
  rw [Bool.and_eq_true] at h
  have h2 := h.2
  unfold PyData.strOk
  rw [← Array.all_toList, List.all_eq_true]
  intro c hc
  have := List.all_eq_true.mp h2 c hc
  have t : ∀ c, letC c = true → c < 0x110000 := by
    intro c hc
    have hm : c ∈ LETS.cps.toList := of_decide_eq_true hc
    have : (LETS.cps.toList.all fun c => decide (c < 0x110000)) = true := by decide +kernel
    exact of_decide_eq_true (List.all_eq_true.mp this c hm)
  exact decide_eq_true (t c this)
theorem flat_dm {N : List Str} {k : Nat} {d : Dm} (hN : NmsOk N) (o : DOk N k d) : AV.flat 50 (dm d) = true := by
  show AV.flats 49 (d.map (prf AV.int)) = true
  have : ∀ l : Dm, (∀ p ∈ l, p.1 ∈ N) → AV.flats 49 (l.map (prf AV.int)) = true := by
    intro l
    induction l with
    | nil => intro _; simp [AV.flats]
    | cons p l ih =>
      intro hp
      rw [List.map_cons]
      simp only [AV.flats, Bool.and_eq_true]
      refine ⟨?_, ih fun q hq => hp q (List.mem_cons_of_mem _ hq)⟩
      simp [prf, AV.flat, AV.flats, strOk_name (hN.ok _ (hp p List.mem_cons_self))]
  exact this d o.sub
theorem small_dm {N : List Str} {k : Nat} {d : Dm} (hN : NmsOk N) (o : DOk N k d) : Small 2 (dm d) := by
  refine ⟨?_, fun x hx => ?_⟩
  · rw [List.length_map]
    have := o.len
    have := hN.len
    omega
  · obtain ⟨p, _, rfl⟩ := List.mem_map.mp hx
    refine ⟨by simp, fun y hy => ?_⟩
    simp at hy
    rcases hy with rfl | rfl <;> exact trivial
theorem dm_inj {d e : Dm} (h : dm d = dm e) : d = e := by
  have h : d.map (prf AV.int) = e.map (prf AV.int) := by
    have : AV.tup (d.map (prf AV.int)) = AV.tup (e.map (prf AV.int)) := h
    exact AV.tup.inj this
  induction d generalizing e with
  | nil => exact (map_nil_eq h).symm
  | cons p d ih =>
    cases e with
    | nil => cases h
    | cons q e =>
      rw [List.map_cons, List.map_cons] at h
      obtain ⟨h1, h2⟩ := List.cons.inj h
      have hp : p = q := by
        unfold prf at h1
        have := AV.tup.inj h1
        simp at this
        exact Prod.ext this.1 this.2
      rw [hp, ih (e := e) (show dm d = dm e from congrArg AV.tup h2) h2]
theorem eqv_dm : ∀ (d e : Dm), AV.eqvs (d.map (prf AV.int)) (e.map (prf AV.int)) = decide (d = e)
  | [], [] => by simp [AV.eqvs]
  | [], q :: e => by simp [AV.eqvs]
  | p :: d, [] => by simp [AV.eqvs]
  | p :: d, q :: e => by
    rw [List.map_cons, List.map_cons]
    simp only [AV.eqvs]
    rw [eqv_dm d e]
    have : AV.eqv (prf AV.int p) (prf AV.int q) = decide (p = q) := by
      unfold prf
      obtain ⟨a, x⟩ := p
      obtain ⟨b, y⟩ := q
      simp only [AV.eqv, AV.eqvs, Bool.and_true]
      by_cases h1 : a = b <;> by_cases h2 : x = y <;> simp [h1, h2]
    rw [this]
    by_cases h1 : p = q <;> by_cases h2 : d = e <;> simp [h1, h2]
theorem eq_dm {N M : List Str} {k m : Nat} {d e : Dm} {R : Bool → Prop} (hN : NmsOk N) (hM : NmsOk M) (o : DOk N k d) (o2 : DOk M m e) (q : R (decide (d = e))) : eqR (dm d) (dm e) h R := by
  refine eq_same (flat_dm hN o) (flat_dm hM o2) (fun a e => by cases e) ?_
  have : AV.eqv (dm d) (dm e) = decide (d = e) := by
    show AV.eqv (.tup _) (.tup _) = _
    simp only [AV.eqv]
    exact eqv_dm d e
  rw [this]
  exact q
theorem law_is_dm (c9 : G.code 9 = some f9) {N M : List Str} {k m : Nat} {d e : Dm} (hN : NmsOk N) (hM : NmsOk M) (o : DOk N k d) (o2 : DOk M m e) (hq : d = e → Q (.bl true) h) (he : d = e) : wpC G (n + 3) 9 [dm d, dm e] h Q E := by
  refine law_is_spec (n := n) c9 2 _ _ (flat_dm hN o) (flat_dm hM o2) (small_dm hM o2) fun b hb => ?_
  have : b = true := hb.mpr (by rw [he])
  rw [this]
  exact hq he
end PL

namespace PL
open PySem PySem.Spec PyProof.Rows L2
theorem DTy.tydt {h : AH} {v : AV} (d : DTy h v) : TydT h v := by
  refine ⟨d.tyd, fun xs e x hx => ?_⟩
  subst e
  exact ((dty_tup.mp d).2 x hx).tyd
theorem fr_int (i : Int) : AV.tup [.int i, .int 1] = fr (i : Rat) := by
  unfold fr
  rw [Rat.num_intCast, Rat.den_intCast]; rfl
theorem sz_int {i : Int} {k : Nat} (h : i.natAbs < 2 ^ k) (hk : 0 < k) : Sz k (i : Rat) := by
  refine ⟨by rw [Rat.num_intCast]; exact h, ?_⟩
  rw [Rat.den_intCast]
  exact Nat.one_lt_two_pow (by omega)
theorem sz_zero {k : Nat} (h : 0 < k) : Sz k 0 := ⟨by show 0 < 2 ^ k; exact Nat.two_pow_pos k, by show 1 < 2 ^ k; exact Nat.one_lt_two_pow (by omega)⟩
theorem fr_inj {x y : Rat} (h : fr x = fr y) : x = y := by
  unfold fr at h
  have := AV.tup.inj h
  simp at this
  exact Rat.ext this.1 (by omega)
theorem flat_fr {n : Nat} (x : Rat) : AV.flat (n + 1) (fr x) = true := by simp [fr, AV.flat, AV.flats]
theorem eqv_fr (x y : Rat) : AV.eqv (fr x) (fr y) = decide (x = y) := by
  have e : AV.eqv (fr x) (fr y) = decide (x.num = y.num ∧ (x.den : Int) = y.den) := by
    simp only [fr, AV.eqv, AV.eqvs, Bool.and_true]
    by_cases h1 : x.num = y.num <;> by_cases h2 : (x.den : Int) = y.den <;> simp [h1, h2]
  rw [e]
  apply decide_eq_decide.mpr
  constructor
  · rintro ⟨h1, h2⟩; exact Rat.ext h1 (by omega)
  · rintro rfl; exact ⟨rfl, rfl⟩
theorem eq_fr {h : AH} {x y : Rat} {R : Bool → Prop} (q : R (decide (x = y))) : eqR (fr x) (fr y) h R := by
  refine eq_same (flat_fr x) (flat_fr y) (fun a e => by cases e) ?_
  rw [eqv_fr]
  exact q
theorem divInt_nz {t b : Int} (hb : 0 < b) (ht : t ≠ 0) : Rat.divInt t b ≠ 0 := by
  intro z
  have q := (divInt_num (t := t) hb).1
  rw [z] at q
  have d : (Nat.gcd t.natAbs b.natAbs : Int) ∣ t := Int.ofNat_dvd_left.mpr (Nat.gcd_dvd_left _ _)
  have := Int.mul_ediv_cancel' d
  rw [← q] at this
  exact ht (by simpa using this.symm)
section
variable {G : Pg} {n : Nat} {Q : AQ} {E : AXQ} {h : AH}
theorem small_fr (x : Rat) : Small 1 (fr x) := ⟨by simp, fun y hy => by
  simp at hy
  rcases hy with rfl | rfl <;> exact trivial⟩
theorem law_is_fr (c9 : G.code 9 = some f9) {x y : Rat} (e : x = y) (hq : Q (.bl true) h) : wpC G (n + 2) 9 [fr x, fr y] h Q E := by
  refine law_is_spec (n := n) c9 1 _ _ (flat_fr x) (flat_fr y) (small_fr y) fun b hb => ?_
  rw [hb.mpr (by rw [e])]
  exact hq
end
abbrev Wm := NM Rat
def wm (w : Wm) : AV := np fr w
def wv (w : Wm) (b : Str) : Rat := (w.lookup b).getD 0
structure WOk (N : List Str) (k : Nat) (w : Wm) : Prop where
  asc : Asc w
  nz : ∀ p ∈ w, p.2 ≠ 0 ∧ Sz k p.2
  sub : ∀ p ∈ w, p.1 ∈ N
theorem WOk.len {N : List Str} {k : Nat} {w : Wm} (o : WOk N k w) : w.length ≤ N.length := nks_len o.asc.nks o.sub
theorem WOk.nil {N : List Str} {k : Nat} : WOk N k [] := ⟨List.Pairwise.nil, by simp, by simp⟩
theorem WOk.bd {N : List Str} {k : Nat} {w : Wm} (o : WOk N k w) (hk : 0 < k) (b : Str) : Sz k (wv w b) := by
  unfold wv
  cases e : w.lookup b with
  | none => exact sz_zero hk
  | some v => exact (o.nz _ (lookup_mem e)).2
theorem wv_of {w : Wm} {p : Str × Rat} (hn : NKs w) (h : p ∈ w) : wv w p.1 = p.2 := by
  unfold wv
  rw [lookup_some hn (show (p.1, p.2) ∈ w from h)]; rfl
theorem wv_none {w : Wm} {b : Str} (h : b ∉ w.map (·.1)) : wv w b = 0 := by
  unfold wv; rw [lookup_none h]; rfl
theorem wget {w : Wm} {b : Str} : (dget (w.map (kvf fr)) (.inr b)).getD (fr 0) = fr (wv w b) := by
  rw [lookup_map_kv]
  unfold wv
  cases w.lookup b <;> rfl
def wsum (w : Wm) : Dm → Rat
  | [] => 0
  | p :: d => wv w p.1 * (p.2 : Rat) + wsum w d
def nsum (f : Str → Rat) : List Str → Rat
  | [] => 0
  | b :: r => f b + nsum f r
theorem nsum_congr {f g : Str → Rat} : ∀ {l : List Str}, (∀ b ∈ l, f b = g b) → nsum f l = nsum g l
  | [], _ => rfl
  | b :: r, h => by
    show f b + nsum f r = g b + nsum g r
    rw [h b List.mem_cons_self, nsum_congr fun c hc => h c (List.mem_cons_of_mem _ hc)]
theorem nsum_zero : ∀ {l : List Str}, nsum (fun _ => 0) l = 0
  | [] => rfl
  | b :: r => by show 0 + nsum _ r = 0; rw [nsum_zero, Rat.add_zero]
theorem nsum_add (f g : Str → Rat) : ∀ l : List Str, nsum (fun b => f b + g b) l = nsum f l + nsum g l
  | [] => by show (0 : Rat) = 0 + 0; rw [Rat.add_zero]
  | b :: r => by
    show f b + g b + nsum _ r = (f b + nsum f r) + (g b + nsum g r)
    rw [nsum_add f g r]
    grind
theorem nsum_mul (f : Str → Rat) (c : Rat) : ∀ l : List Str, nsum (fun b => f b * c) l = nsum f l * c
  | [] => by show (0 : Rat) = 0 * c; rw [Rat.zero_mul]
  | b :: r => by
    show f b * c + nsum _ r = (f b + nsum f r) * c
    rw [nsum_mul f c r]
    grind
theorem nsum_at (f : Str → Rat) (a : Str) (x : Rat) : ∀ {l : List Str}, l.Nodup → a ∈ l → nsum (fun b => if b = a then f b + x else f b) l = nsum f l + x
  | b :: r, hn, ha => by
    rw [List.nodup_cons] at hn
    show (if b = a then f b + x else f b) + nsum _ r = f b + nsum f r + x
    by_cases e : b = a
    · subst e
      rw [if_pos rfl, nsum_congr (g := f)]
      · grind
      · intro c hc
        have : c ≠ b := fun e => hn.1 (e ▸ hc)
        rw [if_neg this]
    · rw [if_neg e, nsum_at f a x hn.2 ((List.mem_cons.mp ha).resolve_left (Ne.symm e))]
      grind
theorem wsum_names (w : Wm) {ys : List Str} (hn : ys.Nodup) : ∀ {d : Dm}, NKs d → (∀ p ∈ d, p.1 ∈ ys) → wsum w d = nsum (fun b => wv w b * (dv d b : Rat)) ys
  | [], _, _ => by
    show (0 : Rat) = _
    rw [nsum_congr (g := fun _ => 0), nsum_zero]
    intro b _
    rw [dv_nil]
    exact Rat.mul_zero _
  | (a, m) :: d, hk, hs => by
    unfold NKs at hk
    rw [List.map_cons, List.nodup_cons] at hk
    show wv w a * (m : Rat) + wsum w d = _
    rw [wsum_names w hn hk.2 fun p hp => hs p (List.mem_cons_of_mem _ hp)]
    have h0 : dv d a = 0 := dv_none hk.1
    have key : nsum (fun b => wv w b * (dv ((a, m) :: d) b : Rat)) ys = nsum (fun b => if b = a then wv w b * (dv d b : Rat) + wv w a * (m : Rat) else wv w b * (dv d b : Rat)) ys := by
      apply nsum_congr
      intro b _
      show wv w b * (dv ((a, m) :: d) b : Rat) = if b = a then wv w b * (dv d b : Rat) + wv w a * (m : Rat) else wv w b * (dv d b : Rat)
      rw [dv_cons]
      by_cases e : b = a
      · subst e
        rw [if_pos rfl, if_pos rfl, h0, show ((0 : Int) : Rat) = 0 from rfl, Rat.mul_zero, Rat.zero_add]
      · rw [if_neg e, if_neg e]
    rw [key, nsum_at _ a _ hn (hs (a, m) List.mem_cons_self), Rat.add_comm]
theorem wsum_add (w : Wm) {N : List Str} {k m j : Nat} {ys : List Str} {d e f : Dm} (hn : ys.Nodup) (o1 : DOk ys k d) (o2 : DOk ys m e) (o3 : DOk ys j f) (h : ∀ b, dv f b = dv d b + dv e b) : wsum w f = wsum w d + wsum w e := by
  rw [wsum_names w hn o1.asc.nks o1.sub, wsum_names w hn o2.asc.nks o2.sub, wsum_names w hn o3.asc.nks o3.sub, ← nsum_add]
  apply nsum_congr
  intro b _
  rw [h b, Rat.intCast_add]
  grind
theorem wsum_sub (w : Wm) {k m j : Nat} {ys : List Str} {d e f : Dm} (hn : ys.Nodup) (o1 : DOk ys k d) (o2 : DOk ys m e) (o3 : DOk ys j f) (h : ∀ b, dv f b = dv d b - dv e b) : wsum w f = wsum w d - wsum w e := by
  have := wsum_add (N := ys) w hn o3 o2 o1 (fun b => by rw [h b]; omega)
  grind
theorem wsum_rmul (w : Wm) (m : Int) (d : Dm) : wsum w (rmul d m) = wsum w d * (m : Rat) := by
  unfold rmul
  split
  · rename_i h
    subst h
    show (0 : Rat) = _ * ((0 : Int) : Rat)
    rw [show ((0 : Int) : Rat) = 0 from rfl, Rat.mul_zero]
  · induction d with
    | nil => show (0 : Rat) = 0 * _; rw [Rat.zero_mul]
    | cons p d ih =>
      rw [List.map_cons]
      show wv w p.1 * ((p.2 * m : Int) : Rat) + wsum w _ = (wv w p.1 * (p.2 : Rat) + wsum w d) * (m : Rat)
      rw [ih, Rat.intCast_mul]
      grind
end PL

namespace PL
open PySem PySem.Spec PyProof.Rows L2
variable {G : Pg} {n : Nat} {Q : AQ} {E : AXQ} {h : AH}
def frNz : AV → Bool | .tup [_, x] => isFr x && (match x with | .tup (.int a :: _) => decide (a ≠ 0) | _ => false) | _ => false
def isWts (v : AV) : Bool := areNP v && match v with | .tup xs => xs.all frNz | _ => false
theorem isFr_shape {x : AV} (h : isFr x = true) : ∃ a b, x = .tup [.int a, .int b] := by
  match x, h with
  | .tup [.int a, .int b], _ => exact ⟨a, b, rfl⟩
theorem areNP_tup {v : AV} (h : areNP v = true) : ∃ xs, v = .tup xs ∧ xs.all isNP = true := by
  cases v with
  | tup xs =>
    have : (xs.all isNP && ascA xs) = true := h
    rw [Bool.and_eq_true] at this
    exact ⟨xs, rfl, this.1⟩
  | _ => cases h
structure CFr (G : Pg) : Prop where
  c0 : G.code 0 = some f0
  c1 : G.code 1 = some f1
  c2 : G.code 2 = some f2
  c3 : G.code 3 = some f3
  c4 : G.code 4 = some f4
  c5 : G.code 5 = some f5
  c7 : G.code 7 = some f7
theorem are_weights_spec (c : CDim G) (k : CFr G) (c63 : G.code 63 = some f63) {v : AV} (ht : DTy h v) (hq : Q (.bl (isWts v)) h) : wpC G (n + 3) 63 [v] h Q E := by
  refine call_i c63 rfl ?_
  unfold c63_are_weights
  bv_omega
  refine are_named_pairs_spec c.c34 c.c35 c.g0 c.g1 ht ?_
  by_cases ha : areNP v = true
  · rw [ha]
    bv_omega
    obtain ⟨xs, rfl, hn⟩ := areNP_tup ha
    obtain ⟨hl, hx⟩ := dty_tup.mp ht
    have hq : Q (.bl (areNP (.tup xs) && xs.all frNz)) h := hq
    rw [ha, Bool.true_and] at hq
    refine all_comp (wpC_mono G (n + 2)) ?_
    bv_omega
    refine ⟨hl, fun _ _ => trivial, frNz, fun x hx' h2 l => ?_, fun h2 l => shr_le l hq⟩
    obtain ⟨s, y, rfl, _⟩ := isNP_key (List.all_eq_true.mp hn x hx')
    have dy := ((dty_tup.mp (hx _ hx')).2 y (by simp)).mono l
    refine g_tupR rfl ?_
    bv_omega
    refine is_fraction_spec k.c0 k.c1 k.c2 dy.tydt ?_
    cases e : isFr y with
    | true =>
      obtain ⟨a, b, rfl⟩ := isFr_shape e
      bv_omega
      refine ⟨?_, ALe.refl⟩
      show _ = (isFr (.tup [.int a, .int b]) && decide (a ≠ 0))
      rw [e, Bool.true_and, decide_not]
    | false =>
      bv_omega
      refine ⟨?_, ALe.refl⟩
      show false = (isFr y && _)
      rw [e]; rfl
  · have ha : areNP v = false := by simpa using ha
    rw [ha]
    bv_omega
    have : isWts v = false := by unfold isWts; rw [ha, Bool.false_and]
    rw [this] at hq
    exact shr_i hq
theorem asc_keysA {α : Type} {f : α → AV} : ∀ {d : NM α}, Asc d → ascA (d.map (prf f)) = true
  | [], _ => rfl
  | [p], _ => rfl
  | p :: q :: r, h => by
    show (decide (sl p.1 q.1) && ascA ((q :: r).map (prf f))) = true
    have h2 := List.pairwise_cons.mp h
    rw [asc_keysA (d := q :: r) h2.2, Bool.and_true]
    exact decide_eq_true (h2.1 q List.mem_cons_self)
theorem areNP_np {α : Type} {f : α → AV} {N : List Str} {d : NM α} (hN : NmsOk N) (ha : Asc d) (hs : ∀ p ∈ d, p.1 ∈ N) : areNP (np f d) = true := by
  show ((d.map (prf f)).all isNP && ascA (d.map (prf f))) = true
  rw [asc_keysA ha, Bool.and_true, List.all_map, List.all_eq_true]
  intro p hp
  exact hN.ok _ (hs p hp)
theorem isWts_wm {N : List Str} {k : Nat} {w : Wm} (hN : NmsOk N) (o : WOk N k w) : isWts (wm w) = true := by
  show (areNP (np fr w) && (w.map (prf fr)).all frNz) = true
  rw [areNP_np hN o.asc o.sub, Bool.true_and, List.all_map, List.all_eq_true]
  intro p hp
  show (isFr (fr p.2) && decide (p.2.num ≠ 0)) = true
  rw [isFr_fr, Bool.true_and]
  exact decide_eq_true (num_nz (o.nz p hp).1)
theorem dty_fr (x : Rat) : DTy h (fr x) := dty_tup.mpr ⟨by simp, fun y hy => by
  simp at hy
  rcases hy with rfl | rfl <;> (unfold DTy; trivial)⟩
theorem dty_np {α : Type} {f : α → AV} {N : List Str} {d : NM α} (hN : NmsOk N) (hl : d.length ≤ N.length) (hs : ∀ p ∈ d, p.1 ∈ N) (hf : ∀ p ∈ d, DTy h (f p.2)) : DTy h (np f d) := by
  refine dty_tup.mpr ⟨?_, ?_⟩
  · rw [List.length_map]
    have := hN.len
    omega
  · intro x hx
    obtain ⟨p, hp, rfl⟩ := List.mem_map.mp hx
    refine dty_tup.mpr ⟨by simp, fun y hy => ?_⟩
    simp at hy
    rcases hy with rfl | rfl
    · exact dty_str.mpr (by have := name_len (hN.ok _ (hs p hp)); omega)
    · exact hf p hp
theorem dty_wm {N : List Str} {k : Nat} {w : Wm} (hN : NmsOk N) (o : WOk N k w) : DTy h (wm w) := dty_np hN o.len o.sub fun p _ => dty_fr _
theorem sz_wsum {N M : List Str} {k m : Nat} {w : Wm} (ow : WOk N k w) (hk : 0 < k) (hm : 0 < m) : ∀ {d : Dm}, (∀ p ∈ d, p.2.natAbs < 2 ^ m) → Sz (d.length * (k + m + 1) + 1) (wsum w d)
  | [], _ => sz_zero (by omega)
  | p :: d, h => by
    have h1 := sz_mul (ow.bd hk p.1) (sz_int (h p List.mem_cons_self) hm)
    have h2 := sz_wsum (N := N) (M := M) ow hk hm (d := d) fun q hq => h q (List.mem_cons_of_mem _ hq)
    refine (sz_add h1 h2).mono ?_
    rw [List.length_cons, Nat.add_mul]
    omega
theorem raw_weighs_spec (k : CFr G) (c64 : G.code 64 = some f64) (g5 : G.T.gv 5 = some (fr 0)) {N M : List Str} {a b : Nat} {w : Wm} {d : Dm} (ow : WOk N a w) (od : DOk M b d) (ha : 0 < a) (hb : 0 < b) (hl : (d.length + 1) * (a + b + 1) + 2 ≤ 7900)
    (hq : Q (fr (wsum w d)) h) : wpC G (n + 4) 64 [wm w, dm d] h Q E := by
  refine call_i c64 rfl ?_
  unfold c64_raw_weighs
  have CM := wpC_mono G (n + 3)
  refine wp_cut CM (fun σ h' => ∃ p, h p = none ∧ σ = [some (wm w), some (dm d), some (.ref p), some (fr 0), none, none] ∧ h' = aupd h p (.dK (w.map (kvf fr)))) ?_ ?_
  · bv_omega
    exact dict_np ow.asc.nks fun p hp => ⟨fr 0, g5, p, hp, rfl, rfl⟩
  rintro σ h' ⟨p, hp, rfl, rfl⟩
  refine wp_cut CM (fun σ h' => ∃ x y, σ = [some (wm w), some (dm d), some (.ref p), some (fr (wsum w d)), x, y] ∧ h' = aupd h p (.dK (w.map (kvf fr)))) ?_ ?_
  · refine for_v CM ?_
    bv_omega
    show itR (.tup (d.map (prf AV.int))) _ _
    rw [v_tup]
    refine ⟨fun xs σ h' => ∃ (rest : Dm) (f : Rat) (x y : Option AV), xs = rest.map (prf AV.int) ∧ σ = [some (wm w), some (dm d), some (.ref p), some (fr f), x, y] ∧ h' = aupd h p (.dK (w.map (kvf fr))) ∧ (∀ q ∈ rest, q ∈ d) ∧ rest.length ≤ d.length ∧ f + wsum w rest = wsum w d ∧ Sz ((d.length - rest.length) * (a + b + 1) + 1) f,
      ⟨d, 0, none, none, rfl, rfl, rfl, fun _ h => h, Nat.le_refl _, Rat.zero_add _, by rw [Nat.sub_self, Nat.zero_mul]; exact sz_zero (by omega)⟩, ?_, ?_⟩
    · rintro σ h' ⟨rest, f, x, y, e, rfl, rfl, _, _, es, _⟩
      have := map_nil_eq e
      subst this
      have es : f + 0 = wsum w d := es
      rw [Rat.add_zero] at es
      subst es
      exact ⟨trivial, x, y, rfl, rfl⟩
    · rintro x xs σ h' ⟨rest, f, u, v, e, rfl, rfl, hr, hlen, es, sf⟩
      cases rest with
      | nil => cases e
      | cons q rest =>
        obtain ⟨s, m⟩ := q
        rw [List.map_cons] at e
        obtain ⟨rfl, rfl⟩ := List.cons.inj e
        refine ⟨trivial, g_tupR rfl ?_⟩
        have hm := od.nz _ (hr (s, m) List.mem_cons_self)
        rw [List.length_cons] at hlen
        bv_omega
        refine ⟨ms_get aupd_same, fr 0, g5, get_dK aupd_same (k' := .inr s) rfl ?_⟩
        rw [wget]
        rw [fr_int]
        have s1 := ow.bd ha s
        have s2 := sz_int hm.2 hb
        have sb : (d.length - (rest.length + 1)) * (a + b + 1) ≤ d.length * (a + b + 1) := Nat.mul_le_mul_right _ (by omega)
        have sd : (d.length + 1) * (a + b + 1) = d.length * (a + b + 1) + (a + b + 1) := by rw [Nat.add_mul, Nat.one_mul]
        refine raw_times_spec (n := n) k.c1 k.c3 k.c7 s1 s2 ha hb (by omega) ?_
        have s3 := sz_mul s1 s2
        rw [List.length_cons] at sf
        refine raw_plus_spec (n := n) k.c1 k.c3 k.c5 sf s3 (by omega) (by omega) (by omega) ?_
        refine ⟨rest, _, _, _, rfl, rfl, rfl, fun q hq => hr q (List.mem_cons_of_mem _ hq), by omega, ?_, (sz_add sf s3).mono ?_⟩
        · rw [← es]
          show f + wv w s * (m : Rat) + wsum w rest = f + (wv w s * (m : Rat) + wsum w rest)
          rw [Rat.add_assoc]
        · have : d.length - rest.length = d.length - (rest.length + 1) + 1 := by omega
          rw [this, Nat.add_mul, Nat.one_mul]
          omega
  rintro σ h' ⟨x, y, rfl, rfl⟩
  bv_omega
  exact shr_le (ALe.fresh hp) hq
theorem weighs_spec (c : CDim G) (k : CFr G) (c63 : G.code 63 = some f63) (c64 : G.code 64 = some f64) (c65 : G.code 65 = some f65) (g5 : G.T.gv 5 = some (fr 0)) {N M : List Str} {a b : Nat} {w : Wm} {d : Dm} (hN : NmsOk N) (hM : NmsOk M) (ow : WOk N a w) (od : DOk M b d) (ha : 0 < a) (hb : 0 < b) (hl : (d.length + 1) * (a + b + 1) + 2 ≤ 7900)
    (hq : Q (fr (wsum w d)) h) : wpC G (n + 5) 65 [wm w, dm d] h Q E := by
  refine call_i c65 rfl ?_
  unfold c65_weighs
  bv_omega
  refine are_weights_spec (n := n + 1) c k c63 (dty_wm hN ow) ?_
  rw [isWts_wm hN ow]
  bv_omega
  refine check_dm c hM od ?_
  exact raw_weighs_spec (n := n) k c64 g5 ow od ha hb hl (shr_i hq)
theorem weighs_badw (c : CDim G) (k : CFr G) (c63 : G.code 63 = some f63) (c65 : G.code 65 = some f65) {v w : AV} (hv : DTy h v) (hb : isWts v = false) (he : E ⟨6, []⟩ h) : wpC G (n + 5) 65 [v, w] h Q E := by
  refine call_i c65 rfl ?_
  unfold c65_weighs
  bv_omega
  refine are_weights_spec (n := n + 1) c k c63 hv ?_
  rw [hb]
  bv_omega
  exact shr_i he
theorem weighs_badd (c : CDim G) (k : CFr G) (c63 : G.code 63 = some f63) (c65 : G.code 65 = some f65) {N : List Str} {a : Nat} {w : Wm} {v : AV} (hN : NmsOk N) (ow : WOk N a w) (hv : DTy h v) (hb : isDim v = false) (he : E ⟨3, []⟩ h) : wpC G (n + 5) 65 [wm w, v] h Q E := by
  refine call_i c65 rfl ?_
  unfold c65_weighs
  bv_omega
  refine are_weights_spec (n := n + 1) c k c63 (dty_wm hN ow) ?_
  rw [isWts_wm hN ow]
  bv_omega
  exact check_bad c hv hb (shr_i he)
theorem low_wsum (x y : Rat) (m : Int) : Rat.divInt (x.num * y.den + m * y.num * x.den) (x.den * y.den) = x + y * (m : Rat) := by
  have h1 : (x.den : Int) ≠ 0 := den_nz x
  have h2 : (y.den : Int) ≠ 0 := den_nz y
  have e : y * (m : Rat) = Rat.divInt (m * y.num) y.den := by
    rw [mul_divInt, Rat.num_intCast, Rat.den_intCast, Int.mul_comm]
    simp
  rw [e]
  conv => rhs; rw [← Rat.num_divInt_den x]
  rw [Rat.divInt_add_divInt _ _ h1 h2]
theorem law_weighed_spec (c11 : G.code 11 = some f11) (c67 : G.code 67 = some f67) {N M : List Str} {a b : Nat} {w : Wm} {d : Dm} (ow : WOk N a w) (od : DOk M b d) (ha : 0 < a) (hb : 0 < b) (hl : (d.length + 1) * (a + b + 1) + 2 ≤ 7900)
    (hq : Q (fr (wsum w d)) h) : wpC G (n + 2) 67 [wm w, dm d] h Q E := by
  refine call_i c67 rfl ?_
  unfold c67_law_weighed
  have CM := wpC_mono G (n + 1)
  have fr0 : AV.tup [.int 0, .int 1] = fr 0 := rfl
  refine wp_cut CM (fun σ h' => ∃ p, h p = none ∧ σ = [some (wm w), some (dm d), some (.ref p), none, none, none, none] ∧ h' = aupd h p (.dK (w.map (kvf fr)))) ?_ ?_
  · bv_omega
    exact dict_np ow.asc.nks fun p hp => ⟨p, hp, rfl, rfl⟩
  rintro σ h' ⟨p, hp, rfl, rfl⟩
  refine wp_cut CM (fun σ h' => σ = [some (wm w), some (dm d), some (.ref p), some (fr 0), none, none, none] ∧ h' = aupd h p (.dK (w.map (kvf fr)))) ?_ ?_
  · bv_omega
    rfl
  rintro σ h' ⟨rfl, rfl⟩
  refine wp_cut CM (fun σ h' => ∃ x y z, σ = [some (wm w), some (dm d), some (.ref p), some (fr (wsum w d)), x, y, z] ∧ h' = aupd h p (.dK (w.map (kvf fr)))) ?_ ?_
  · refine for_v CM ?_
    bv_omega
    show itR (.tup (d.map (prf AV.int))) _ _
    rw [v_tup]
    refine ⟨fun xs σ h' => ∃ (rest : Dm) (f : Rat) (x y z : Option AV), xs = rest.map (prf AV.int) ∧ σ = [some (wm w), some (dm d), some (.ref p), some (fr f), x, y, z] ∧ h' = aupd h p (.dK (w.map (kvf fr))) ∧ (∀ q ∈ rest, q ∈ d) ∧ rest.length ≤ d.length ∧ f + wsum w rest = wsum w d ∧ Sz ((d.length - rest.length) * (a + b + 1) + 1) f,
      ⟨d, 0, none, none, none, rfl, rfl, rfl, fun _ h => h, Nat.le_refl _, Rat.zero_add _, by rw [Nat.sub_self, Nat.zero_mul]; exact sz_zero (by omega)⟩, ?_, ?_⟩
    · rintro σ h' ⟨rest, f, x, y, z, e, rfl, rfl, _, _, es, _⟩
      have := map_nil_eq e
      subst this
      have es : f + 0 = wsum w d := es
      rw [Rat.add_zero] at es
      subst es
      exact ⟨trivial, x, y, z, rfl, rfl⟩
    · rintro x xs σ h' ⟨rest, f, u, v, z, e, rfl, rfl, hr, hlen, es, sf⟩
      cases rest with
      | nil => cases e
      | cons q rest =>
        obtain ⟨s, m⟩ := q
        rw [List.map_cons] at e
        obtain ⟨rfl, rfl⟩ := List.cons.inj e
        refine ⟨trivial, g_tupR rfl ?_⟩
        have hm := od.nz _ (hr (s, m) List.mem_cons_self)
        rw [List.length_cons] at hlen
        bv_omega
        refine ⟨ms_get aupd_same, get_dK aupd_same (k' := .inr s) rfl ?_⟩
        rw [fr0, wget]
        have s1 := ow.bd ha s
        have sb : (d.length - (rest.length + 1)) * (a + b + 1) ≤ d.length * (a + b + 1) := Nat.mul_le_mul_right _ (by omega)
        have sd : (d.length + 1) * (a + b + 1) = d.length * (a + b + 1) + (a + b + 1) := by rw [Nat.add_mul, Nat.one_mul]
        rw [List.length_cons] at sf
        unfold fr
        bv_omega
        generalize hk : (d.length - (rest.length + 1)) * (a + b + 1) + 1 = K at sf
        have x1 := lt_mul (i := m) (j := (wv w s).num) hm.2 s1.1
        have x2 := lt_mul (i := f.num) (j := ((wv w s).den : Int)) sf.1 s1.2
        have x3 := lt_mul (i := (f.den : Int)) (j := ((wv w s).den : Int)) sf.2 s1.2
        have hK : 0 < K := by omega
        refine ⟨mulW sf.1 (j := ((wv w s).den : Int)) s1.2 hK ha (by omega), mulW hm.2 s1.1 hb ha (by omega), mulW x1 (j := (f.den : Int)) sf.2 (by omega) hK (by omega), mulW (i := (f.den : Int)) (j := ((wv w s).den : Int)) sf.2 s1.2 hK ha (by omega), ?_⟩
        refine law_low_spec (n := n) c11 (Int.mul_ne_zero (den_nz f) (den_nz _)) (Nat.lt_of_lt_of_le x3 (Nat.pow_le_pow_right (by decide) (by omega))) ?_
        rw [low_wsum]
        have s3 := sz_mul s1 (sz_int hm.2 hb)
        refine ⟨rest, _, _, _, _, rfl, rfl, rfl, fun q hq => hr q (List.mem_cons_of_mem _ hq), by omega, ?_, (sz_add sf s3).mono ?_⟩
        · rw [← es]
          show f + wv w s * (m : Rat) + wsum w rest = f + (wv w s * (m : Rat) + wsum w rest)
          rw [Rat.add_assoc]
        · have : d.length - rest.length = d.length - (rest.length + 1) + 1 := by omega
          rw [this, Nat.add_mul, Nat.one_mul]
          omega
  rintro σ h' ⟨x, y, z, rfl, rfl⟩
  bv_omega
  exact shr_le (ALe.fresh hp) hq
end PL

namespace PL
open PySem PySem.Spec PyProof.Rows L2
theorem zpow_ne0 {x : Rat} (h : x ≠ 0) (i : Int) : x ^ i ≠ 0 := fun z => by
  have e := Rat.zpow_add h i (-i)
  rw [z, Rat.zero_mul, Int.add_right_neg, Rat.zpow_zero] at e
  exact absurd e (by decide)
theorem mul_pow' (x y : Rat) : ∀ m : Nat, (x * y) ^ m = x ^ m * y ^ m
  | 0 => by rw [Rat.pow_zero, Rat.pow_zero, Rat.pow_zero, Rat.mul_one]
  | m + 1 => by rw [Rat.pow_succ, Rat.pow_succ, Rat.pow_succ, mul_pow' x y m]; grind
theorem mul_inv' (x y : Rat) : (x * y)⁻¹ = x⁻¹ * y⁻¹ := by grind
theorem mul_zpow' (x y : Rat) (i : Int) : (x * y) ^ i = x ^ i * y ^ i := by
  by_cases h : i < 0
  · have e : i = -(i.natAbs : Int) := by omega
    rw [e, Rat.zpow_neg, Rat.zpow_neg, Rat.zpow_neg, Rat.zpow_natCast, Rat.zpow_natCast, Rat.zpow_natCast, mul_pow', mul_inv']
  · have e : i = (i.natAbs : Int) := by omega
    rw [e, Rat.zpow_natCast, Rat.zpow_natCast, Rat.zpow_natCast, mul_pow']
theorem zpow_mul_nat {x : Rat} (h : x ≠ 0) (i : Int) : ∀ m : Nat, x ^ (i * (m : Int)) = (x ^ i) ^ m
  | 0 => by rw [show ((0 : Nat) : Int) = 0 from rfl, Int.mul_zero, Rat.zpow_zero, Rat.pow_zero]
  | m + 1 => by rw [show ((m + 1 : Nat) : Int) = (m : Int) + 1 from rfl, Int.mul_add, Int.mul_one, Rat.zpow_add h, zpow_mul_nat h i m, Rat.pow_succ]
theorem zpow_mul' {x : Rat} (h : x ≠ 0) (i j : Int) : x ^ (i * j) = (x ^ i) ^ j := by
  by_cases hn : j < 0
  · have e : j = -(j.natAbs : Int) := by omega
    rw [e, Int.mul_neg, Rat.zpow_neg, Rat.zpow_neg, Rat.zpow_natCast, zpow_mul_nat h]
  · have e : j = (j.natAbs : Int) := by omega
    rw [e, Rat.zpow_natCast, zpow_mul_nat h]
theorem one_zpow' (i : Int) : (1 : Rat) ^ i = 1 := by
  have p : ∀ m : Nat, (1 : Rat) ^ m = 1 := fun m => by
    induction m with
    | zero => exact Rat.pow_zero 1
    | succ m ih => rw [Rat.pow_succ, ih, Rat.mul_one]
  by_cases h : i < 0
  · have e : i = -(i.natAbs : Int) := by omega
    rw [e, Rat.zpow_neg, Rat.zpow_natCast, p]; grind
  · have e : i = (i.natAbs : Int) := by omega
    rw [e, Rat.zpow_natCast, p]
def sv (w : Wm) (b : Str) : Rat := (w.lookup b).getD 1
structure SOk (N : List Str) (k : Nat) (w : Wm) : Prop where
  asc : Asc w
  pos : ∀ p ∈ w, 0 < p.2 ∧ Sz k p.2
  sub : ∀ p ∈ w, p.1 ∈ N
theorem SOk.len {N : List Str} {k : Nat} {w : Wm} (o : SOk N k w) : w.length ≤ N.length := nks_len o.asc.nks o.sub
theorem SOk.nil {N : List Str} {k : Nat} : SOk N k [] := ⟨List.Pairwise.nil, by simp, by simp⟩
theorem SOk.bd {N : List Str} {k : Nat} {w : Wm} (o : SOk N k w) (hk : 0 < k) (b : Str) : Sz k (sv w b) := by
  unfold sv
  cases e : w.lookup b with
  | none => exact sz_one hk
  | some v => exact (o.pos _ (lookup_mem e)).2
theorem SOk.ps {N : List Str} {k : Nat} {w : Wm} (o : SOk N k w) (b : Str) : 0 < sv w b := by
  unfold sv
  cases e : w.lookup b with
  | none => decide
  | some v => exact (o.pos _ (lookup_mem e)).1
theorem SOk.ne {N : List Str} {k : Nat} {w : Wm} (o : SOk N k w) (b : Str) : sv w b ≠ 0 := Rat.ne_of_gt (o.ps b)
theorem sv_of {w : Wm} {p : Str × Rat} (hn : NKs w) (h : p ∈ w) : sv w p.1 = p.2 := by
  unfold sv
  rw [lookup_some hn (show (p.1, p.2) ∈ w from h)]; rfl
theorem sv_none {w : Wm} {b : Str} (h : b ∉ w.map (·.1)) : sv w b = 1 := by
  unfold sv; rw [lookup_none h]; rfl
theorem sv_nil {b : Str} : sv [] b = 1 := rfl
theorem sget {w : Wm} {b : Str} : (dget (w.map (kvf fr)) (.inr b)).getD (fr 1) = fr (sv w b) := by
  rw [lookup_map_kv]
  unfold sv
  cases w.lookup b <;> rfl
def sprod (w : Wm) : Dm → Rat
  | [] => 1
  | p :: d => sv w p.1 ^ p.2 * sprod w d
theorem sprod_ps {N : List Str} {k : Nat} {w : Wm} (o : SOk N k w) : ∀ d : Dm, 0 < sprod w d
  | [] => by show (0 : Rat) < 1; decide
  | p :: d => Rat.mul_pos (Rat.zpow_pos (o.ps _)) (sprod_ps o d)
theorem sprod_ne {N : List Str} {k : Nat} {w : Wm} (o : SOk N k w) (d : Dm) : sprod w d ≠ 0 := Rat.ne_of_gt (sprod_ps o d)
def nprod (f : Str → Rat) : List Str → Rat
  | [] => 1
  | b :: r => f b * nprod f r
theorem nprod_congr {f g : Str → Rat} : ∀ {l : List Str}, (∀ b ∈ l, f b = g b) → nprod f l = nprod g l
  | [], _ => rfl
  | b :: r, h => by
    show f b * nprod f r = g b * nprod g r
    rw [h b List.mem_cons_self, nprod_congr fun c hc => h c (List.mem_cons_of_mem _ hc)]
theorem nprod_one : ∀ {l : List Str}, nprod (fun _ => 1) l = 1
  | [] => rfl
  | b :: r => by show 1 * nprod _ r = 1; rw [nprod_one, Rat.mul_one]
theorem nprod_mul (f g : Str → Rat) : ∀ l : List Str, nprod (fun b => f b * g b) l = nprod f l * nprod g l
  | [] => by show (1 : Rat) = 1 * 1; rw [Rat.mul_one]
  | b :: r => by
    show f b * g b * nprod _ r = (f b * nprod f r) * (g b * nprod g r)
    rw [nprod_mul f g r]
    grind
theorem nprod_pow (f : Str → Rat) (i : Int) : ∀ l : List Str, nprod (fun b => f b ^ i) l = nprod f l ^ i
  | [] => by show (1 : Rat) = 1 ^ i; rw [one_zpow']
  | b :: r => by
    show f b ^ i * nprod _ r = (f b * nprod f r) ^ i
    rw [nprod_pow f i r, mul_zpow']
theorem nprod_at (f : Str → Rat) (a : Str) (x : Rat) : ∀ {l : List Str}, l.Nodup → a ∈ l → nprod (fun b => if b = a then f b * x else f b) l = nprod f l * x
  | b :: r, hn, ha => by
    rw [List.nodup_cons] at hn
    show (if b = a then f b * x else f b) * nprod _ r = f b * nprod f r * x
    by_cases e : b = a
    · subst e
      rw [if_pos rfl, nprod_congr (g := f)]
      · grind
      · intro c hc
        have : c ≠ b := fun e => hn.1 (e ▸ hc)
        rw [if_neg this]
    · rw [if_neg e, nprod_at f a x hn.2 ((List.mem_cons.mp ha).resolve_left (Ne.symm e))]
      grind
theorem sprod_names (w : Wm) {ys : List Str} (hn : ys.Nodup) : ∀ {d : Dm}, NKs d → (∀ p ∈ d, p.1 ∈ ys) → sprod w d = nprod (fun b => sv w b ^ dv d b) ys
  | [], _, _ => by
    show (1 : Rat) = _
    rw [nprod_congr (g := fun _ => 1), nprod_one]
    intro b _
    rw [dv_nil]
    exact Rat.zpow_zero _
  | (a, m) :: d, hk, hs => by
    unfold NKs at hk
    rw [List.map_cons, List.nodup_cons] at hk
    show sv w a ^ m * sprod w d = _
    rw [sprod_names w hn hk.2 fun p hp => hs p (List.mem_cons_of_mem _ hp)]
    have h0 : dv d a = 0 := dv_none hk.1
    have key : nprod (fun b => sv w b ^ dv ((a, m) :: d) b) ys = nprod (fun b => if b = a then sv w b ^ dv d b * sv w a ^ m else sv w b ^ dv d b) ys := by
      apply nprod_congr
      intro b _
      show sv w b ^ dv ((a, m) :: d) b = if b = a then sv w b ^ dv d b * sv w a ^ m else sv w b ^ dv d b
      rw [dv_cons]
      by_cases e : b = a
      · subst e
        rw [if_pos rfl, if_pos rfl, h0, Rat.zpow_zero, Rat.one_mul]
      · rw [if_neg e, if_neg e]
    rw [key, nprod_at _ a _ hn (hs (a, m) List.mem_cons_self), Rat.mul_comm]
theorem sprod_add {w : Wm} {N : List Str} {kk k m j : Nat} {ys : List Str} {d e f : Dm} (ow : SOk N kk w) (hn : ys.Nodup) (o1 : DOk ys k d) (o2 : DOk ys m e) (o3 : DOk ys j f) (h : ∀ b, dv f b = dv d b + dv e b) : sprod w f = sprod w d * sprod w e := by
  rw [sprod_names w hn o1.asc.nks o1.sub, sprod_names w hn o2.asc.nks o2.sub, sprod_names w hn o3.asc.nks o3.sub, ← nprod_mul]
  apply nprod_congr
  intro b _
  rw [h b, Rat.zpow_add (ow.ne b)]
theorem sprod_sub {w : Wm} {N : List Str} {kk k m j : Nat} {ys : List Str} {d e f : Dm} (ow : SOk N kk w) (hn : ys.Nodup) (o1 : DOk ys k d) (o2 : DOk ys m e) (o3 : DOk ys j f) (h : ∀ b, dv f b = dv d b - dv e b) : sprod w f = sprod w d / sprod w e := by
  have := sprod_add ow hn o3 o2 o1 (fun b => by rw [h b]; omega)
  have := sprod_ne ow e
  grind
theorem sprod_rmul {w : Wm} {N : List Str} {kk : Nat} (ow : SOk N kk w) (m : Int) (d : Dm) : sprod w (rmul d m) = sprod w d ^ m := by
  unfold rmul
  split
  · rename_i h
    subst h
    exact (Rat.zpow_zero _).symm
  · induction d with
    | nil => show (1 : Rat) = 1 ^ m; rw [one_zpow']
    | cons p d ih =>
      rw [List.map_cons]
      show sv w p.1 ^ (p.2 * m) * sprod w _ = (sv w p.1 ^ p.2 * sprod w d) ^ m
      rw [ih, mul_zpow', zpow_mul' (ow.ne _)]
theorem sprod_prod {w u t : Wm} (ht : ∀ b, sv t b = sv w b * sv u b) : ∀ d : Dm, sprod t d = sprod w d * sprod u d
  | [] => by show (1 : Rat) = 1 * 1; rw [Rat.mul_one]
  | p :: d => by
    show sv t p.1 ^ p.2 * sprod t d = (sv w p.1 ^ p.2 * sprod w d) * (sv u p.1 ^ p.2 * sprod u d)
    rw [ht, mul_zpow', sprod_prod ht d]
    grind
theorem sprod_nil : ∀ d : Dm, sprod [] d = 1
  | [] => rfl
  | p :: d => by
    show (1 : Rat) ^ p.2 * sprod [] d = 1
    rw [one_zpow', sprod_nil d, Rat.mul_one]
theorem sz_sprod {N M : List Str} {a b m : Nat} {w : Wm} (ow : SOk N a w) (ha : 0 < a) : ∀ {d : Dm}, (∀ p ∈ d, p.2.natAbs ≤ m) → Sz (d.length * (a * m + 1) + 1) (sprod w d)
  | [], _ => sz_one (by omega)
  | p :: d, h => by
    have h1 := sz_zpow (i := p.2) (ow.bd ha p.1) (.inl (ow.ne p.1))
    have h2 := sz_sprod (N := N) (M := M) (b := b) ow ha (d := d) fun q hq => h q (List.mem_cons_of_mem _ hq)
    refine (sz_mul h1 h2).mono ?_
    have := Nat.mul_le_mul_left a (h p List.mem_cons_self)
    rw [List.length_cons, Nat.add_mul]
    omega
variable {G : Pg} {n : Nat} {Q : AQ} {E : AXQ} {h : AH}
structure CFm (G : Pg) : Prop where
  c0 : G.code 0 = some f0
  c1 : G.code 1 = some f1
  c2 : G.code 2 = some f2
  c3 : G.code 3 = some f3
  c4 : G.code 4 = some f4
  c7 : G.code 7 = some f7
def frPos : AV → Bool | .tup [_, x] => isFr x && (match x with | .tup (.int a :: _) => decide (0 < a) | _ => false) | _ => false
def isScl (v : AV) : Bool := areNP v && match v with | .tup xs => xs.all frPos | _ => false
theorem is_scale_spec (c : CDim G) (k : CFm G) (c53 : G.code 53 = some f53) {v : AV} (ht : DTy h v) (hq : Q (.bl (isScl v)) h) : wpC G (n + 3) 53 [v] h Q E := by
  refine call_i c53 rfl ?_
  unfold c53_is_scale
  bv_omega
  refine are_named_pairs_spec c.c34 c.c35 c.g0 c.g1 ht ?_
  by_cases ha : areNP v = true
  · rw [ha]
    bv_omega
    obtain ⟨xs, rfl, hn⟩ := areNP_tup ha
    obtain ⟨hl, hx⟩ := dty_tup.mp ht
    have hq : Q (.bl (areNP (.tup xs) && xs.all frPos)) h := hq
    rw [ha, Bool.true_and] at hq
    refine all_comp (wpC_mono G (n + 2)) ?_
    bv_omega
    refine ⟨hl, fun _ _ => trivial, frPos, fun x hx' h2 l => ?_, fun h2 l => shr_le l hq⟩
    obtain ⟨s, y, rfl, _⟩ := isNP_key (List.all_eq_true.mp hn x hx')
    have dy := ((dty_tup.mp (hx _ hx')).2 y (by simp)).mono l
    refine g_tupR rfl ?_
    bv_omega
    refine is_fraction_spec k.c0 k.c1 k.c2 dy.tydt ?_
    cases e : isFr y with
    | true =>
      obtain ⟨a, b, rfl⟩ := isFr_shape e
      bv_omega
      refine ⟨?_, ALe.refl⟩
      show _ = (isFr (.tup [.int a, .int b]) && decide (0 < a))
      rw [e, Bool.true_and]
    | false =>
      bv_omega
      refine ⟨?_, ALe.refl⟩
      show false = (isFr y && _)
      rw [e]; rfl
  · have ha : areNP v = false := by simpa using ha
    rw [ha]
    bv_omega
    have : isScl v = false := by unfold isScl; rw [ha, Bool.false_and]
    rw [this] at hq
    exact shr_i hq
theorem num_pos' {x : Rat} (h : 0 < x) : 0 < x.num := by
  have h1 : 0 ≤ x.num := Rat.num_nonneg.mpr (Rat.le_of_lt h)
  have h2 : x.num ≠ 0 := num_nz (Rat.ne_of_gt h)
  omega
theorem isScl_wm {N : List Str} {k : Nat} {w : Wm} (hN : NmsOk N) (o : SOk N k w) : isScl (wm w) = true := by
  show (areNP (np fr w) && (w.map (prf fr)).all frPos) = true
  rw [areNP_np hN o.asc o.sub, Bool.true_and, List.all_map, List.all_eq_true]
  intro p hp
  show (isFr (fr p.2) && decide (0 < p.2.num)) = true
  rw [isFr_fr, Bool.true_and]
  exact decide_eq_true (num_pos' (o.pos p hp).1)
theorem dty_sc {N : List Str} {k : Nat} {w : Wm} (hN : NmsOk N) (o : SOk N k w) : DTy h (wm w) := dty_np hN o.len o.sub fun p _ => dty_fr _
theorem check_scale_spec (c : CDim G) (k : CFm G) (c53 : G.code 53 = some f53) (c54 : G.code 54 = some f54) {v : AV} (ht : DTy h v) (hq : isScl v = true → Q .non h) (he : isScl v = false → E ⟨5, []⟩ h) : wpC G (n + 4) 54 [v] h Q E := by
  refine call_i c54 rfl ?_
  unfold c54_check_scale
  bv_omega
  refine is_scale_spec (n := n) c k c53 ht ?_
  cases e : isScl v with
  | true =>
    bv_omega
    exact shr_i (hq e)
  | false =>
    bv_omega
    exact shr_i (he e)
structure CSc (G : Pg) : Prop where
  c53 : G.code 53 = some f53
  c54 : G.code 54 = some f54
  c55 : G.code 55 = some f55
  c8 : G.code 8 = some f8
  c25 : G.code 25 = some f25
  g4 : G.T.gv 4 = some (fr 1)
theorem raw_scaled_spec (k : CFm G) (s : CSc G) {N : List Str} {a m : Nat} {w : Wm} {d : Dm} (ow : SOk N a w) (ha : 0 < a) (ha2 : a ≤ 7900) (hd : ∀ p ∈ d, p.2.natAbs ≤ m) (hb : a * m + 2 ≤ 400000) (hg : a * m + 1 ≤ 4400 ∨ d.length ≤ 1) (hl : d.length ≤ 60)
    (hq : Q (fr (sprod w d)) h) : wpC G (n + 6) 55 [wm w, dm d] h Q E := by
  refine call_i s.c55 rfl ?_
  unfold c55_raw_scaled
  have CM := wpC_mono G (n + 5)
  refine wp_cut CM (fun σ h' => ∃ p, h p = none ∧ σ = [some (wm w), some (dm d), some (.ref p), some (fr 1), none, none] ∧ h' = aupd h p (.dK (w.map (kvf fr)))) ?_ ?_
  · bv_omega
    exact dict_np ow.asc.nks fun p hp => ⟨fr 1, s.g4, p, hp, rfl, rfl⟩
  rintro σ h' ⟨p, hp, rfl, rfl⟩
  refine wp_cut CM (fun σ h' => ∃ x y, σ = [some (wm w), some (dm d), some (.ref p), some (fr (sprod w d)), x, y] ∧ h' = aupd h p (.dK (w.map (kvf fr)))) ?_ ?_
  · refine for_v CM ?_
    bv_omega
    show itR (.tup (d.map (prf AV.int))) _ _
    rw [v_tup]
    refine ⟨fun xs σ h' => ∃ (rest : Dm) (f : Rat) (x y : Option AV), xs = rest.map (prf AV.int) ∧ σ = [some (wm w), some (dm d), some (.ref p), some (fr f), x, y] ∧ h' = aupd h p (.dK (w.map (kvf fr))) ∧ (∀ q ∈ rest, q ∈ d) ∧ rest.length ≤ d.length ∧ 0 < f ∧ f * sprod w rest = sprod w d ∧ Sz ((d.length - rest.length) * (a * m + 1) + 1) f,
      ⟨d, 1, none, none, rfl, rfl, rfl, fun _ h => h, Nat.le_refl _, by decide, Rat.one_mul _, by rw [Nat.sub_self, Nat.zero_mul]; exact sz_one (by omega)⟩, ?_, ?_⟩
    · rintro σ h' ⟨rest, f, x, y, e, rfl, rfl, _, _, _, es, _⟩
      have := map_nil_eq e
      subst this
      have es : f * 1 = sprod w d := es
      rw [Rat.mul_one] at es
      subst es
      exact ⟨trivial, x, y, rfl, rfl⟩
    · rintro x xs σ h' ⟨rest, f, u, v, e, rfl, rfl, hr, hlen, f0, es, sf⟩
      cases rest with
      | nil => cases e
      | cons q rest =>
        obtain ⟨b, i⟩ := q
        rw [List.map_cons] at e
        obtain ⟨rfl, rfl⟩ := List.cons.inj e
        refine ⟨trivial, g_tupR rfl ?_⟩
        have hm := hd _ (hr (b, i) List.mem_cons_self)
        have hm : i.natAbs ≤ m := hm
        rw [List.length_cons] at hlen sf
        bv_omega
        refine ⟨ms_get aupd_same, fr 1, s.g4, get_dK aupd_same (k' := .inr b) rfl ?_⟩
        rw [sget]
        have s1 := ow.bd ha b
        have n1 := ow.ne b
        refine raw_power_spec (n := n) (m := m) k.c1 k.c3 k.c7 s.c8 s.c25 s.g4 s1 (.inl n1) hm ha ha2 hb ?_
        have s2 := (sz_zpow (i := i) s1 (.inl n1)).mono (show a * i.natAbs + 1 ≤ a * m + 1 from Nat.add_le_add_right (Nat.mul_le_mul_left a hm) 1)
        have sb : (d.length - (rest.length + 1)) * (a * m + 1) ≤ 60 * (a * m + 1) := Nat.mul_le_mul_right _ (by omega)
        refine raw_times_big (n := n + 2) k.c1 k.c3 k.c7 sf s2 (Rat.ne_of_gt f0) (zpow_ne0 n1 i) (by omega) (by omega) ?_ ?_ ?_
        · rcases hg with hg | hg
          · omega
          · have : d.length - (rest.length + 1) = 0 := by omega
            rw [this, Nat.zero_mul]
            omega
        · rcases hg with hg | hg
          · exact .inr hg
          · have : d.length - (rest.length + 1) = 0 := by omega
            rw [this, Nat.zero_mul]
            exact .inl (by decide)
        refine ⟨rest, _, _, _, rfl, rfl, rfl, fun q hq => hr q (List.mem_cons_of_mem _ hq), by omega, Rat.mul_pos f0 (Rat.zpow_pos (ow.ps b)), ?_, (sz_mul sf s2).mono ?_⟩
        · rw [← es]
          show f * sv w b ^ i * sprod w rest = f * (sv w b ^ i * sprod w rest)
          rw [Rat.mul_assoc]
        · have : d.length - rest.length = d.length - (rest.length + 1) + 1 := by omega
          rw [this, Nat.add_mul, Nat.one_mul]
          omega
  rintro σ h' ⟨x, y, rfl, rfl⟩
  bv_omega
  exact shr_le (ALe.fresh hp) hq
end PL

namespace PL
open PySem PySem.Spec PyProof.Rows L2
variable {G : Pg} {n : Nat} {Q : AQ} {E : AXQ} {h : AH}
def expIn : AV → Bool | .tup [_, x] => inV x (-2000) 2000 | _ => false
def dIn (d : Dm) : Bool := d.all fun p => inV (.int p.2) (-2000) 2000
theorem dIn_map (d : Dm) : (d.map (prf AV.int)).all expIn = dIn d := by
  rw [List.all_map]; rfl
theorem inV_iff {i : Int} : inV (.int i) (-2000) 2000 = true ↔ i.natAbs ≤ 2000 := by
  show (decide (-2000 ≤ i) && decide (i ≤ 2000)) = true ↔ _
  rw [Bool.and_eq_true, decide_eq_true_iff, decide_eq_true_iff]
  omega
theorem scaled_gen (c : CDim G) (k : CFm G) (s : CSc G) (c26 : G.code 26 = some f26) (c56 : G.code 56 = some f56) (g3 : G.T.gv 3 = some (.int 2000)) {N M : List Str} {a b : Nat} {w : Wm} {d : Dm} (hN : NmsOk N) (hM : NmsOk M) (ow : SOk N a w) (od : DOk M b d)
    (hq : dIn d = true → ∀ h2 Q2 E2, Q2 (fr (sprod w d)) h2 → wpC G (n + 6) 55 [wm w, dm d] h2 Q2 E2) (hq2 : dIn d = true → Q (fr (sprod w d)) h) (he : dIn d = false → E ⟨2, []⟩ h) : wpC G (n + 7) 56 [wm w, dm d] h Q E := by
  refine call_i c56 rfl ?_
  unfold c56_scaled
  bv_omega
  refine check_scale_spec (n := n + 2) c k s.c53 s.c54 (dty_sc hN ow) (fun _ => ?_) fun e => by rw [isScl_wm hN ow] at e; cases e
  refine check_dm c hM od ?_
  refine all_comp (wpC_mono G (n + 6)) ?_
  bv_omega
  show itR (.tup (d.map (prf AV.int))) _ _
  rw [v_tup]
  have hl := od.len
  have hl2 := hM.len
  refine ⟨by rw [List.length_map]; omega, fun _ _ => trivial, expIn, fun x hx h2 l => ?_, fun h2 l => ?_⟩
  · obtain ⟨p, hp, rfl⟩ := List.mem_map.mp hx
    refine g_tupR rfl ?_
    bv_omega
    refine ⟨_, g3, ?_⟩
    bv_omega
    refine ⟨_, g3, ?_⟩
    exact is_within_spec (n := n + 4) c.c0 c26 trivial ⟨rfl, ALe.refl⟩
  · rw [dIn_map]
    cases e : dIn d with
    | true =>
      bv_omega
      exact hq e _ _ _ (shr_le l (hq2 e))
    | false =>
      bv_omega
      exact shr_le l (he e)
theorem scaled_spec (c : CDim G) (k : CFm G) (s : CSc G) (c26 : G.code 26 = some f26) (c56 : G.code 56 = some f56) (g3 : G.T.gv 3 = some (.int 2000)) {N M : List Str} {a b m : Nat} {w : Wm} {d : Dm} (hN : NmsOk N) (hM : NmsOk M) (ow : SOk N a w) (od : DOk M b d)
    (ha : 0 < a) (ha2 : a ≤ 100) (hd : ∀ p ∈ d, p.2.natAbs ≤ m) (hm : m ≤ 2000) (hg : a * m + 1 ≤ 4400 ∨ d.length ≤ 1) (hq : Q (fr (sprod w d)) h) : wpC G (n + 7) 56 [wm w, dm d] h Q E := by
  have hl := od.len
  have hl2 := hM.len
  have e1 : a * m ≤ 100 * 2000 := Nat.mul_le_mul ha2 hm
  refine scaled_gen c k s c26 c56 g3 hN hM ow od (fun _ h2 Q2 E2 q2 => raw_scaled_spec k s ow ha (by omega) hd (by omega) hg (by omega) q2) (fun _ => hq) fun e => ?_
  have : dIn d = true := List.all_eq_true.mpr fun p hp => inV_iff.mpr (by have := hd p hp; omega)
  rw [this] at e; cases e
theorem scaled_num (c : CDim G) (k : CFm G) (s : CSc G) (c26 : G.code 26 = some f26) (c56 : G.code 56 = some f56) (g3 : G.T.gv 3 = some (.int 2000)) {N M : List Str} {a b : Nat} {w : Wm} {d : Dm} (hN : NmsOk N) (hM : NmsOk M) (ow : SOk N a w) (od : DOk M b d)
    (hd : dIn d = false) (he : E ⟨2, []⟩ h) : wpC G (n + 7) 56 [wm w, dm d] h Q E :=
  scaled_gen c k s c26 c56 g3 hN hM ow od (fun e => by rw [hd] at e; cases e) (fun e => by rw [hd] at e; cases e) fun _ => he
theorem scaled_bads (c : CDim G) (k : CFm G) (s : CSc G) (c56 : G.code 56 = some f56) {v w : AV} (hv : DTy h v) (hb : isScl v = false) (he : E ⟨5, []⟩ h) : wpC G (n + 7) 56 [v, w] h Q E := by
  refine call_i c56 rfl ?_
  unfold c56_scaled
  bv_omega
  refine check_scale_spec (n := n + 2) c k s.c53 s.c54 hv (fun e => ?_) fun _ => shr_i he
  rw [hb] at e; cases e
theorem scaled_badd (c : CDim G) (k : CFm G) (s : CSc G) (c56 : G.code 56 = some f56) {N : List Str} {a : Nat} {w : Wm} {v : AV} (hN : NmsOk N) (ow : SOk N a w) (hv : DTy h v) (hb : isDim v = false) (he : E ⟨3, []⟩ h) : wpC G (n + 7) 56 [wm w, v] h Q E := by
  refine call_i c56 rfl ?_
  unfold c56_scaled
  bv_omega
  refine check_scale_spec (n := n + 2) c k s.c53 s.c54 (dty_sc hN ow) (fun _ => ?_) fun e => by rw [isScl_wm hN ow] at e; cases e
  exact check_bad c hv hb (shr_i he)
def seven : List Str := "a" :: "b" :: "c" :: "d" :: "e" :: "f" :: "g" :: []
theorem absent_ex {ys : List Str} (hl : ys.length ≤ 6) : ∃ s ∈ seven, s ∉ ys := by
  apply Classical.byContradiction
  intro hh
  have : ∀ s ∈ seven, s ∈ ys := fun s hs => Classical.byContradiction fun h2 => hh ⟨s, hs, h2⟩
  have := len_nodup_sub (xs := seven) (ys := ys) (by decide +kernel) this
  have e : seven.length = 7 := rfl
  omega
theorem anyEq_str (s : Str) : ∀ ys : List Str, anyEq (.str s) (ys.map .str) = decide (s ∈ ys)
  | [] => by simp [anyEq]
  | y :: ys => by
    rw [List.map_cons]
    show (AV.eqv (.str y) (.str s) || anyEq (.str s) (ys.map .str)) = _
    rw [anyEq_str s ys]
    have : AV.eqv (.str y) (.str s) = decide (s = y) := by
      simp only [AV.eqv]
      by_cases e : y = s
      · simp [e]
      · simp [e, Ne.symm e]
    rw [this]
    by_cases h1 : s = y <;> by_cases h2 : s ∈ ys <;> simp [h1, h2]
theorem scal_strs (ys : List Str) : (ys.map AV.str).all AV.scal = true := by
  rw [List.all_map, List.all_eq_true]
  intro y _
  rfl
def notF (ys : List Str) : AV → Option AV := fun x => match x with | .str s => if s ∈ ys then none else some (.str s) | _ => none
theorem filt_not (ys : List Str) : ∀ l : List Str, (l.map AV.str).filterMap (notF ys) = (l.filter fun s => decide (s ∉ ys)).map .str
  | [] => rfl
  | s :: l => by
    rw [List.map_cons, List.filterMap_cons, List.filter_cons, filt_not ys l]
    by_cases h : s ∈ ys
    · simp [notF, h]
    · simp [notF, h]
theorem seven_nms : ∀ s ∈ seven, nameOk s = true := by decide +kernel
theorem one_dok {s : Str} {m : Int} {k : Nat} (h0 : m ≠ 0) (h : m.natAbs < 2 ^ k) : DOk [s] k [(s, m)] := ⟨List.pairwise_singleton _ _, fun p hp => by rw [List.mem_singleton.mp hp]; exact ⟨h0, h⟩, fun p hp => by rw [List.mem_singleton.mp hp]; exact List.mem_singleton.mpr rfl⟩
theorem absent_hd {ys : List Str} (hy : ys.length ≤ 6) : ∃ t rest, (seven.map AV.str).filterMap (notF ys) = (t :: rest).map .str ∧ t ∈ seven ∧ t ∉ ys := by
  have ef := filt_not ys seven
  obtain ⟨s, hs, hn⟩ := absent_ex hy
  have hm : s ∈ seven.filter (fun s => decide (s ∉ ys)) := List.mem_filter.mpr ⟨hs, decide_eq_true hn⟩
  cases e : seven.filter (fun s => decide (s ∉ ys)) with
  | nil => rw [e] at hm; cases hm
  | cons t rest =>
    have ht : t ∈ seven.filter (fun s => decide (s ∉ ys)) := by rw [e]; exact List.mem_cons_self
    rw [List.mem_filter] at ht
    exact ⟨t, rest, by rw [ef, e], ht.1, of_decide_eq_true ht.2⟩
end PL

namespace PL
open PySem PySem.Spec PyProof.Rows L2
variable {G : Pg} {n : Nat} {Q : AQ} {E : AXQ} {h : AH}
def exp9 : AV → Bool | .tup [_, x] => inV x (-9) 9 | _ => false
def isPlain (v : AV) : Bool := isDim v && match v with | .tup xs => decide (xs.length ≤ 6) && xs.all exp9 | _ => false
theorem isDim_tup {v : AV} (h : isDim v = true) : ∃ xs, v = .tup xs ∧ ∀ x ∈ xs, ∃ s y, x = .tup [.str s, y] := by
  unfold isDim at h
  rw [Bool.and_eq_true] at h
  obtain ⟨xs, rfl, hn⟩ := areNP_tup h.1
  refine ⟨xs, rfl, fun x hx => ?_⟩
  obtain ⟨s, y, rfl, _⟩ := isNP_key (List.all_eq_true.mp hn x hx)
  exact ⟨s, y, rfl⟩
structure CDm (G : Pg) : Prop where
  c0 : G.code 0 = some f0
  c34 : G.code 34 = some f34
  c35 : G.code 35 = some f35
  c36 : G.code 36 = some f36
  g0 : G.T.gv 0 = some (.int 8)
  g1 : G.T.gv 1 = some (.str "abcdefghijklmnopqrstuvwxyz")
structure CDn (G : Pg) : Prop where
  c0 : G.code 0 = some f0
  c34 : G.code 34 = some f34
  c35 : G.code 35 = some f35
  c36 : G.code 36 = some f36
  c38 : G.code 38 = some f38
  g0 : G.T.gv 0 = some (.int 8)
  g1 : G.T.gv 1 = some (.str "abcdefghijklmnopqrstuvwxyz")
structure CUn (G : Pg) : Prop where
  c26 : G.code 26 = some f26
  c39 : G.code 39 = some f39
  c94 : G.code 94 = some f94
  c145 : G.code 145 = some f145
  c146 : G.code 146 = some f146
  c147 : G.code 147 = some f147
  c148 : G.code 148 = some f148
  c149 : G.code 149 = some f149
  c150 : G.code 150 = some f150
  c151 : G.code 151 = some f151
  c152 : G.code 152 = some f152
  c153 : G.code 153 = some f153
  c8 : G.code 8 = some f8
  c25 : G.code 25 = some f25
  g4 : G.T.gv 4 = some (fr 1)
  g7 : G.T.gv 7 = some (.int 6)
  g8 : G.T.gv 8 = some (.int 9)
  g19 : G.T.gv 19 = some (.int 20)
theorem is_plain_spec0 (c : CDm G) (c26 : G.code 26 = some f26) (c94 : G.code 94 = some f94) (g7 : G.T.gv 7 = some (.int 6)) (g8 : G.T.gv 8 = some (.int 9)) {v : AV} (ht : DTy h v) (hq : Q (.bl (isPlain v)) h) : wpC G (n + 4) 94 [v] h Q E := by
  refine call_i c94 rfl ?_
  unfold c94_is_plain_dimension
  bv_omega
  refine is_dimension_spec (n := n) c.c0 c.c34 c.c35 c.c36 c.g0 c.g1 ht ?_
  cases ed : isDim v with
  | false =>
    bv_omega
    have : isPlain v = false := by unfold isPlain; rw [ed, Bool.false_and]
    rw [this] at hq
    exact shr_i hq
  | true =>
    obtain ⟨xs, rfl, hx⟩ := isDim_tup ed
    obtain ⟨hl, hd⟩ := dty_tup.mp ht
    have hq : Q (.bl (isDim (.tup xs) && (decide (xs.length ≤ 6) && xs.all exp9))) h := hq
    rw [ed, Bool.true_and] at hq
    bv_omega
    refine ⟨_, g7, ?_⟩
    bv_omega
    by_cases h6 : xs.length ≤ 6
    · rw [decide_eq_true h6, Bool.true_and] at hq
      have e : ¬ ((6 : Int) < (xs.length : Int)) := by omega
      simp only [e]
      bv_omega
      refine all_comp (wpC_mono G (n + 3)) ?_
      bv_omega
      refine ⟨hl, fun _ _ => trivial, exp9, fun x hx' h2 l => ?_, fun h2 l => shr_le l hq⟩
      obtain ⟨s, y, rfl⟩ := hx x hx'
      have dy := ((dty_tup.mp (hd _ hx')).2 y (by simp)).mono l
      refine g_tupR rfl ?_
      bv_omega
      refine ⟨_, g8, ?_⟩
      bv_omega
      refine ⟨_, g8, ?_⟩
      exact is_within_spec (n := n + 1) c.c0 c26 dy.tyd ⟨rfl, ALe.refl⟩
    · rw [decide_eq_false h6, Bool.false_and] at hq
      have e : ((6 : Int) < (xs.length : Int)) := by omega
      simp only [e]
      bv_omega
      exact shr_i hq
theorem is_plain_spec (c : CDn G) (u : CUn G) {v : AV} (ht : DTy h v) (hq : Q (.bl (isPlain v)) h) : wpC G (n + 4) 94 [v] h Q E := is_plain_spec0 ⟨c.c0, c.c34, c.c35, c.c36, c.g0, c.g1⟩ u.c26 u.c94 u.g7 u.g8 ht hq
def frP : AV → Bool := fun x => isFr x && (match x with | .tup (.int a :: _) => decide (0 < a) | _ => false)
def isTold : AV → Bool | .tup [x, y] => frP x && isPlain y | _ => false
theorem is_told_spec (c : CDn G) (k : CFm G) (u : CUn G) {v : AV} (ht : DTy h v) (hq : Q (.bl (isTold v)) h) : wpC G (n + 5) 145 [v] h Q E := by
  refine call_i u.c145 rfl ?_
  unfold c145_is_told_unit
  cases v with
  | ref a =>
    bv_omega
    rcases dty_ref.mp ht with ⟨xs, e⟩ | ⟨xs, e⟩
    · refine t_lst e ?_
      bv_omega
      exact shr_i hq
    · refine t_dK e ?_
      bv_omega
      exact shr_i hq
  | wt _ => exact (dty_wt ht).elim
  | tup xs =>
    obtain ⟨hl, hx⟩ := dty_tup.mp ht
    match xs, hx, hq with
    | [], _, hq => bv_omega; simp; exact shr_i hq
    | [_], _, hq => bv_omega; simp; exact shr_i hq
    | a :: b :: c :: r, _, hq =>
      bv_omega
      have e : ¬ (((r.length + 1 + 1 + 1 : Nat) : Int) = 2) := by omega
      simp only [e]
      bv_omega
      exact shr_i hq
    | [x, y], hx, hq =>
      have hq : Q (.bl (frP x && isPlain y)) h := hq
      bv_omega
      have e : ((0 + 1 + 1 : Nat) : Int) = 2 := rfl
      simp only [e]
      bv_omega
      refine is_fraction_spec k.c0 k.c1 k.c2 (hx x (by simp)).tydt ?_
      cases ef : isFr x with
      | false =>
        bv_omega
        have e0 : frP x = false := by unfold frP; rw [ef, Bool.false_and]
        rw [e0, Bool.false_and] at hq
        exact shr_i hq
      | true =>
        obtain ⟨a, b, rfl⟩ := isFr_shape ef
        have hq : Q (.bl ((isFr (.tup [.int a, .int b]) && decide (0 < a)) && isPlain y)) h := hq
        rw [ef, Bool.true_and] at hq
        bv_omega
        cases ea : decide (0 < a) with
        | false =>
          rw [ea, Bool.false_and] at hq
          have : ¬ 0 < a := of_decide_eq_false ea
          try simp only [this]
          bv_omega
          exact shr_i hq
        | true =>
          rw [ea, Bool.true_and] at hq
          have : 0 < a := of_decide_eq_true ea
          try simp only [this]
          bv_omega
          exact is_plain_spec (n := n) c u (hx y (by simp)) (shr_i hq)
  | _ =>
    bv_omega
    exact shr_i hq
def toldP : AV → Bool | .tup [_, y] => isTold y | _ => false
def isSys (v : AV) : Bool := areNP v && match v with | .tup xs => decide (1 ≤ xs.length ∧ xs.length ≤ 20) && xs.all toldP | _ => false
theorem is_system_spec (c : CDn G) (k : CFm G) (u : CUn G) {v : AV} (ht : DTy h v) (hq : Q (.bl (isSys v)) h) : wpC G (n + 6) 146 [v] h Q E := by
  refine call_i u.c146 rfl ?_
  unfold c146_is_system
  bv_omega
  refine are_named_pairs_spec (n := n + 3) c.c34 c.c35 c.g0 c.g1 ht ?_
  cases ed : areNP v with
  | false =>
    bv_omega
    have : isSys v = false := by unfold isSys; rw [ed, Bool.false_and]
    rw [this] at hq
    exact shr_i hq
  | true =>
    obtain ⟨xs, rfl, hn⟩ := areNP_tup ed
    obtain ⟨hl, hd⟩ := dty_tup.mp ht
    have hq : Q (.bl (areNP (.tup xs) && (decide (1 ≤ xs.length ∧ xs.length ≤ 20) && xs.all toldP))) h := hq
    rw [ed, Bool.true_and] at hq
    bv_omega
    by_cases h1 : 1 ≤ xs.length
    · rw [if_pos (by omega)]
      refine ⟨_, u.g19, ?_⟩
      bv_omega
      by_cases h2 : xs.length ≤ 20
      · have e : ((xs.length : Int) ≤ 20) := by omega
        simp only [e]
        rw [decide_eq_true ⟨h1, h2⟩, Bool.true_and] at hq
        bv_omega
        refine all_comp (wpC_mono G (n + 5)) ?_
        bv_omega
        refine ⟨hl, fun _ _ => trivial, toldP, fun x hx' h2 l => ?_, fun h2 l => shr_le l hq⟩
        obtain ⟨s, y, rfl, _⟩ := isNP_key (List.all_eq_true.mp hn x hx')
        have dy := ((dty_tup.mp (hd _ hx')).2 y (by simp)).mono l
        refine g_tupR rfl ?_
        bv_omega
        exact is_told_spec (n := n) c k u dy ⟨rfl, ALe.refl⟩
      · have e : ¬ ((xs.length : Int) ≤ 20) := by omega
        simp only [e]
        rw [decide_eq_false (fun h => h2 h.2), Bool.false_and] at hq
        bv_omega
        exact shr_i hq
    · rw [if_neg (by omega)]
      rw [decide_eq_false (fun h => h1 h.1), Bool.false_and] at hq
      exact shr_i hq
theorem check_system_spec (c : CDn G) (k : CFm G) (u : CUn G) {v : AV} (ht : DTy h v) (hq : isSys v = true → Q .non h) (he : isSys v = false → E ⟨11, []⟩ h) : wpC G (n + 7) 147 [v] h Q E := by
  refine call_i u.c147 rfl ?_
  unfold c147_check_system
  bv_omega
  refine is_system_spec (n := n) c k u ht ?_
  cases e : isSys v with
  | true =>
    bv_omega
    exact shr_i (hq e)
  | false =>
    bv_omega
    exact shr_i (he e)
abbrev Sy := NM (Rat × Dm)
def uv (x : Rat × Dm) : AV := .tup [fr x.1, dm x.2]
def sy (s : Sy) : AV := np uv s
structure YOk (U N : List Str) (a k : Nat) (s : Sy) : Prop where
  asc : Asc s
  ok : ∀ p ∈ s, 0 < p.2.1 ∧ Sz a p.2.1 ∧ DOk N k p.2.2
  sub : ∀ p ∈ s, p.1 ∈ U
  n1 : 1 ≤ s.length
  n2 : s.length ≤ 20
def facs (s : Sy) : Wm := s.map fun p => (p.1, p.2.1)
def ud (s : Sy) (b : Str) : Dm := ((s.lookup b).map (·.2)).getD []
theorem facs_lookup (s : Sy) (b : Str) : (facs s).lookup b = (s.lookup b).map (·.1) := by
  induction s with
  | nil => rfl
  | cons p s ih =>
    unfold facs at ih ⊢
    rw [List.map_cons, List.lookup_cons, List.lookup_cons]
    cases e : (b == p.1) with
    | true => rfl
    | false => exact ih
theorem YOk.fac {U N : List Str} {a k : Nat} {s : Sy} (o : YOk U N a k s) : SOk U a (facs s) := by
  refine ⟨?_, fun p hp => ?_, fun p hp => ?_⟩
  · unfold Asc facs
    rw [List.pairwise_map]
    exact o.asc
  · obtain ⟨q, hq, rfl⟩ := List.mem_map.mp hp
    exact ⟨(o.ok q hq).1, (o.ok q hq).2.1⟩
  · obtain ⟨q, hq, rfl⟩ := List.mem_map.mp hp
    exact o.sub q hq
theorem sy_get {s : Sy} {b : Str} (hb : b ∈ s.map (·.1)) : dget (s.map (kvf uv)) (.inr b) = some (.tup [fr (sv (facs s) b), dm (ud s b)]) := by
  rw [lookup_map_kv]
  unfold sv ud
  rw [facs_lookup]
  cases e : s.lookup b with
  | none =>
    obtain ⟨q, hq, rfl⟩ := List.mem_map.mp hb
    exfalso
    rw [List.lookup_eq_none_iff] at e
    have := e q hq
    simp at this
  | some v => rfl
theorem YOk.dim {U N : List Str} {a k : Nat} {s : Sy} (o : YOk U N a k s) (b : Str) : DOk N k (ud s b) := by
  unfold ud
  cases e : s.lookup b with
  | none => exact DOk.nil
  | some v => exact (o.ok _ (lookup_mem e)).2.2
theorem isPlain_dm {N : List Str} {k : Nat} {d : Dm} (hN : NmsOk N) (h6 : N.length ≤ 6) (o : DOk N k d) (h9 : ∀ p ∈ d, p.2.natAbs ≤ 9) : isPlain (dm d) = true := by
  show (isDim (dm d) && (decide ((d.map (prf AV.int)).length ≤ 6) && (d.map (prf AV.int)).all exp9)) = true
  rw [isDim_dm hN o, Bool.true_and, List.length_map, decide_eq_true (by have := o.len; omega), Bool.true_and, List.all_map, List.all_eq_true]
  intro p hp
  show (decide (-9 ≤ p.2) && decide (p.2 ≤ 9)) = true
  have := h9 p hp
  rw [decide_eq_true (by omega), decide_eq_true (by omega)]; rfl
theorem isSys_sy {U N : List Str} {a k : Nat} {s : Sy} (hU : NmsOk U) (hN : NmsOk N) (h6 : N.length ≤ 6) (o : YOk U N a k s) (hk : k ≤ 3) : isSys (sy s) = true := by
  show (areNP (np uv s) && (decide (1 ≤ (s.map (prf uv)).length ∧ (s.map (prf uv)).length ≤ 20) && (s.map (prf uv)).all toldP)) = true
  rw [areNP_np hU o.asc o.sub, Bool.true_and, List.length_map, decide_eq_true ⟨o.n1, o.n2⟩, Bool.true_and, List.all_map, List.all_eq_true]
  intro p hp
  obtain ⟨h1, h2, h3⟩ := o.ok p hp
  show ((isFr (fr p.2.1) && decide (0 < p.2.1.num)) && isPlain (dm p.2.2)) = true
  rw [isFr_fr, decide_eq_true (num_pos' h1), isPlain_dm hN h6 h3 fun q hq => ?_]; rfl
  have := (h3.nz q hq).2
  have : 2 ^ k ≤ 2 ^ 3 := Nat.pow_le_pow_right (by decide) hk
  omega
theorem dty_sy {U N : List Str} {a k : Nat} {s : Sy} (hU : NmsOk U) (hN : NmsOk N) (o : YOk U N a k s) : DTy h (sy s) := by
  refine dty_np hU (nks_len o.asc.nks o.sub) o.sub fun p hp => dty_tup.mpr ⟨by simp, fun y hy => ?_⟩
  simp at hy
  rcases hy with rfl | rfl
  · exact dty_fr _
  · exact dty_dm hN (o.ok p hp).2.2
end PL

namespace PL
open PySem PySem.Spec PyProof.Rows L2
variable {G : Pg} {n : Nat} {Q : AQ} {E : AXQ} {h : AH}
def FT : List (Str × AV) := [("num", .str "f"), ("told", .str "fd"), ("in", .str "i"), ("plus", .str "ee"), ("less", .str "ee"), ("times", .str "ee"), ("over", .str "ee"), ("power", .str "en"), ("call", .str "xE")]
structure CBk (G : Pg) : Prop where
  cd : CDm G
  c1 : G.code 1 = some f1
  c2 : G.code 2 = some f2
  c26 : G.code 26 = some f26
  c94 : G.code 94 = some f94
  c115 : G.code 115 = some f115
  c116 : G.code 116 = some f116
  c117 : G.code 117 = some f117
  c118 : G.code 118 = some f118
  c119 : G.code 119 = some f119
  c120 : G.code 120 = some f120
  c121 : G.code 121 = some f121
  c122 : G.code 122 = some f122
  c123 : G.code 123 = some f123
  c124 : G.code 124 = some f124
  c169 : G.code 169 = some f169
  g7 : G.T.gv 7 = some (.int 6)
  g8 : G.T.gv 8 = some (.int 9)
  g10 : G.T.gv 10 = some (.int 10000000000)
  g11 : G.T.gv 11 = some (.int 4)
  g12 : G.T.gv 12 = some (.int 40)
  g13 : G.T.gv 13 = some (.int 12)
  g14 : G.T.gv 14 = some (.str "in")
  g15 : G.T.gv 15 = some (.str "call")
  g16 : G.T.gv 16 = some (.str "power")
  g17 : G.T.gv 17 = some (.int 10)
  g18 : G.T.gv 18 = some (.int 200)
  d0 : G.T.dt 0 = some (("FORMS" : Str), FT)
theorem DTy.tydT {v : AV} (d : DTy h v) : TydT h v := by
  refine ⟨d.tyd, fun xs e x hx => ?_⟩
  subst e
  exact ((dty_tup.mp d).2 x hx).tyd
def T10 : Nat := 10000000000
theorem t10_lt {x : Nat} : ((x : Int) < 10000000000) ↔ x < T10 := ⟨fun h => Int.ofNat_lt.mp h, fun h => Int.ofNat_lt.mpr h⟩
theorem t10_int {x : Int} : (x < 10000000000) ↔ x < (T10 : Int) := Iff.rfl
def shortB (v : AV) : Bool := isFr v && match v with | .tup [.int a, .int b] => decide (a.natAbs < T10) && decide (b < (T10 : Int)) | _ => false
theorem isFr_ex {v : AV} (e : isFr v = true) : ∃ a b : Int, v = .tup [.int a, .int b] := by
  unfold isFr at e
  split at e
  · exact ⟨_, _, rfl⟩
  · cases e
theorem is_short_spec (c : CBk G) {v : AV} (ht : DTy h v) (hq : Q (.bl (shortB v)) h) : wpC G (n + 3) 115 [v] h Q E := by
  refine call_i c.c115 rfl ?_
  unfold c115_is_short
  bv_omega
  refine is_fraction_spec (n := n) c.cd.c0 c.c1 c.c2 ht.tydT ?_
  cases e : isFr v with
  | false =>
    have : shortB v = false := by unfold shortB; rw [e, Bool.false_and]
    rw [this] at hq
    bv_omega
    exact shr_i hq
  | true =>
    obtain ⟨a, b, rfl⟩ := isFr_ex e
    have hq : Q (.bl (isFr (.tup [.int a, .int b]) && (decide (a.natAbs < T10) && decide (b < (T10 : Int))))) h := hq
    rw [e, Bool.true_and] at hq
    bv_omega
    refine ⟨_, c.g10, ?_⟩
    bv_omega
    rw [nat_abs]
    simp only [t10_lt]
    cases e1 : decide (a.natAbs < T10) with
    | true =>
      simp only [e1, Bool.true_and] at hq
      rw [if_pos (of_decide_eq_true e1)]
      refine ⟨_, c.g10, ?_⟩
      bv_omega
      simp only [t10_int]
      exact shr_i hq
    | false =>
      simp only [e1, Bool.false_and] at hq
      rw [if_neg (of_decide_eq_false e1)]
      exact shr_i hq
def tupn (v : AV) : Bool := match v with | .tup xs => decide (1 ≤ xs.length) && decide (xs.length ≤ 4) | _ => false
def fpart (s : Str) (v : AV) : Bool := if s = "f" then shortB v else if s = "d" then isPlain v else if s = "i" then inV v 0 3 else if s = "n" then inV v 0 4 else if s = "x" then isName v else if s = "E" then tupn v else true
theorem sb_eq {s t : Str} : (s == t) = decide (s = t) := by
  by_cases e : s = t <;> simp [e]
theorem is_form_part_spec (c : CBk G) {s : Str} {v : AV} (hs : PyData.strOk s = true) (ht : DTy h v) (hq : Q (.bl (fpart s v)) h) : wpC G (n + 5) 169 [.str s, v] h Q E := by
  refine call_i c.c169 rfl ?_
  unfold c169_is_form_part
  unfold fpart at hq
  bv_omega
  refine ⟨⟨hs, by decide +kernel⟩, ?_⟩
  rw [sb_eq]
  by_cases e1 : s = "f"
  · simp only [e1, if_true, decide_true] at hq ⊢
    exact is_short_spec (n := n + 1) c ht (shr_i hq)
  simp only [e1, if_false, decide_false] at hq ⊢
  bv_omega
  refine ⟨⟨hs, by decide +kernel⟩, ?_⟩
  rw [sb_eq]
  by_cases e1 : s = "d"
  · simp only [e1, if_true, decide_true] at hq ⊢
    exact is_plain_spec0 (n := n) c.cd c.c26 c.c94 c.g7 c.g8 ht (shr_i hq)
  simp only [e1, if_false, decide_false] at hq ⊢
  bv_omega
  refine ⟨⟨hs, by decide +kernel⟩, ?_⟩
  rw [sb_eq]
  by_cases e1 : s = "i"
  · simp only [e1, if_true, decide_true] at hq ⊢
    refine ⟨_, c.g11, ?_⟩
    bv_omega
    exact is_within_spec (n := n + 2) c.cd.c0 c.c26 ht.tyd (shr_i hq)
  simp only [e1, if_false, decide_false] at hq ⊢
  bv_omega
  refine ⟨⟨hs, by decide +kernel⟩, ?_⟩
  rw [sb_eq]
  by_cases e1 : s = "n"
  · simp only [e1, if_true, decide_true] at hq ⊢
    exact is_within_spec (n := n + 2) c.cd.c0 c.c26 ht.tyd (shr_i hq)
  simp only [e1, if_false, decide_false] at hq ⊢
  bv_omega
  refine ⟨⟨hs, by decide +kernel⟩, ?_⟩
  rw [sb_eq]
  by_cases e1 : s = "x"
  · simp only [e1, if_true, decide_true] at hq ⊢
    exact is_name_spec (n := n + 3) c.cd.c34 c.cd.g0 c.cd.g1 ht (shr_i hq)
  simp only [e1, if_false, decide_false] at hq ⊢
  bv_omega
  refine ⟨⟨hs, by decide +kernel⟩, ?_⟩
  rw [sb_eq]
  by_cases e1 : s = "E"
  · simp only [e1, if_true, decide_true] at hq ⊢
    simp only [Bool.not_true, Bool.true_eq_false, Bool.false_eq_true, if_false]
    cases v with
    | tup xs =>
      have hq : Q (.bl (decide (1 ≤ xs.length) && decide (xs.length ≤ 4))) h := hq
      bv_omega
      by_cases e2 : 1 ≤ xs.length
      · have e3 : (1 : Int) ≤ (xs.length : Int) := by omega
        simp only [e3]
        bv_omega
        refine ⟨_, c.g11, ?_⟩
        bv_omega
        rw [decide_eq_true e2, Bool.true_and] at hq
        have e4 : decide ((xs.length : Int) ≤ 4) = decide (xs.length ≤ 4) := by apply decide_eq_decide.mpr; omega
        rw [e4]
        exact shr_i hq
      · have e3 : ¬ (1 : Int) ≤ (xs.length : Int) := by omega
        simp only [e3]
        bv_omega
        rw [decide_eq_false e2, Bool.false_and] at hq
        exact shr_i hq
    | ref a =>
      rcases dty_ref.mp ht with ⟨xs, e⟩ | ⟨xs, e⟩
      · refine t_lst e ?_
        bv_omega
        exact shr_i hq
      · refine t_dK e ?_
        bv_omega
        exact shr_i hq
    | wt _ => exact (dty_wt ht).elim
    | _ =>
      bv_omega
      exact shr_i hq
  simp only [e1, if_false, decide_false] at hq ⊢
  bv_omega
  exact shr_i hq
end PL

namespace PL
open PySem PySem.Spec PyProof.Rows L2
variable {G : Pg} {n : Nat} {Q : AQ} {E : AXQ} {h : AH}
def signs (z : Str) : List AV := z.cps.toList.map fun c => .str ⟨#[c]⟩
def fP : AV → Bool | .wt [.str s, v] => fpart s v | _ => false
def hasForm : AV → Bool
  | .tup (.str w :: r) => match FT.lookup w with
    | some (.str z) => decide (r.length = z.length) && (zipL (signs z) r).all fP
    | _ => false
  | _ => false
theorem ft_str {w : Str} {a : AV} (e : FT.lookup w = some a) : ∃ z : Str, a = .str z ∧ z.length ≤ 2 ∧ ∀ c ∈ z.cps.toList, PyData.strOk ⟨#[c]⟩ = true := by
  have m := lookup_mem' e
  have all : ∀ p ∈ FT, ∃ z : Str, p.2 = .str z ∧ z.length ≤ 2 ∧ ∀ c ∈ z.cps.toList, PyData.strOk ⟨#[c]⟩ = true := by
    intro p hp
    simp only [FT, List.mem_cons, List.not_mem_nil, or_false] at hp
    rcases hp with rfl | rfl | rfl | rfl | rfl | rfl | rfl | rfl | rfl <;> exact ⟨_, rfl, by decide +kernel, by decide +kernel⟩
  exact all _ m
theorem acut1 {x : AV} {r : List AV} : acut (x :: r) (some 1) none = r := by
  unfold acut
  have e1 : HT.sIx (x :: r).length 0 (some 1) = 1 := by
    show HT.sIx (r.length + 1) 0 (some 1) = 1
    simp [HT.sIx]
  have e2 : HT.sIx (x :: r).length (x :: r).length none = (x :: r).length := by simp [HT.sIx]
  rw [e1, e2]
  simp
theorem zip_wt : ∀ {xs ys : List AV} {z : AV}, z ∈ zipL xs ys → ∃ x y, x ∈ xs ∧ y ∈ ys ∧ z = .wt [x, y] := fun h => zip_mem h
theorem has_form_spec (c : CBk G) {v : AV} (ht : DTy h v) (hq : Q (.bl (hasForm v)) h) : wpC G (n + 6) 116 [v] h Q E := by
  refine call_i c.c116 rfl ?_
  unfold c116_has_form
  cases v with
  | tup xs =>
    obtain ⟨hl, hx⟩ := dty_tup.mp ht
    bv_omega
    cases xs with
    | nil =>
      bv_omega
      exact shr_i hq
    | cons x r =>
      have e0 : ¬ (((x :: r).length : Int) = 0) := by rw [List.length_cons]; omega
      rw [List.length_cons] at e0
      bv_omega
      simp only [e0]
      bv_omega
      have dx := hx x List.mem_cons_self
      cases x with
      | str w =>
        bv_omega
        refine ⟨_, c.d0, ?_⟩
        bv_omega
        have hq : Q (.bl (match FT.lookup w with | some (.str z) => decide (r.length = z.length) && (zipL (signs z) r).all fP | _ => false)) h := hq
        cases el : FT.lookup w with
        | none =>
          rw [el] at hq
          simp only [Option.isSome_none, Bool.not_false]
          bv_omega
          exact shr_i hq
        | some a =>
          rw [el] at hq
          obtain ⟨z, rfl, hz, hc⟩ := ft_str el
          have hq : Q (.bl (decide (r.length = z.length) && (zipL (signs z) r).all fP)) h := hq
          simp only [Option.isSome_some, Bool.not_true]
          bv_omega
          refine ⟨_, c.d0, ?_⟩
          bv_omega
          refine ⟨_, el, ?_⟩
          bv_omega
          refine ⟨len_small (by omega), ?_⟩
          have hz2 : z.cps.toList.length ≤ 2 := by simpa [Str.length] using hz
          by_cases e1 : r.length = z.length
          · have e2 : ((r.length + 1 : Nat) : Int) = 1 + (z.length : Int) := by omega
            rw [decide_eq_true e1, Bool.true_and] at hq
            simp only [e2]
            bv_omega
            refine all_comp (wpC_mono G (n + 5)) ?_
            bv_omega
            rw [acut1]
            have hq : Q (.bl ((zipL (z.cps.toList.map fun c => .str ⟨#[c]⟩) r).all fP)) h := hq
            refine ⟨by rw [zipL_len, List.length_map]; omega, fun _ _ => by simp, fP, fun x hx' h2 l => ?_, fun h2 l => shr_le l hq⟩
            obtain ⟨a, y, ha, hy, rfl⟩ := zip_wt hx'
            obtain ⟨ch, hch, rfl⟩ := List.mem_map.mp ha
            refine g_wtR rfl ?_
            bv_omega
            exact is_form_part_spec (n := n) c (hc ch hch) ((hx y (List.mem_cons_of_mem _ hy)).mono l) ⟨rfl, ALe.refl⟩
          · have e2 : ¬ ((r.length + 1 : Nat) : Int) = 1 + (z.length : Int) := by omega
            rw [decide_eq_false e1, Bool.false_and] at hq
            simp only [e2]
            first | exact shr_i hq | (bv_omega; exact shr_i hq)
      | ref a =>
        bv_omega
        rcases dty_ref.mp dx with ⟨xs, e⟩ | ⟨xs, e⟩
        · refine t_lst e ?_
          bv_omega
          exact shr_i hq
        · refine t_dK e ?_
          bv_omega
          exact shr_i hq
      | wt _ => exact (dty_wt dx).elim
      | _ =>
        bv_omega
        exact shr_i hq
  | ref a =>
    bv_omega
    rcases dty_ref.mp ht with ⟨xs, e⟩ | ⟨xs, e⟩
    · refine t_lst e ?_
      bv_omega
      exact shr_i hq
    · refine t_dK e ?_
      bv_omega
      exact shr_i hq
  | wt _ => exact (dty_wt ht).elim
  | _ =>
    bv_omega
    exact shr_i hq
theorem for_i {C : ACall} (hC : CMono C) {T : Tb} {sub : Nat → Nat → Bool} {g it : CE} {b : CS} {D : AEnds} {σ : AEnv} {h : AH} (q : wpI C T it σ h (fun xs chk h1 => ∃ I : List AV → AEnv → AH → Prop, I xs σ h1 ∧ (∀ σ h, I [] σ h → chk h ∧ D.nx σ h) ∧
      ∀ x xs σ h, I (x :: xs) σ h → chk h ∧ wpG C T g x σ h fun σ2 h2 => wpB C T sub b { D with nx := I xs, ct := I xs, bk := D.nx } σ2 h2) (fun x h' => D.ex x σ h')) : wpS C T sub (.forr g it b) D σ h := by
  show wpI C T it σ h _ _
  refine wpI_mono hC it (fun xs chk h1 q => ?_) (fun _ _ z => z) q
  obtain ⟨I, i0, hz, hs⟩ := q
  exact for_go hC I hz hs xs σ h1 i0
def tupItems : AV → List AV | .tup xs => xs | _ => []
def partsZ : List AV → List AV
  | .wt [.str s, v] :: r => (if s = "e" then [v] else if s = "E" then tupItems v else []) ++ partsZ r
  | _ => []
def partsA : AV → List AV
  | .tup (.str w :: r) => match FT.lookup w with
    | some (.str z) => partsZ (zipL (signs z) r)
    | _ => []
  | _ => []
theorem hasForm_ex {v : AV} (e : hasForm v = true) : ∃ (w z : Str) (r : List AV), v = .tup (.str w :: r) ∧ FT.lookup w = some (.str z) ∧ r.length = z.length ∧ (zipL (signs z) r).all fP = true := by
  unfold hasForm at e
  split at e
  · split at e
    · rename_i w r z el
      rw [Bool.and_eq_true, decide_eq_true_eq] at e
      exact ⟨_, _, _, rfl, el, e.1, e.2⟩
    · cases e
  · cases e
theorem partsZ_small : ∀ {zs : List AV}, zs.all fP = true → (partsZ zs).length ≤ 4 * zs.length ∧ ∀ {h : AH}, (∀ x ∈ zs, ∀ s v, x = .wt [.str s, v] → DTy h v) → ∀ y ∈ partsZ zs, DTy h y
  | [], _ => ⟨by simp [partsZ], fun _ y hy => by simp [partsZ] at hy⟩
  | x :: zs, e => by
    rw [List.all_cons, Bool.and_eq_true] at e
    obtain ⟨ih1, ih2⟩ := partsZ_small e.2
    have hx : ∃ s v, x = .wt [.str s, v] := by
      have e1 := e.1
      unfold fP at e1
      split at e1
      · exact ⟨_, _, rfl⟩
      · cases e1
    obtain ⟨s, v, rfl⟩ := hx
    have e1 : fpart s v = true := e.1
    have key : ((if s = "e" then [v] else if s = "E" then tupItems v else []) : List AV).length ≤ 4 ∧ ∀ {h : AH}, DTy h v → ∀ y ∈ ((if s = "e" then [v] else if s = "E" then tupItems v else []) : List AV), DTy h y := by
      by_cases q1 : s = "e"
      · simp only [q1, if_true]
        exact ⟨by simp, fun d y hy => by rw [List.mem_singleton.mp hy]; exact d⟩
      · simp only [q1, if_false]
        by_cases q2 : s = "E"
        · simp only [q2, if_true]
          subst q2
          have e2 : tupn v = true := e1
          unfold tupn at e2
          split at e2
          · rename_i xs
            simp only [Bool.and_eq_true, decide_eq_true_eq] at e2
            exact ⟨e2.2, fun d y hy => (dty_tup.mp d).2 y hy⟩
          · cases e2
        · simp only [q2, if_false]
          exact ⟨by simp, fun d y hy => by cases hy⟩
    refine ⟨?_, fun hd y hy => ?_⟩
    · show (_ ++ partsZ zs).length ≤ _
      rw [List.length_append, List.length_cons]
      have := key.1
      omega
    · rcases List.mem_append.mp (show y ∈ _ ++ partsZ zs from hy) with hy | hy
      · exact key.2 (hd _ List.mem_cons_self s v rfl) y hy
      · exact ih2 (fun x hx => hd x (List.mem_cons_of_mem _ hx)) y hy
theorem partsZ_snoc : ∀ {zs : List AV}, zs.all fP = true → ∀ (ch : Nat) (y : AV), partsZ (zs ++ [.wt [.str ⟨#[ch]⟩, y]]) = partsZ zs ++ (if (⟨#[ch]⟩ : Str) = "e" then [y] else if (⟨#[ch]⟩ : Str) = "E" then tupItems y else [])
  | [], _, ch, y => by
    show (if (⟨#[ch]⟩ : Str) = "e" then [y] else if (⟨#[ch]⟩ : Str) = "E" then tupItems y else []) ++ [] = [] ++ _
    rw [List.append_nil, List.nil_append]
  | x :: zs, e, ch, y => by
    rw [List.all_cons, Bool.and_eq_true] at e
    have hx : ∃ s v, x = .wt [.str s, v] := by
      have e1 := e.1
      unfold fP at e1
      split at e1
      · exact ⟨_, _, rfl⟩
      · cases e1
    obtain ⟨s, v, rfl⟩ := hx
    show (if s = "e" then [v] else if s = "E" then tupItems v else []) ++ partsZ (zs ++ _) = ((if s = "e" then [v] else if s = "E" then tupItems v else []) ++ partsZ zs) ++ _
    rw [partsZ_snoc e.2 ch y, List.append_assoc]
theorem zip_dty {h : AH} {z : Str} {r : List AV} (hr : ∀ y ∈ r, DTy h y) : ∀ x ∈ zipL (signs z) r, ∀ s v, x = .wt [.str s, v] → DTy h v := by
  intro x hx s v e
  obtain ⟨a, y, _, hy, rfl⟩ := zip_wt hx
  simp only [AV.wt.injEq, List.cons.injEq, and_true] at e
  rw [← e.2]
  exact hr y hy
theorem parts_small {v : AV} (e : hasForm v = true) : (partsA v).length ≤ 8 ∧ ∀ {h : AH}, DTy h v → ∀ y ∈ partsA v, DTy h y := by
  obtain ⟨w, z, r, rfl, el, hl, ha⟩ := hasForm_ex e
  obtain ⟨p1, p2⟩ := partsZ_small ha
  have ep : partsA (.tup (.str w :: r)) = partsZ (zipL (signs z) r) := by show (match FT.lookup w with | some (.str z) => partsZ (zipL (signs z) r) | _ => []) = _; rw [el]
  rw [ep]
  obtain ⟨z', ez, hz, _⟩ := ft_str el
  cases ez
  refine ⟨?_, fun d y hy => p2 (zip_dty fun y hy => (dty_tup.mp d).2 y (List.mem_cons_of_mem _ hy)) y hy⟩
  rw [zipL_len] at p1
  omega
theorem raw_parts_spec (c : CBk G) {v : AV} (hf : hasForm v = true) (ht : DTy h v) (hq : ∀ p h', ALe h h' → h p = none → h' p = some (.lst (partsA v)) → Q (.ref p) h') : wpC G (n + 1) 117 [v] h Q E := by
  refine call_i c.c117 rfl ?_
  unfold c117_raw_parts
  obtain ⟨sm, _⟩ := parts_small hf
  obtain ⟨w, z, r, rfl, el, hl, ha⟩ := hasForm_ex hf
  obtain ⟨_, ez, hz, hc⟩ := ft_str el
  cases ez
  have ep : partsA (.tup (.str w :: r)) = partsZ (zipL (signs z) r) := by show (match FT.lookup w with | some (.str z) => partsZ (zipL (signs z) r) | _ => []) = _; rw [el]
  rw [ep] at sm hq
  obtain ⟨hrl, hr⟩ := dty_tup.mp ht
  bv_omega
  intro p hp
  refine for_i (wpC_mono G n) ?_
  bv_omega
  refine ⟨_, c.d0, ?_⟩
  bv_omega
  refine ⟨_, el, ?_⟩
  rw [acut1]
  bv_omega
  refine ⟨fun rest σ h' => ∃ done, zipL (signs z) r = done ++ rest ∧ (∃ a b, σ = [some (.tup (.str w :: r)), some (.ref p), a, b]) ∧ ALe h h' ∧ h' p = some (.lst (partsZ done)), ⟨[], rfl, ⟨_, _, rfl⟩, ALe.fresh hp, aupd_same⟩, ?_, ?_⟩
  · rintro σ h' ⟨done, e, ⟨a, b, rfl⟩, l, e2⟩
    rw [List.append_nil] at e
    rw [e] at hq
    exact ⟨_, rfl, shr_i (hq p h' l hp e2)⟩
  · rintro x rest σ h' ⟨done, e, ⟨a, b, rfl⟩, l, e2⟩
    have mx : x ∈ zipL (signs z) r := by rw [e]; simp
    obtain ⟨sg, y, hsg, hy, rfl⟩ := zip_wt mx
    obtain ⟨ch, hch, rfl⟩ := List.mem_map.mp hsg
    have fx : fpart ⟨#[ch]⟩ y = true := List.all_eq_true.mp ha _ mx
    have fd : done.all fP = true := by
      have := ha
      rw [e, List.all_append, Bool.and_eq_true] at this
      exact this.1
    have ld : done.length ≤ 2 := by
      have h1 : (zipL (signs z) r).length = done.length + (rest.length + 1) := by rw [e]; simp
      rw [zipL_len] at h1
      omega
    have sz := (partsZ_small fd).1
    have snoc := partsZ_snoc fd ch y
    have so : PyData.strOk ⟨#[ch]⟩ = true := hc ch hch
    have more : ∀ h2 xs, ALe h h2 → h2 p = some (.lst xs) → xs = partsZ (done ++ [.wt [.str ⟨#[ch]⟩, y]]) → ∃ done', zipL (signs z) r = done' ++ rest ∧ (∃ a b, [some (.tup (.str w :: r)), some (.ref p), some (.str ⟨#[ch]⟩), some y] = [some (AV.tup (.str w :: r)), some (.ref p), a, b]) ∧ ALe h h2 ∧ h2 p = some (.lst (partsZ done')) := fun h2 xs l2 e3 ex =>
      ⟨done ++ [.wt [.str ⟨#[ch]⟩, y]], by rw [e]; simp, ⟨_, _, rfl⟩, l2, by rw [e3, ex]⟩
    refine g_wtR rfl ?_
    bv_omega
    refine ⟨⟨so, by decide +kernel⟩, ?_⟩
    rw [sb_eq]
    by_cases q1 : (⟨#[ch]⟩ : Str) = "e"
    · simp only [q1, decide_true, if_true] at snoc more ⊢
      bv_omega
      refine ⟨ms_app e2, m_app e2 (len_small (by omega)) ?_⟩
      refine more _ _ ?_ aupd_same ?_
      · intro a o ea
        rw [aupd_ne (by rintro rfl; rw [hp] at ea; cases ea)]
        exact l a o ea
      · rw [snoc]
    · simp only [q1, decide_false, if_false, Bool.false_eq_true] at snoc ⊢
      bv_omega
      refine ⟨⟨so, by decide +kernel⟩, ?_⟩
      rw [sb_eq]
      by_cases q2 : (⟨#[ch]⟩ : Str) = "E"
      · simp only [q2, decide_true, if_true] at snoc more ⊢
        have e3 : tupn y = true := by
          rw [q2] at fx
          exact fx
        unfold tupn at e3
        split at e3
        · rename_i ys
          simp only [Bool.and_eq_true, decide_eq_true_eq] at e3
          bv_omega
          refine ⟨ms_app e2, ?_⟩
          intro p2 hp2
          have np : p ≠ p2 := by rintro rfl; rw [e2] at hp2; cases hp2
          refine ⟨p, p2, _, _, rfl, rfl, (aupd_ne np).trans e2, aupd_same, len_small (by omega), ?_⟩
          refine more _ _ ?_ aupd_same ?_
          · intro a o ea
            rw [aupd_ne (by rintro rfl; rw [hp] at ea; cases ea), aupd_ne (by rintro rfl; rw [l a o ea] at hp2; cases hp2)]
            exact l a o ea
          · rw [snoc]; rfl
        · cases e3
      · simp only [q2, decide_false, if_false, Bool.false_eq_true] at snoc ⊢
        bv_omega
        refine more _ _ l e2 ?_
        rw [snoc, List.append_nil]
end PL

namespace PL
open PySem PySem.Spec PyProof.Rows L2
inductive BW where | plus | less | times | over
  deriving DecidableEq
def bwS : BW → Str | .plus => "plus" | .less => "less" | .times => "times" | .over => "over"
inductive Nd where
  | num (x : Rat) | told (x : Rat) (d : Dm) | inn (i : Nat) | bin (w : BW) (a b : Nd) | pow (a : Nd) (k : Nat) | call (f : Str) (as : List Nd)
instance : Inhabited Nd := ⟨.inn 0⟩
mutual
def ndv : Nd → AV
  | .num x => .tup [.str "num", fr x]
  | .told x d => .tup [.str "told", fr x, dm d]
  | .inn i => .tup [.str "in", .int i]
  | .bin w a b => .tup [.str (bwS w), ndv a, ndv b]
  | .pow a k => .tup [.str "power", ndv a, .int k]
  | .call f as => .tup [.str "call", .str f, .tup (ndvs as)]
def ndvs : List Nd → List AV
  | [] => []
  | e :: es => ndv e :: ndvs es
end
theorem ndvs_map : ∀ es : List Nd, ndvs es = es.map ndv
  | [] => rfl
  | e :: es => by show ndv e :: ndvs es = _; rw [ndvs_map es]; rfl
def subs : Nd → List Nd
  | .bin _ a b => [a, b]
  | .pow a _ => [a]
  | .call _ as => as
  | _ => []
def shortQ (x : Rat) : Prop := x.num.natAbs < T10 ∧ x.den < T10
def fok : Nd → Prop
  | .num x => shortQ x
  | .told x d => shortQ x ∧ isPlain (dm d) = true
  | .inn i => i < 4
  | .bin _ _ _ => True
  | .pow _ k => k ≤ 4
  | .call f as => nameOk f = true ∧ 1 ≤ as.length ∧ as.length ≤ 4
mutual
def Nd.cnt : Nd → Nat
  | .num _ => 1 | .told _ _ => 1 | .inn _ => 1
  | .bin _ a b => a.cnt + b.cnt + 1
  | .pow a _ => a.cnt + 1
  | .call _ as => Nd.cnts as + 1
def Nd.cnts : List Nd → Nat
  | [] => 0
  | e :: es => e.cnt + Nd.cnts es
end
mutual
def Nd.dep : Nd → Nat
  | .num _ => 1 | .told _ _ => 1 | .inn _ => 1
  | .bin _ a b => max a.dep b.dep + 1
  | .pow a _ => a.dep + 1
  | .call _ as => Nd.deps as + 1
def Nd.deps : List Nd → Nat
  | [] => 0
  | e :: es => max e.dep (Nd.deps es)
end
mutual
def AOk : Nd → Prop
  | .num x => fok (.num x)
  | .told x d => fok (.told x d)
  | .inn i => fok (.inn i)
  | .bin _ a b => AOk a ∧ AOk b
  | .pow a k => k ≤ 4 ∧ AOk a
  | .call f as => fok (.call f as) ∧ AOks as
def AOks : List Nd → Prop
  | [] => True
  | e :: es => AOk e ∧ AOks es
end
theorem cnts_sum : ∀ es : List Nd, Nd.cnts es = (es.map Nd.cnt).sum
  | [] => rfl
  | e :: es => by show e.cnt + Nd.cnts es = _; rw [cnts_sum es]; rfl
theorem aoks_all : ∀ {es : List Nd}, AOks es ↔ ∀ e ∈ es, AOk e
  | [] => by unfold AOks; simp
  | e :: es => by
    unfold AOks
    rw [aoks_all (es := es)]
    simp
theorem deps_le : ∀ {es : List Nd} {k : Nat}, Nd.deps es ≤ k ↔ ∀ e ∈ es, e.dep ≤ k
  | [], k => by unfold Nd.deps; simp
  | e :: es, k => by
    unfold Nd.deps
    rw [Nat.max_le, deps_le (es := es)]
    simp
theorem AOk.fok {e : Nd} (o : AOk e) : fok e := by
  cases e <;> simp only [AOk] at o <;> first | exact o | exact trivial | exact o.1
theorem aok_iff {e : Nd} : AOk e ↔ fok e ∧ ∀ s ∈ subs e, AOk s := by
  cases e with
  | num x => simp [AOk, subs]
  | told x d => simp [AOk, subs]
  | inn i => simp [AOk, subs]
  | bin w a b => simp [AOk, subs, fok]
  | pow a k => simp [AOk, subs, fok]
  | call f as => simp only [AOk, subs]; rw [aoks_all]
theorem cnt_subs (e : Nd) : e.cnt = ((subs e).map Nd.cnt).sum + 1 := by
  cases e with
  | num x => rfl
  | told x d => rfl
  | inn i => rfl
  | bin w a b => simp [Nd.cnt, subs]
  | pow a k => simp [Nd.cnt, subs]
  | call f as => simp only [Nd.cnt, subs]; rw [cnts_sum]
theorem dep_subs {e : Nd} {k : Nat} : e.dep ≤ k + 1 ↔ ∀ s ∈ subs e, s.dep ≤ k := by
  cases e with
  | num x => simp [Nd.dep, subs]
  | told x d => simp [Nd.dep, subs]
  | inn i => simp [Nd.dep, subs]
  | bin w a b => simp [Nd.dep, subs]; omega
  | pow a k => simp [Nd.dep, subs]
  | call f as => simp only [Nd.dep, subs, Nat.add_le_add_iff_right]; rw [deps_le]
theorem dep_pos (e : Nd) : 1 ≤ e.dep := by cases e <;> simp [Nd.dep]
theorem cnt_pos (e : Nd) : 1 ≤ e.cnt := by rw [cnt_subs]; omega
theorem shortB_fr {x : Rat} : shortB (fr x) = true ↔ shortQ x := by
  unfold shortB
  rw [isFr_fr, Bool.true_and]
  show (decide (x.num.natAbs < T10) && decide ((x.den : Int) < (T10 : Int))) = true ↔ _
  rw [Bool.and_eq_true, decide_eq_true_eq, decide_eq_true_eq]
  unfold shortQ
  constructor
  · rintro ⟨a, b⟩; exact ⟨a, Int.ofNat_lt.mp b⟩
  · rintro ⟨a, b⟩; exact ⟨a, Int.ofNat_lt.mpr b⟩
theorem isFr_val {v : AV} (e : isFr v = true) : ∃ q : Rat, v = fr q := by
  unfold isFr at e
  split at e
  · rename_i a b
    rw [Bool.and_eq_true, decide_eq_true_eq, decide_eq_true_eq] at e
    refine ⟨⟨a, b.toNat, by omega, ?_⟩, ?_⟩
    · have : b.natAbs = b.toNat := by omega
      rw [← this]; exact e.2
    · show AV.tup [.int a, .int b] = .tup [.int a, .int (b.toNat : Int)]
      have : (b.toNat : Int) = b := by omega
      rw [this]
  · cases e
theorem isDim_val {v : AV} (e : isDim v = true) : ∃ d : Dm, v = dm d := by
  unfold isDim at e
  rw [Bool.and_eq_true] at e
  obtain ⟨e1, e2⟩ := e
  unfold areNP at e1
  split at e1
  · rename_i xs
    rw [Bool.and_eq_true] at e1
    have hn := e1.1
    have he : xs.all expOk = true := e2
    clear e1 e2
    induction xs with
    | nil => exact ⟨[], rfl⟩
    | cons x xs ih =>
      rw [List.all_cons, Bool.and_eq_true] at hn he
      obtain ⟨d, ed⟩ := ih hn.2 he.2
      obtain ⟨s, y, rfl, _⟩ := isNP_key hn.1
      have hy : expOk (.tup [.str s, y]) = true := he.1
      cases y with
      | int m =>
        refine ⟨(s, m) :: d, ?_⟩
        have ed : AV.tup xs = .tup (d.map (prf AV.int)) := ed
        cases ed
        rfl
      | _ => cases hy
  · cases e1
theorem isPlain_dim {v : AV} (e : isPlain v = true) : isDim v = true := by
  unfold isPlain at e
  rw [Bool.and_eq_true] at e
  exact e.1
theorem sg1 {c : Nat} {v : AV} : (zipL (signs ⟨#[c]⟩) [v]).all fP = fpart ⟨#[c]⟩ v := by
  show (fP (.wt [.str ⟨#[c]⟩, v]) && true) = _
  rw [Bool.and_true]; rfl
theorem sg2 {c d : Nat} {v w : AV} : (zipL (signs ⟨#[c, d]⟩) [v, w]).all fP = (fpart ⟨#[c]⟩ v && fpart ⟨#[d]⟩ w) := by
  show (fP (.wt [.str ⟨#[c]⟩, v]) && (fP (.wt [.str ⟨#[d]⟩, w]) && true)) = _
  rw [Bool.and_true]; rfl
theorem fp_f {v : AV} : fpart ⟨#[102]⟩ v = shortB v := rfl
theorem fp_d {v : AV} : fpart ⟨#[100]⟩ v = isPlain v := rfl
theorem fp_i {v : AV} : fpart ⟨#[105]⟩ v = inV v 0 3 := rfl
theorem fp_n {v : AV} : fpart ⟨#[110]⟩ v = inV v 0 4 := rfl
theorem fp_x {v : AV} : fpart ⟨#[120]⟩ v = isName v := rfl
theorem fp_E {v : AV} : fpart ⟨#[69]⟩ v = tupn v := rfl
theorem fp_e {v : AV} : fpart ⟨#[101]⟩ v = true := rfl
theorem form_num {v : AV} : hasForm (.tup [.str "num", v]) = shortB v := by
  show (decide (1 = 1) && (zipL (signs ⟨#[102]⟩) [v]).all fP) = _
  rw [sg1, fp_f]; rfl
theorem form_told {v w : AV} : hasForm (.tup [.str "told", v, w]) = (shortB v && isPlain w) := by
  show (decide (2 = 2) && (zipL (signs ⟨#[102, 100]⟩) [v, w]).all fP) = _
  rw [sg2, fp_f, fp_d]; rfl
theorem form_in {v : AV} : hasForm (.tup [.str "in", v]) = inV v 0 3 := by
  show (decide (1 = 1) && (zipL (signs ⟨#[105]⟩) [v]).all fP) = _
  rw [sg1, fp_i]; rfl
theorem form_bin {b : BW} {v w : AV} : hasForm (.tup [.str (bwS b), v, w]) = true := by
  cases b <;> rfl
theorem form_pow {v w : AV} : hasForm (.tup [.str "power", v, w]) = inV w 0 4 := by
  show (decide (2 = 2) && (zipL (signs ⟨#[101, 110]⟩) [v, w]).all fP) = _
  rw [sg2, fp_e, fp_n]; rfl
theorem form_call {v w : AV} : hasForm (.tup [.str "call", v, w]) = (isName v && tupn w) := by
  show (decide (2 = 2) && (zipL (signs ⟨#[120, 69]⟩) [v, w]).all fP) = _
  rw [sg2, fp_x, fp_E]; rfl
theorem hasForm_ndv {e : Nd} : hasForm (ndv e) = true ↔ fok e := by
  cases e with
  | num x => show hasForm (.tup [.str "num", fr x]) = true ↔ _; rw [form_num, shortB_fr]; rfl
  | told x d => show hasForm (.tup [.str "told", fr x, dm d]) = true ↔ _; rw [form_told, Bool.and_eq_true, shortB_fr]; rfl
  | inn i =>
    show hasForm (.tup [.str "in", .int i]) = true ↔ i < 4
    rw [form_in]
    show (decide ((0 : Int) ≤ i) && decide ((i : Int) ≤ 3)) = true ↔ _
    rw [Bool.and_eq_true, decide_eq_true_eq, decide_eq_true_eq]
    omega
  | bin w a b => show hasForm (.tup [.str (bwS w), ndv a, ndv b]) = true ↔ True; rw [form_bin]; simp
  | pow a k =>
    show hasForm (.tup [.str "power", ndv a, .int k]) = true ↔ k ≤ 4
    rw [form_pow]
    show (decide ((0 : Int) ≤ k) && decide ((k : Int) ≤ 4)) = true ↔ _
    rw [Bool.and_eq_true, decide_eq_true_eq, decide_eq_true_eq]
    omega
  | call f as =>
    show hasForm (.tup [.str "call", .str f, .tup (ndvs as)]) = true ↔ nameOk f = true ∧ 1 ≤ as.length ∧ as.length ≤ 4
    rw [form_call, Bool.and_eq_true]
    show (nameOk f = true ∧ (decide (1 ≤ (ndvs as).length) && decide ((ndvs as).length ≤ 4)) = true) ↔ _
    rw [Bool.and_eq_true, decide_eq_true_eq, decide_eq_true_eq, ndvs_map, List.length_map]
theorem parts_ndv (e : Nd) : partsA (ndv e) = (subs e).map ndv := by
  cases e with
  | num x => rfl
  | told x d => rfl
  | inn i => rfl
  | bin w a b => cases w <;> rfl
  | pow a k => rfl
  | call f as =>
    show (ndvs as ++ []) = as.map ndv
    rw [List.append_nil, ndvs_map]
theorem ft_cases {w z : Str} (e : FT.lookup w = some (.str z)) : (w = "num" ∧ z = "f") ∨ (w = "told" ∧ z = "fd") ∨ (w = "in" ∧ z = "i") ∨ (∃ b, w = bwS b ∧ z = "ee") ∨ (w = "power" ∧ z = "en") ∨ (w = "call" ∧ z = "xE") := by
  have m := lookup_mem' e
  simp only [FT, List.mem_cons, List.not_mem_nil, or_false, Prod.mk.injEq, AV.str.injEq] at m
  rcases m with ⟨rfl, rfl⟩ | ⟨rfl, rfl⟩ | ⟨rfl, rfl⟩ | ⟨rfl, rfl⟩ | ⟨rfl, rfl⟩ | ⟨rfl, rfl⟩ | ⟨rfl, rfl⟩ | ⟨rfl, rfl⟩ | ⟨rfl, rfl⟩
  · exact .inl ⟨rfl, rfl⟩
  · exact .inr (.inl ⟨rfl, rfl⟩)
  · exact .inr (.inr (.inl ⟨rfl, rfl⟩))
  · exact .inr (.inr (.inr (.inl ⟨.plus, rfl, rfl⟩)))
  · exact .inr (.inr (.inr (.inl ⟨.less, rfl, rfl⟩)))
  · exact .inr (.inr (.inr (.inl ⟨.times, rfl, rfl⟩)))
  · exact .inr (.inr (.inr (.inl ⟨.over, rfl, rfl⟩)))
  · exact .inr (.inr (.inr (.inr (.inl ⟨rfl, rfl⟩))))
  · exact .inr (.inr (.inr (.inr (.inr ⟨rfl, rfl⟩))))
theorem len1 {r : List AV} {z : Str} (h : r.length = z.length) (hz : z.length = 1) : ∃ x, r = [x] := by
  rw [hz] at h
  match r, h with
  | [x], _ => exact ⟨x, rfl⟩
theorem len2 {r : List AV} {z : Str} (h : r.length = z.length) (hz : z.length = 2) : ∃ x y, r = [x, y] := by
  rw [hz] at h
  match r, h with
  | [x, y], _ => exact ⟨x, y, rfl⟩
theorem inV_nat {v : AV} {k : Int} (e : inV v 0 k = true) : ∃ i : Nat, v = .int i ∧ (i : Int) ≤ k := by
  unfold inV at e
  split at e
  · rename_i i
    rw [Bool.and_eq_true, decide_eq_true_eq, decide_eq_true_eq] at e
    exact ⟨i.toNat, by congr 1; omega, by omega⟩
  · cases e
theorem parse1 {v : AV} (e : hasForm v = true) {ps : List Nd} (hp : partsA v = ps.map ndv) : ∃ e, v = ndv e ∧ fok e ∧ subs e = ps := by
  have e0 := e
  obtain ⟨w, z, r, rfl, el, hl, _⟩ := hasForm_ex e
  have fin : ∀ x : Nd, AV.tup (.str w :: r) = ndv x → (partsA (ndv x) = ps.map ndv → subs x = ps) → ∃ e, AV.tup (.str w :: r) = ndv e ∧ fok e ∧ subs e = ps := fun x ex k => ⟨x, ex, hasForm_ndv.mp (ex ▸ e0), k (ex ▸ hp)⟩
  rcases ft_cases el with ⟨rfl, rfl⟩ | ⟨rfl, rfl⟩ | ⟨rfl, rfl⟩ | ⟨b, rfl, rfl⟩ | ⟨rfl, rfl⟩ | ⟨rfl, rfl⟩
  · obtain ⟨x, rfl⟩ := len1 hl rfl
    rw [form_num] at e
    have e1 : isFr x = true := by unfold shortB at e; rw [Bool.and_eq_true] at e; exact e.1
    obtain ⟨q, rfl⟩ := isFr_val e1
    refine fin (.num q) rfl fun k => ?_
    rw [parts_ndv] at k
    cases ps with
    | nil => rfl
    | cons _ _ => cases k
  · obtain ⟨x, y, rfl⟩ := len2 hl rfl
    rw [form_told, Bool.and_eq_true] at e
    have e1 : isFr x = true := by have := e.1; unfold shortB at this; rw [Bool.and_eq_true] at this; exact this.1
    obtain ⟨q, rfl⟩ := isFr_val e1
    obtain ⟨d, rfl⟩ := isDim_val (isPlain_dim e.2)
    refine fin (.told q d) rfl fun k => ?_
    rw [parts_ndv] at k
    cases ps with
    | nil => rfl
    | cons _ _ => cases k
  · obtain ⟨x, rfl⟩ := len1 hl rfl
    rw [form_in] at e
    obtain ⟨i, rfl, hi⟩ := inV_nat e
    refine fin (.inn i) rfl fun k => ?_
    rw [parts_ndv] at k
    cases ps with
    | nil => rfl
    | cons _ _ => cases k
  · obtain ⟨x, y, rfl⟩ := len2 hl rfl
    have hp2 : [x, y] = ps.map ndv := by
      rw [← hp]; cases b <;> rfl
    match ps, hp2 with
    | [p, q], hp2 =>
      simp only [List.map_cons, List.map_nil, List.cons.injEq, and_true] at hp2
      obtain ⟨rfl, rfl⟩ := hp2
      exact fin (.bin b p q) rfl fun _ => rfl
  · obtain ⟨x, y, rfl⟩ := len2 hl rfl
    rw [form_pow] at e
    obtain ⟨k, rfl, hk⟩ := inV_nat e
    have hp2 : [x] = ps.map ndv := by rw [← hp]; rfl
    match ps, hp2 with
    | [p], hp2 =>
      simp only [List.map_cons, List.map_nil, List.cons.injEq, and_true] at hp2
      subst hp2
      exact fin (.pow p k) rfl fun _ => rfl
  · obtain ⟨x, y, rfl⟩ := len2 hl rfl
    rw [form_call, Bool.and_eq_true] at e
    obtain ⟨e1, e2⟩ := e
    cases x with
    | str f =>
      cases y with
      | tup ys =>
        have hp2 : ys ++ [] = ps.map ndv := by rw [← hp]; rfl
        rw [List.append_nil] at hp2
        refine fin (.call f ps) ?_ fun _ => rfl
        show _ = AV.tup [.str "call", .str f, .tup (ndvs ps)]
        rw [ndvs_map, hp2]
      | _ => cases e2
    | _ => cases e1
end PL

namespace PL
open PySem PySem.Spec PyProof.Rows L2
variable {G : Pg} {n : Nat} {Q : AQ} {E : AXQ} {h : AH}
def nx1 (d : Nat) (v : AV) : AV × Nat := (v, d)
def walkB : Nat → List (AV × Nat) → Bool
  | _, [] => true
  | 0, _ :: _ => false
  | k + 1, (v, d) :: st => decide (d ≤ 12) && hasForm v && walkB k (((partsA v).map (nx1 (d + 1))).reverse ++ st)
def hasSizeB (v : AV) : Bool := walkB 40 [(v, 1)]
def nf (p : Nd × Nat) : AV × Nat := (ndv p.1, p.2)
def nOk (p : Nd × Nat) : Prop := AOk p.1 ∧ p.1.dep + p.2 ≤ 13
theorem cnt_rev (ps : List Nd) (d : Nat) : ((((ps.map fun e => (e, d)).reverse).map fun p : Nd × Nat => p.1.cnt)).sum = (ps.map Nd.cnt).sum := by
  rw [List.map_reverse, List.sum_reverse, List.map_map]
  rfl
theorem walk_typed : ∀ (k : Nat) (st : List (AV × Nat)), walkB k st = true ↔ ∃ es : List (Nd × Nat), st = es.map nf ∧ (∀ p ∈ es, nOk p) ∧ (es.map fun p => p.1.cnt).sum ≤ k
  | k, [] => by
    have : walkB k [] = true := by cases k <;> rfl
    refine ⟨fun _ => ⟨[], rfl, fun _ hx => (List.not_mem_nil hx).elim, Nat.zero_le _⟩, fun _ => this⟩
  | 0, (v, d) :: st => by
    refine ⟨fun e => (by cases e), ?_⟩
    rintro ⟨es, e1, _, e2⟩
    cases es with
    | nil => cases e1
    | cons p es =>
      have := cnt_pos p.1
      rw [List.map_cons, List.sum_cons] at e2
      omega
  | k + 1, (v, d) :: st => by
    show (decide (d ≤ 12) && hasForm v && walkB k (((partsA v).map (nx1 (d + 1))).reverse ++ st)) = true ↔ _
    rw [Bool.and_eq_true, Bool.and_eq_true, decide_eq_true_eq, walk_typed k]
    constructor
    · rintro ⟨⟨hd, hf⟩, es, e1, e2, e3⟩
      obtain ⟨es1, es2, rfl, h1, h2⟩ := List.append_eq_map_iff.mp e1
      have hp : partsA v = (es1.map (·.1)).reverse.map ndv := by
        have := congrArg (fun l => (l.map Prod.fst).reverse) h1
        simp only [List.map_reverse, List.reverse_reverse, List.map_map] at this
        have l : (partsA v).map (Prod.fst ∘ nx1 (d + 1)) = partsA v := List.map_id _
        rw [List.map_reverse, List.map_map]
        have r : es1.map (Prod.fst ∘ nf) = es1.map (ndv ∘ (fun p : Nd × Nat => p.1)) := rfl
        rw [← r, this]
        exact l.symm
      have hdd : ∀ p ∈ es1, p.2 = d + 1 := by
        intro p hp
        have m : nf p ∈ es1.map nf := List.mem_map_of_mem hp
        rw [h1] at m
        obtain ⟨y, hy, ey⟩ := List.mem_map.mp (List.mem_reverse.mp m)
        have := congrArg Prod.snd ey
        exact this.symm
      obtain ⟨e, rfl, fe, se⟩ := parse1 hf hp
      refine ⟨(e, d) :: es2, ?_, ?_, ?_⟩
      · rw [← h2]; rfl
      · intro p hp
        rcases List.mem_cons.mp hp with rfl | hp
        · refine ⟨aok_iff.mpr ⟨fe, fun s hs => ?_⟩, ?_⟩
          · rw [se] at hs
            obtain ⟨q, hq, rfl⟩ := List.mem_map.mp (List.mem_reverse.mp hs)
            exact (e2 q (List.mem_append_left _ hq)).1
          · show e.dep + d ≤ 13
            have : e.dep ≤ (12 - d) + 1 := by
              rw [dep_subs]
              intro s hs
              rw [se] at hs
              obtain ⟨q, hq, rfl⟩ := List.mem_map.mp (List.mem_reverse.mp hs)
              have := (e2 q (List.mem_append_left _ hq)).2
              have := hdd q hq
              omega
            omega
        · exact e2 p (List.mem_append_right _ hp)
      · rw [List.map_append, List.sum_append] at e3
        rw [List.map_cons, List.sum_cons]
        show e.cnt + _ ≤ _
        rw [cnt_subs, se, List.map_reverse, List.sum_reverse, List.map_map]
        have : (es1.map (Nd.cnt ∘ fun p => p.1)).sum = (es1.map fun p => p.1.cnt).sum := rfl
        rw [this]
        omega
    · rintro ⟨es, e1, e2, e3⟩
      cases es with
      | nil => cases e1
      | cons p es =>
        obtain ⟨e, d'⟩ := p
        rw [List.map_cons, List.cons.injEq] at e1
        obtain ⟨e0, rfl⟩ := e1
        have ev : v = ndv e := congrArg Prod.fst e0
        have ed : d = d' := congrArg Prod.snd e0
        subst ev; subst ed
        have ok := e2 _ List.mem_cons_self
        obtain ⟨o1, o2⟩ := ok
        have o2 : e.dep + d ≤ 13 := o2
        have pe := dep_pos e
        refine ⟨⟨by omega, hasForm_ndv.mpr (aok_iff.mp o1).1⟩, (((subs e).map fun s => (s, d + 1)).reverse) ++ es, ?_, ?_, ?_⟩
        · rw [parts_ndv, List.map_append, List.map_reverse, List.map_map, List.map_map]
          rfl
        · intro p hp
          rcases List.mem_append.mp hp with hp | hp
          · obtain ⟨s, hs, rfl⟩ := List.mem_map.mp (List.mem_reverse.mp hp)
            refine ⟨(aok_iff.mp o1).2 s hs, ?_⟩
            have : e.dep ≤ (12 - d) + 1 := by omega
            have := dep_subs.mp this s hs
            show s.dep + (d + 1) ≤ 13
            omega
          · exact e2 p (List.mem_cons_of_mem _ hp)
        · rw [List.map_append, List.sum_append, cnt_rev]
          rw [List.map_cons, List.sum_cons] at e3
          have e3 : e.cnt + _ ≤ _ := e3
          rw [cnt_subs] at e3
          omega
def NOk (e : Nd) : Prop := AOk e ∧ e.dep ≤ 12 ∧ e.cnt ≤ 40
theorem hasSize_iff {v : AV} : hasSizeB v = true ↔ ∃ e, v = ndv e ∧ NOk e := by
  unfold hasSizeB
  rw [walk_typed]
  constructor
  · rintro ⟨es, e1, e2, e3⟩
    match es, e1 with
    | [(e, d)], e1 =>
      rw [List.map_cons, List.cons.injEq] at e1
      have ev : v = ndv e := congrArg Prod.fst e1.1
      have ed : (1 : Nat) = d := congrArg Prod.snd e1.1
      subst ed
      obtain ⟨o1, o2⟩ := e2 _ List.mem_cons_self
      have o2 : e.dep + 1 ≤ 13 := o2
      have e3 : e.cnt + 0 ≤ 40 := e3
      exact ⟨e, ev, o1, by omega, by omega⟩
  · rintro ⟨e, rfl, o1, o2, o3⟩
    refine ⟨[(e, 1)], rfl, fun p hp => ?_, ?_⟩
    · rw [List.mem_singleton.mp hp]
      exact ⟨o1, by show e.dep + 1 ≤ 13; omega⟩
    · show e.cnt + 0 ≤ 40
      omega
def pr1 (p : AV × Nat) : AV := .tup [p.1, .int p.2]
theorem ms_lst {m : Mth} {a : Addr} {xs : List AV} {h : AH} (e : h a = some (.lst xs)) (hm : m = .append ∨ m = .extend ∨ m = .pop ∨ m = .insert ∨ m = .index) : mthTy m (.ref a) h := by
  rcases hm with rfl | rfl | rfl | rfl | rfl <;> exact ⟨xs, e⟩
theorem pop_i {a : Addr} {xs : List AV} {y : AV} {h : AH} {Q : AQ} (e : h a = some (.lst (xs ++ [y]))) (q : Q y (aupd h a (.lst xs))) : mthR .pop (.ref a) [] h Q := .inl ⟨rfl, xs, y, e, q⟩
theorem ext_i {a b : Addr} {xs ys : List AV} {h : AH} {Q : AQ} (e : h a = some (.lst xs)) (e2 : h b = some (.lst ys)) (hl : xs.length + ys.length ≤ sizeLine) (q : Q .non (aupd h a (.lst (xs ++ ys)))) : mthR .extend (.ref a) [.ref b] h Q := ⟨a, b, xs, ys, rfl, rfl, e, e2, hl, q⟩
theorem ale_upd {h h' : AH} {p : Addr} {o : AO} (hp : h p = none) (l : ALe h h') : ALe h (aupd h' p o) := by
  intro a o ea
  rw [aupd_ne (by rintro rfl; rw [hp] at ea; cases ea)]
  exact l a o ea
theorem filterMap_some {f : AV → AV} (xs : List AV) : xs.filterMap (fun x => some (f x)) = xs.map f := by
  induction xs with
  | nil => rfl
  | cons x xs ih => rw [List.filterMap_cons, ih]; rfl
section
variable {T : Tb} {C : ACall} (hC : CMono C)
include hC
theorem map_comp {own : List Nat} {g it elt : CE} {σ : AEnv} {h : AH} {Q : AQ} {E : AXQ} (q : wpI C T it σ h (fun xs chk h1 => xs.length ≤ 1000000 ∧ (∀ h2, ALe h1 h2 → chk h2) ∧ ∃ f : AV → AV,
      (∀ x ∈ xs, ∀ h2, ALe h1 h2 → wpG C T g x (awipe σ own) h2 fun σ2 h3 => wpE C T elt σ2 h3 (fun y h4 => y = f x ∧ ALe h2 h4) fun _ _ => False) ∧
      ∀ D, h1 D = none → Q (.ref D) (aupd h1 D (.lst (xs.map f)))) E) : wpE C T (.comp own g it .nil elt) σ h Q E := by
  refine comp_pure hC (wpI_mono hC it (fun xs chk h1 q => ?_) (fun _ _ z => z) q)
  obtain ⟨hl, hc, f, hs, hf⟩ := q
  refine ⟨len_small hl, fun D acc hD => hc _ (ALe.fresh hD), fun x => some (f x), fun D hD x hx acc => ?_, fun D hD => ?_⟩
  · refine wpG_mono hC g (fun σ2 h3 q => ?_) (hs x hx _ (ALe.fresh hD))
    show wpE C T elt σ2 h3 _ _
    refine wpE_mono hC elt (fun y h4 q => ?_) (fun _ _ z => z) q
    exact ⟨by rw [q.1], q.2⟩
  · rw [filterMap_some]
    exact hf D hD
end
theorem aug_add {C : ACall} {T : Tb} {sub : Nat → Nat → Bool} {D : AEnds} {i : Nat} {e : CE} {σ : AEnv} {h : AH} (q : ∃ m : Int, σ[i]? = some (some (.int m)) ∧ wpE C T e σ h (fun y h1 => ∃ n : Int, y = .int n ∧ D.nx (σ.set i (some (.int (m + n)))) h1) (fun x h' => D.ex x σ h')) (hC : CMono C) : wpS C T sub (.aug i .add e) D σ h := by
  obtain ⟨m, em, q⟩ := q
  exact ⟨_, em, wpE_mono hC e (fun y h1 ⟨n, en, k⟩ => ⟨m, n, rfl, en, .inl ⟨rfl, k⟩⟩) (fun _ _ z => z) q⟩
theorem has_size_spec (c : CBk G) {v : AV} (ht : DTy h v) (hq : Q (.bl (hasSizeB v)) h) : wpC G (n + 7) 118 [v] h Q E := by
  refine call_i c.c118 rfl ?_
  unfold c118_has_size
  bv_omega
  intro p hp
  refine wp_whl (wpC_mono G (n + 6)) (fun m σ h' => ∃ (k : Nat) (st : List (AV × Nat)) (a b d : Option AV), m = k ∧ k ≤ 40 ∧ σ = [some v, some (.int ((40 - k : Nat) : Int)), some (.ref p), a, b, d] ∧ ALe h h' ∧ h' p = some (.lst (st.map pr1).reverse) ∧ st.length ≤ 1 + 8 * (40 - k) ∧ (∀ q ∈ st, DTy h q.1) ∧ walkB k st = hasSizeB v) (m := 40)
    ⟨40, [(v, 1)], none, none, none, rfl, by omega, rfl, ALe.fresh hp, aupd_same, by simp, fun q hq => by rw [List.mem_singleton.mp hq]; exact ht, rfl⟩ ?_
  rintro m σ h' ⟨k, st, a, b, d, rfl, hk, rfl, l, e2, hl, hd, hw⟩
  bv_omega
  refine n_lst e2 ?_
  bv_omega
  cases st with
  | nil =>
    bv_omega
    simp only [List.map_nil, List.reverse_nil, List.length_nil]
    bv_omega
    have : hasSizeB v = true := by rw [← hw]; cases m <;> rfl
    rw [this] at hq
    exact shr_le l hq
  | cons q st =>
    obtain ⟨w, dd⟩ := q
    have e0 : (0 : Int) < (((((w, dd) :: st).map pr1).reverse).length : Int) := by
      rw [List.length_reverse, List.length_map, List.length_cons]; omega
    simp only [e0, decide_true, if_true]
    bv_omega
    rw [List.map_cons, List.reverse_cons] at e2
    refine ⟨ms_lst e2 (by simp), pop_i e2 ?_⟩
    bv_omega
    obtain ⟨dw, dst⟩ := (show DTy h w ∧ ∀ q ∈ st, DTy h q.1 from ⟨hd (w, dd) List.mem_cons_self, fun q hq => hd q (List.mem_cons_of_mem _ hq)⟩)
    rw [List.length_cons] at hl
    have l1 : ALe h (aupd h' p (.lst (st.map pr1).reverse)) := ale_upd hp l
    refine g_tupR rfl ?_
    bv_omega
    refine aug_add ⟨_, rfl, ?_⟩ (wpC_mono G (n + 6))
    bv_omega
    simp only [c.g12, c.g13, Option.some.injEq, exists_eq_left']
    bv_omega
    cases m with
    | zero =>
      have e3 : (40 : Int) < ((40 - 0 : Nat) : Int) + 1 := by omega
      simp only [e3]
      bv_omega
      have : hasSizeB v = false := by rw [← hw]; rfl
      rw [this] at hq
      exact shr_le l1 hq
    | succ m =>
      have e3 : ¬ (40 : Int) < ((40 - (m + 1) : Nat) : Int) + 1 := by omega
      have hw : (decide (dd ≤ 12) && hasForm w && walkB m (((partsA w).map (nx1 (dd + 1))).reverse ++ st)) = hasSizeB v := hw
      simp only [e3]
      bv_omega
      by_cases e4 : dd ≤ 12
      · have e5 : ¬ (12 : Int) < (dd : Int) := by omega
        simp only [e5]
        bv_omega
        rw [decide_eq_true e4, Bool.true_and] at hw
        refine has_form_spec (n := n) c (dw.mono l1) ?_
        cases e6 : hasForm w with
        | false =>
          bv_omega
          rw [e6, Bool.false_and] at hw
          rw [← hw] at hq
          exact shr_le l1 hq
        | true =>
          rw [e6, Bool.true_and] at hw
          obtain ⟨ps1, ps2⟩ := parts_small e6
          bv_omega
          refine ⟨ms_lst aupd_same (by simp), ?_⟩
          refine map_comp (wpC_mono G (n + 6)) ?_
          bv_omega
          refine raw_parts_spec (n := n + 5) c e6 (dw.mono l1) fun p2 h2 l2 hp2 e7 => ?_
          refine ⟨_, e7, by omega, fun h3 l3 => l3 _ _ e7, fun x => .tup [x, .int (dd + 1)], fun x hx h3 l3 => ?_, fun D hD => ?_⟩
          · bv_omega
            exact ALe.refl
          · have np : p ≠ p2 := by rintro rfl; rw [aupd_same] at hp2; cases hp2
            have hp3 : h2 p = some (.lst (st.map pr1).reverse) := l2 _ _ aupd_same
            have nD : p ≠ D := by rintro rfl; rw [hp3] at hD; cases hD
            refine ext_i ((aupd_ne nD).trans hp3) aupd_same (len_small ?_) ?_
            · simp only [List.length_map, List.length_reverse]
              omega
            · bv_omega
              refine ⟨m, Nat.lt_succ_self m, m, ((partsA w).map (nx1 (dd + 1))).reverse ++ st, some w, some (.int dd), d, rfl, by omega, ?_, ?_, ?_, ?_, ?_, hw⟩
              · have : ((40 - (m + 1) : Nat) : Int) + 1 = ((40 - m : Nat) : Int) := by omega
                rw [this]
              · refine ale_upd hp ?_
                refine ALe.trans (ALe.trans l1 l2) (ALe.fresh hD)
              · rw [List.map_append, List.reverse_append, List.map_reverse, List.reverse_reverse, List.map_map]
                rfl
              · simp only [List.length_append, List.length_reverse, List.length_map]
                omega
              · intro q hq
                rcases List.mem_append.mp hq with hq | hq
                · obtain ⟨y, hy, rfl⟩ := List.mem_map.mp (List.mem_reverse.mp hq)
                  exact ps2 dw y hy
                · exact dst q hq
      · have e5 : (12 : Int) < (dd : Int) := by omega
        simp only [e5]
        bv_omega
        rw [decide_eq_false e4, Bool.false_and, Bool.false_and] at hw
        rw [← hw] at hq
        exact shr_le l1 hq
end PL

namespace PL
open PySem PySem.Spec PyProof.Rows L2
variable {G : Pg} {n : Nat} {Q : AQ} {E : AXQ} {h : AH}
theorem isDim_keys {d : Dm} (e : isDim (dm d) = true) : ∀ p ∈ d, nameOk p.1 = true := by
  unfold isDim at e
  rw [Bool.and_eq_true] at e
  have e1 := e.1
  unfold areNP at e1
  have e1 : ((d.map (prf AV.int)).all isNP && ascA (d.map (prf AV.int))) = true := e1
  rw [Bool.and_eq_true, List.all_eq_true] at e1
  intro p hp
  exact e1.1 _ (List.mem_map_of_mem hp)
theorem plain_len {d : Dm} (e : isPlain (dm d) = true) : d.length ≤ 6 := by
  unfold isPlain at e
  rw [Bool.and_eq_true] at e
  have e2 : (decide ((d.map (prf AV.int)).length ≤ 6) && (d.map (prf AV.int)).all exp9) = true := e.2
  rw [Bool.and_eq_true, decide_eq_true_eq, List.length_map] at e2
  exact e2.1
theorem dty_name {s : Str} (e : nameOk s = true) : DTy h (.str s) := dty_str.mpr (by have := name_len e; omega)
theorem dty_plain {d : Dm} (e : isPlain (dm d) = true) : DTy h (dm d) := by
  refine dty_tup.mpr ⟨by rw [List.length_map]; have := plain_len e; omega, fun x hx => ?_⟩
  obtain ⟨p, hp, rfl⟩ := List.mem_map.mp hx
  refine dty_tup.mpr ⟨by simp, fun y hy => ?_⟩
  simp at hy
  rcases hy with rfl | rfl
  · exact dty_name (isDim_keys (isPlain_dim e) p hp)
  · unfold DTy; trivial
theorem dty_int {i : Int} : DTy h (.int i) := by unfold DTy; trivial
theorem dty_tup1 {s : Str} {x : AV} (hs : s.length ≤ 1000000) (dx : DTy h x) : DTy h (.tup [.str s, x]) := dty_tup.mpr ⟨by simp, fun y hy => by
  simp at hy
  rcases hy with rfl | rfl
  · exact dty_str.mpr hs
  · exact dx⟩
theorem dty_tup2 {s : Str} {x z : AV} (hs : s.length ≤ 1000000) (dx : DTy h x) (dz : DTy h z) : DTy h (.tup [.str s, x, z]) := dty_tup.mpr ⟨by simp, fun y hy => by
  simp at hy
  rcases hy with rfl | rfl | rfl
  · exact dty_str.mpr hs
  · exact dx
  · exact dz⟩
mutual
theorem ndv_dty : ∀ {e : Nd}, AOk e → DTy h (ndv e)
  | .num x, _ => dty_tup1 (by decide) (dty_fr x)
  | .told x d, o => dty_tup2 (by decide) (dty_fr x) (dty_plain o.2)
  | .inn i, _ => dty_tup1 (by decide) dty_int
  | .bin w a b, o => by
    have hw : (bwS w).length ≤ 1000000 := by cases w <;> decide
    exact dty_tup2 hw (ndv_dty o.1) (ndv_dty o.2)
  | .pow a k, o => dty_tup2 (by decide) (ndv_dty o.2) dty_int
  | .call f as, o => by
    refine dty_tup2 (by decide) (dty_name o.1.1) (dty_tup.mpr ⟨?_, ndvs_dty o.2⟩)
    have := o.1.2.2
    rw [ndvs_map, List.length_map]; omega
theorem ndvs_dty : ∀ {es : List Nd}, AOks es → ∀ x ∈ ndvs es, DTy h x
  | [], _, x, hx => by cases hx
  | e :: es, o, x, hx => by
    unfold ndvs at hx
    rcases List.mem_cons.mp hx with rfl | hx
    · exact ndv_dty o.1
    · exact ndvs_dty o.2 x hx
end
def ndS : Nd → Str | .num _ => "num" | .told _ _ => "told" | .inn _ => "in" | .bin w _ _ => bwS w | .pow _ _ => "power" | .call _ _ => "call"
def ndR : Nd → List AV
  | .num x => [fr x] | .told x d => [fr x, dm d] | .inn i => [.int i] | .bin _ a b => [ndv a, ndv b] | .pow a k => [ndv a, .int k] | .call f as => [.str f, .tup (ndvs as)]
theorem ndv_eq (e : Nd) : ndv e = .tup (.str (ndS e) :: ndR e) := by cases e <;> rfl
def ndK : Nd → Nat | .num _ => 0 | .told _ _ => 1 | .inn _ => 2 | .bin _ _ _ => 3 | .pow _ _ => 7 | .call _ _ => 8
def ndK' (s : Str) : Nat := if s = "num" then 0 else if s = "told" then 1 else if s = "in" then 2 else if s = "plus" then 3 else if s = "less" then 3 else if s = "times" then 3 else if s = "over" then 3 else if s = "power" then 7 else 8
theorem ndK_eq (e : Nd) : ndK' (ndS e) = ndK e := by
  cases e with
  | bin w a b => cases w <;> rfl
  | _ => rfl
theorem bwS_inj {w w' : BW} (e : bwS w = bwS w') : w = w' := by
  cases w <;> cases w' <;> first | rfl | (exact absurd e (by decide +kernel))
mutual
theorem ndv_inj : ∀ (a b : Nd), ndv a = ndv b → a = b
  | a, b, e => by
    have e0 := e
    rw [ndv_eq, ndv_eq] at e
    simp only [AV.tup.injEq, List.cons.injEq, AV.str.injEq] at e
    obtain ⟨e1, e2⟩ := e
    have e3 : ndK a = ndK b := by rw [← ndK_eq, ← ndK_eq, e1]
    match a, b, e1, e2, e3 with
    | .num x, .num y, _, e2, _ =>
      simp only [ndR, List.cons.injEq, and_true] at e2
      rw [fr_inj e2]
    | .told x d, .told y d', _, e2, _ =>
      simp only [ndR, List.cons.injEq, and_true] at e2
      rw [fr_inj e2.1, dm_inj e2.2]
    | .inn i, .inn j, _, e2, _ =>
      simp only [ndR, List.cons.injEq, and_true, AV.int.injEq] at e2
      rw [Int.ofNat.inj e2]
    | .bin w a b, .bin w' a' b', e1, e2, _ =>
      simp only [ndR, List.cons.injEq, and_true] at e2
      rw [ndv_inj a a' e2.1, ndv_inj b b' e2.2, bwS_inj e1]
    | .pow a k, .pow a' k', _, e2, _ =>
      simp only [ndR, List.cons.injEq, and_true, AV.int.injEq] at e2
      rw [ndv_inj a a' e2.1, Int.ofNat.inj e2.2]
    | .call f as, .call f' as', _, e2, _ =>
      simp only [ndR, List.cons.injEq, and_true, AV.str.injEq, AV.tup.injEq] at e2
      rw [e2.1, ndvs_inj as as' e2.2]
theorem ndvs_inj : ∀ (a b : List Nd), ndvs a = ndvs b → a = b
  | [], [], _ => rfl
  | [], _ :: _, e => by cases e
  | _ :: _, [], e => by cases e
  | a :: as, b :: bs, e => by
    simp only [ndvs, List.cons.injEq] at e
    rw [ndv_inj a b e.1, ndvs_inj as bs e.2]
end
mutual
def rows : Nd → List Nd
  | .num x => [.num x]
  | .told x d => [.told x d]
  | .inn i => [.inn i]
  | .bin w a b => .bin w a b :: (rows a ++ rows b)
  | .pow a k => .pow a k :: rows a
  | .call f as => .call f as :: rowss as
def rowss : List Nd → List Nd
  | [] => []
  | e :: es => rows e ++ rowss es
end
theorem rowss_flat : ∀ es : List Nd, rowss es = es.flatMap rows
  | [] => rfl
  | e :: es => by show rows e ++ rowss es = _; rw [rowss_flat es]; rfl
theorem rows_subs (e : Nd) : rows e = e :: (subs e).flatMap rows := by
  cases e with
  | call f as => show _ :: rowss as = _; rw [rowss_flat]; rfl
  | bin w a b => show _ :: (rows a ++ rows b) = _ :: (rows a ++ (rows b ++ [])); rw [List.append_nil]
  | pow a k => show _ :: rows a = _ :: (rows a ++ []); rw [List.append_nil]
  | _ => rfl
mutual
theorem rows_len : ∀ e : Nd, (rows e).length = e.cnt
  | .num x => rfl
  | .told x d => rfl
  | .inn i => rfl
  | .bin w a b => by show ((rows a ++ rows b).length + 1) = _; rw [List.length_append, rows_len a, rows_len b]; rfl
  | .pow a k => by show ((rows a).length + 1) = _; rw [rows_len a]; rfl
  | .call f as => by show ((rowss as).length + 1) = _; rw [rowss_len as]; rfl
theorem rowss_len : ∀ es : List Nd, (rowss es).length = Nd.cnts es
  | [] => rfl
  | e :: es => by show (rows e ++ rowss es).length = _; rw [List.length_append, rows_len e, rowss_len es]; rfl
end
mutual
theorem rows_ok : ∀ e : Nd, AOk e → ∀ r ∈ rows e, AOk r
  | .num x, o, r, hr => by rw [List.mem_singleton.mp hr]; exact o
  | .told x d, o, r, hr => by rw [List.mem_singleton.mp hr]; exact o
  | .inn i, o, r, hr => by rw [List.mem_singleton.mp hr]; exact o
  | .bin w a b, o, r, hr => by
    rcases List.mem_cons.mp (show r ∈ _ :: (rows a ++ rows b) from hr) with rfl | hr
    · exact o
    · rcases List.mem_append.mp hr with hr | hr
      · exact rows_ok a o.1 r hr
      · exact rows_ok b o.2 r hr
  | .pow a k, o, r, hr => by
    rcases List.mem_cons.mp (show r ∈ _ :: rows a from hr) with rfl | hr
    · exact o
    · exact rows_ok a o.2 r hr
  | .call f as, o, r, hr => by
    rcases List.mem_cons.mp (show r ∈ _ :: rowss as from hr) with rfl | hr
    · exact o
    · exact rowss_ok as o.2 r hr
theorem rowss_ok : ∀ es : List Nd, AOks es → ∀ r ∈ rowss es, AOk r
  | [], _, r, hr => by cases hr
  | e :: es, o, r, hr => by
    rcases List.mem_append.mp (show r ∈ rows e ++ rowss es from hr) with hr | hr
    · exact rows_ok e o.1 r hr
    · exact rowss_ok es o.2 r hr
end
theorem sum_len {es : List Nd} : es.length ≤ (es.map Nd.cnt).sum := by
  induction es with
  | nil => simp
  | cons e es ih =>
    have := cnt_pos e
    rw [List.length_cons, List.map_cons, List.sum_cons]
    omega
theorem node_rows_spec (c : CBk G) {e : Nd} (o : AOk e) (hc : e.cnt ≤ 1000) (hq : ∀ p h', ALe h h' → h p = none → h' p = some (.lst ((rows e).map ndv)) → Q (.ref p) h') : wpC G (n + 2) 119 [ndv e] h Q E := by
  refine call_i c.c119 rfl ?_
  unfold c119_node_rows
  bv_omega
  intro p hp p2 hp2
  have np : p ≠ p2 := by rintro rfl; rw [aupd_same] at hp2; cases hp2
  have hp2h : h p2 = none := by rw [aupd_ne (Ne.symm np)] at hp2; exact hp2
  refine wp_whl (wpC_mono G (n + 1)) (fun m σ h' => ∃ (done st : List Nd) (a : Option AV), m = (st.map Nd.cnt).sum ∧ σ = [some (ndv e), some (.ref p), some (.ref p2), a] ∧ ALe h h' ∧ h' p = some (.lst (done.map ndv)) ∧ h' p2 = some (.lst (st.map ndv).reverse) ∧ (∀ q ∈ st, AOk q) ∧ done ++ st.flatMap rows = rows e ∧ done.length + (st.map Nd.cnt).sum = e.cnt) (m := e.cnt)
    ⟨[], [e], none, by simp, rfl, ale_upd hp2h (ALe.fresh hp), (aupd_ne np).trans aupd_same, aupd_same, fun q hq => by rw [List.mem_singleton.mp hq]; exact o, by simp, by simp⟩ ?_
  rintro m σ h' ⟨done, st, a, rfl, rfl, l, e1, e2, od, er, ec⟩
  bv_omega
  refine n_lst e2 ?_
  bv_omega
  cases st with
  | nil =>
    simp only [List.map_nil, List.reverse_nil, List.length_nil]
    bv_omega
    have : done = rows e := by rw [← er]; simp
    subst this
    exact shr_i (hq p h' l hp e1)
  | cons q st =>
    have e0 : (0 : Int) < ((((q :: st).map ndv).reverse).length : Int) := by
      rw [List.length_reverse, List.length_map, List.length_cons]; omega
    simp only [e0, decide_true, if_true]
    bv_omega
    have sl := sum_len (es := q :: st)
    rw [List.map_cons, List.reverse_cons] at e2
    rw [List.length_cons] at sl
    refine ⟨ms_lst e2 (by simp), pop_i e2 ?_⟩
    bv_omega
    have e1' : aupd h' p2 (.lst (st.map ndv).reverse) p = some (.lst (done.map ndv)) := (aupd_ne np).trans e1
    refine ⟨ms_app e1', m_app e1' (len_small (by rw [List.length_map]; omega)) ?_⟩
    have oq := od q List.mem_cons_self
    have e2' : aupd (aupd h' p2 (.lst (st.map ndv).reverse)) p (.lst (done.map ndv ++ [ndv q])) p2 = some (.lst (st.map ndv).reverse) := (aupd_ne (Ne.symm np)).trans aupd_same
    have e1'' : aupd (aupd h' p2 (.lst (st.map ndv).reverse)) p (.lst (done.map ndv ++ [ndv q])) p = some (.lst (done.map ndv ++ [ndv q])) := aupd_same
    have l' : ALe h (aupd (aupd h' p2 (.lst (st.map ndv).reverse)) p (.lst (done.map ndv ++ [ndv q]))) := ale_upd hp (ale_upd hp2h l)
    generalize aupd (aupd h' p2 (.lst (st.map ndv).reverse)) p (.lst (done.map ndv ++ [ndv q])) = h3 at e2' e1'' l' ⊢
    refine ⟨ms_lst e2' (by simp), ?_⟩
    refine raw_parts_spec (n := n) c (hasForm_ndv.mpr oq.fok) (ndv_dty oq) fun p4 h4 l4 hp4 e4 => ?_
    refine ⟨_, e4, fun p5 hp5 => ?_⟩
    have n5 : p2 ≠ p5 := by rintro rfl; rw [l4 _ _ e2'] at hp5; cases hp5
    have n5' : p ≠ p5 := by rintro rfl; rw [l4 _ _ e1''] at hp5; cases hp5
    have pc := cnt_subs q
    have sl2 := sum_len (es := subs q)
    rw [parts_ndv]
    refine ext_i ((aupd_ne n5).trans (l4 _ _ e2')) aupd_same (len_small ?_) ?_
    · simp only [List.length_reverse, List.length_map]
      rw [List.map_cons, List.sum_cons] at sl ec
      omega
    · refine ⟨((subs q ++ st).map Nd.cnt).sum, ?_, done ++ [q], subs q ++ st, some (ndv q), rfl, rfl, ?_, ?_, ?_, ?_, ?_, ?_⟩
      · simp only [List.map_append, List.sum_append, List.map_cons, List.sum_cons]; omega
      · refine ale_upd hp2h ?_
        exact ALe.trans l' (ALe.trans l4 (ALe.fresh hp5))
      · rw [aupd_ne np, aupd_ne n5', l4 _ _ e1'', List.map_append]; rfl
      · rw [aupd_same, List.map_append, List.reverse_append]
      · intro x hx
        rcases List.mem_append.mp hx with hx | hx
        · exact (aok_iff.mp oq).2 x hx
        · exact od x (List.mem_cons_of_mem _ hx)
      · rw [← er, List.flatMap_append, List.flatMap_cons, rows_subs q]
        simp
      · rw [List.length_append, List.map_append, List.sum_append, ← ec, List.map_cons, List.sum_cons]
        simp only [List.length_cons, List.length_nil]
        omega
end PL

namespace PL
open PySem PySem.Spec PyProof.Rows L2
variable {G : Pg} {n : Nat} {Q : AQ} {E : AXQ} {h : AH}
structure Fm where
  name : Str
  sizes : List Dm
  e : Nd
def fmv (f : Fm) : AV := .tup [.str f.name, .tup (f.sizes.map dm), ndv f.e]
structure FmOk (f : Fm) : Prop where
  name : nameOk f.name = true
  l1 : 1 ≤ f.sizes.length
  l4 : f.sizes.length ≤ 4
  plain : ∀ d ∈ f.sizes, isPlain (dm d) = true
  nd : NOk f.e
def hasFmB : AV → Bool
  | .tup [x, .tup ss, e] => isName x && (decide (1 ≤ ss.length) && decide (ss.length ≤ 4)) && ss.all isPlain && hasSizeB e
  | _ => false
theorem hasFm_iff {v : AV} : hasFmB v = true ↔ ∃ f, v = fmv f ∧ FmOk f := by
  constructor
  · intro h
    unfold hasFmB at h
    split at h
    · rename_i x ss e
      simp only [Bool.and_eq_true, decide_eq_true_eq, List.all_eq_true] at h
      obtain ⟨⟨⟨h1, h2, h3⟩, h4⟩, h5⟩ := h
      obtain ⟨e', rfl, o⟩ := hasSize_iff.mp h5
      cases x with
      | str s =>
        have : ∃ ds : List Dm, ss = ds.map dm := by
          clear h2 h3 h5
          induction ss with
          | nil => exact ⟨[], rfl⟩
          | cons y ys ih =>
            obtain ⟨ds, e1⟩ := ih fun x hx => h4 x (List.mem_cons_of_mem _ hx)
            obtain ⟨d, e2⟩ := isDim_val (isPlain_dim (h4 y List.mem_cons_self))
            exact ⟨d :: ds, by rw [e1, e2]; rfl⟩
        obtain ⟨ds, rfl⟩ := this
        rw [List.length_map] at h2 h3
        exact ⟨⟨s, ds, e'⟩, rfl, h1, h2, h3, fun d hd => h4 _ (List.mem_map_of_mem hd), o⟩
      | _ => cases h1
    · cases h
  · rintro ⟨f, rfl, o⟩
    show (nameOk f.name && (decide (1 ≤ (f.sizes.map dm).length) && decide ((f.sizes.map dm).length ≤ 4)) && (f.sizes.map dm).all isPlain && hasSizeB (ndv f.e)) = true
    simp only [Bool.and_eq_true, decide_eq_true_eq, List.all_eq_true, List.length_map]
    refine ⟨⟨⟨o.name, o.l1, o.l4⟩, fun x hx => ?_⟩, hasSize_iff.mpr ⟨_, rfl, o.nd⟩⟩
    obtain ⟨d, hd, rfl⟩ := List.mem_map.mp hx
    exact o.plain d hd
theorem dms_inj {ds es : List Dm} (e : ds.map dm = es.map dm) : ds = es := by
  induction ds generalizing es with
  | nil => cases es with
    | nil => rfl
    | cons _ _ => cases e
  | cons d ds ih => cases es with
    | nil => cases e
    | cons e' es =>
      rw [List.map_cons, List.map_cons, List.cons.injEq] at e
      rw [dm_inj e.1, ih e.2]
theorem fmv_inj {a b : Fm} (e : fmv a = fmv b) : a = b := by
  unfold fmv at e
  simp only [AV.tup.injEq, List.cons.injEq, AV.str.injEq, and_true] at e
  obtain ⟨e1, e2, e3⟩ := e
  cases a; cases b
  simp only [Fm.mk.injEq]
  exact ⟨e1, dms_inj e2, ndv_inj _ _ e3⟩
theorem has_formula_spec (c : CBk G) {v : AV} (ht : DTy h v) (hq : Q (.bl (hasFmB v)) h) : wpC G (n + 8) 121 [v] h Q E := by
  refine call_i c.c121 rfl ?_
  unfold c121_has_formula_form
  cases v with
  | tup xs =>
    obtain ⟨hl, hx⟩ := dty_tup.mp ht
    bv_omega
    by_cases e3 : xs.length = 3
    · match xs, e3, hl, hx, hq with
      | [x, y, e], _, hl, hx, hq =>
        bv_omega
        rw [if_neg (show ¬ ¬ (((3 : Nat) : Int) = 3) by omega)]
        refine is_name_spec (n := n + 6) c.cd.c34 c.cd.g0 c.cd.g1 (hx x (by simp)) ?_
        cases e1 : isName x with
        | false =>
          bv_omega
          have : hasFmB (.tup [x, y, e]) = false := by
            cases y with
            | tup ss => show (isName x && _ && _ && _) = false; rw [e1]; rfl
            | _ => rfl
          rw [this] at hq
          exact shr_i hq
        | true =>
          bv_omega
          have dy := hx y (by simp)
          cases y with
          | tup ss =>
            have hq : Q (.bl (isName x && (decide (1 ≤ ss.length) && decide (ss.length ≤ 4)) && ss.all isPlain && hasSizeB e)) h := hq
            rw [e1, Bool.true_and] at hq
            obtain ⟨_, hss⟩ := dty_tup.mp dy
            bv_omega
            simp only [c.g11, Option.some.injEq, exists_eq_left']
            by_cases e4 : 1 ≤ ss.length
            · have e5 : (1 : Int) ≤ (ss.length : Int) := by omega
              simp only [e5]
              bv_omega
              by_cases e6 : ss.length ≤ 4
              · have e7 : (ss.length : Int) ≤ 4 := by omega
                simp only [e7]
                bv_omega
                rw [decide_eq_true e4, decide_eq_true e6, Bool.true_and, Bool.true_and] at hq
                refine all_comp (wpC_mono G (n + 7)) ?_
                bv_omega
                refine ⟨by omega, fun _ _ => trivial, isPlain, fun x hx' h2 l => ?_, fun h2 l => ?_⟩
                · bv_omega
                  refine is_plain_spec0 (n := n + 3) c.cd c.c26 c.c94 c.g7 c.g8 ((hss x hx').mono l) ⟨rfl, ALe.refl⟩
                · cases e8 : ss.all isPlain with
                  | false =>
                    bv_omega
                    rw [e8, Bool.false_and] at hq
                    exact shr_le l hq
                  | true =>
                    bv_omega
                    rw [e8, Bool.true_and] at hq
                    exact has_size_spec (n := n) c ((hx e (by simp)).mono l) (shr_le l hq)
              · have e7 : ¬ (ss.length : Int) ≤ 4 := by omega
                simp only [e7]
                bv_omega
                rw [decide_eq_false e6, Bool.and_false, Bool.false_and, Bool.false_and] at hq
                exact shr_i hq
            · have e5 : ¬ (1 : Int) ≤ (ss.length : Int) := by omega
              simp only [e5]
              bv_omega
              rw [decide_eq_false e4, Bool.false_and, Bool.false_and, Bool.false_and] at hq
              exact shr_i hq
          | ref a =>
            bv_omega
            rcases dty_ref.mp dy with ⟨xs, e⟩ | ⟨xs, e⟩
            · refine t_lst e ?_
              bv_omega
              exact shr_i hq
            · refine t_dK e ?_
              bv_omega
              exact shr_i hq
          | wt _ => exact (dty_wt dy).elim
          | _ =>
            bv_omega
            exact shr_i hq
    · have e4 : ¬ (xs.length : Int) = 3 := by omega
      simp only [e4]
      bv_omega
      have : hasFmB (.tup xs) = false := by
        unfold hasFmB
        split
        · rename_i q
          cases q
          exact absurd rfl e3
        · rfl
      rw [this] at hq
      exact shr_i hq
  | ref a =>
    bv_omega
    rcases dty_ref.mp ht with ⟨xs, e⟩ | ⟨xs, e⟩
    · refine t_lst e ?_
      bv_omega
      exact shr_i hq
    · refine t_dK e ?_
      bv_omega
      exact shr_i hq
  | wt _ => exact (dty_wt ht).elim
  | _ =>
    bv_omega
    exact shr_i hq
def rightN (many : Nat) (known : NM Nat) : Nd → Bool
  | .inn i => decide (i < many)
  | .call f as => decide (known.lookup f = some as.length)
  | _ => true
theorem ndS_ok (r : Nd) : PyData.strOk (ndS r) = true := by
  cases r with
  | num _ => exact (by decide +kernel : PyData.strOk ("num" : Str) = true)
  | told _ _ => exact (by decide +kernel : PyData.strOk ("told" : Str) = true)
  | inn _ => exact (by decide +kernel : PyData.strOk ("in" : Str) = true)
  | pow _ _ => exact (by decide +kernel : PyData.strOk ("power" : Str) = true)
  | call _ _ => exact (by decide +kernel : PyData.strOk ("call" : Str) = true)
  | bin w _ _ => exact (by cases w <;> decide +kernel : PyData.strOk (bwS w) = true)
def isIn : Nd → Bool | .inn _ => true | _ => false
def isCall : Nd → Bool | .call _ _ => true | _ => false
def isPow : Nd → Bool | .pow _ _ => true | _ => false
theorem ndS_in (r : Nd) : (ndS r == "in") = isIn r := by
  cases r with
  | num _ => exact (by decide +kernel : (("num" : Str) == "in") = false)
  | told _ _ => exact (by decide +kernel : (("told" : Str) == "in") = false)
  | inn _ => exact (by decide +kernel : (("in" : Str) == "in") = true)
  | pow _ _ => exact (by decide +kernel : (("power" : Str) == "in") = false)
  | call _ _ => exact (by decide +kernel : (("call" : Str) == "in") = false)
  | bin w _ _ => exact (by cases w <;> decide +kernel : (bwS w == "in") = false)
theorem ndS_call (r : Nd) : (ndS r == "call") = isCall r := by
  cases r with
  | num _ => exact (by decide +kernel : (("num" : Str) == "call") = false)
  | told _ _ => exact (by decide +kernel : (("told" : Str) == "call") = false)
  | inn _ => exact (by decide +kernel : (("in" : Str) == "call") = false)
  | pow _ _ => exact (by decide +kernel : (("power" : Str) == "call") = false)
  | call _ _ => exact (by decide +kernel : (("call" : Str) == "call") = true)
  | bin w _ _ => exact (by cases w <;> decide +kernel : (bwS w == "call") = false)
theorem ndS_pow (r : Nd) : (ndS r == "power") = isPow r := by
  cases r with
  | num _ => exact (by decide +kernel : (("num" : Str) == "power") = false)
  | told _ _ => exact (by decide +kernel : (("told" : Str) == "power") = false)
  | inn _ => exact (by decide +kernel : (("in" : Str) == "power") = false)
  | pow _ _ => exact (by decide +kernel : (("power" : Str) == "power") = true)
  | call _ _ => exact (by decide +kernel : (("call" : Str) == "power") = false)
  | bin w _ _ => exact (by cases w <;> decide +kernel : (bwS w == "power") = false)
def nI (k : Nat) : AV := .int (k : Int)
theorem is_right_spec (c : CBk G) {e : Nd} (o : NOk e) {many : Nat} {known : NM Nat} {p : Addr} (hk : h p = some (.dK (known.map (kvf nI)))) (hq : Q (.bl ((rows e).all (rightN many known))) h) : wpC G (n + 3) 122 [ndv e, .int many, .ref p] h Q E := by
  refine call_i c.c122 rfl ?_
  unfold c122_is_right
  refine for_v (wpC_mono G (n + 2)) ?_
  bv_omega
  refine node_rows_spec (n := n) c o.1 (by have := o.2.2; omega) fun p2 h2 l2 _ e2 => ⟨_, e2, fun rest σ h' => ∃ (done rs : List Nd) (a : Option AV), rest = rs.map ndv ∧ rows e = done ++ rs ∧ done.all (rightN many known) = true ∧ σ = [some (ndv e), some (.int many), some (.ref p), a] ∧ h' = h2, ⟨[], rows e, none, rfl, rfl, rfl, rfl, rfl⟩, ?_, ?_⟩
  · rintro σ h' ⟨done, rs, a, e3, e4, e5, rfl, rfl⟩
    cases rs with
    | nil =>
      bv_omega
      rw [List.append_nil] at e4
      rw [e4, e5] at hq
      exact ⟨e2, shr_le l2 hq⟩
    | cons _ _ => cases e3
  · rintro x rest σ h' ⟨done, rs, a, e3, e4, e5, rfl, rfl⟩
    cases rs with
    | nil => cases e3
    | cons r rs =>
      rw [List.map_cons, List.cons.injEq] at e3
      obtain ⟨rfl, rfl⟩ := e3
      refine ⟨e2, ?_⟩
      have mr : r ∈ rows e := by rw [e4]; simp
      have ok := (rows_ok e o.1 r mr).fok
      have good : ∀ y : Option AV, rightN many known r = true → ∃ (done' rs' : List Nd) (a' : Option AV), rs.map ndv = rs'.map ndv ∧ rows e = done' ++ rs' ∧ done'.all (rightN many known) = true ∧ [some (ndv e), some (.int many), some (.ref p), y] = [some (ndv e), some (.int many), some (.ref p), a'] :=
        fun y g => ⟨done ++ [r], rs, y, rfl, by rw [e4]; simp, by rw [List.all_append, e5]; simp [g], rfl⟩
      have bad : rightN many known r = false → (rows e).all (rightN many known) = false := fun g => by rw [e4, List.all_append, List.all_cons, g]; simp
      have hk' := l2 _ _ hk
      bv_omega
      rw [ndv_eq]
      bv_omega
      refine ⟨_, c.g14, ?_⟩
      bv_omega
      have so := ndS_ok r
      refine ⟨⟨so, by decide +kernel⟩, ?_⟩
      rw [ndS_in]
      cases er : isIn r with
      | true =>
        cases r with
        | inn i =>
          have e7 : ndR (.inn i) = [.int i] := rfl
          rw [e7]
          bv_omega
          by_cases e8 : i < many
          · have e9 : ¬ (many : Int) ≤ (i : Int) := by omega
            simp only [e9]
            bv_omega
            refine ⟨_, c.g15, ?_⟩
            bv_omega
            refine ⟨⟨so, by decide +kernel⟩, ?_⟩
            rw [ndS_call]
            have e10 : isCall (.inn i) = false := rfl
            simp only [e10]
            bv_omega
            exact good _ (decide_eq_true e8)
          · have e9 : (many : Int) ≤ (i : Int) := by omega
            simp only [e9]
            bv_omega
            have : rightN many known (.inn i) = false := decide_eq_false e8
            rw [bad this] at hq
            exact shr_le l2 hq
        | _ => cases er
      | false =>
        bv_omega
        refine ⟨_, c.g15, ?_⟩
        bv_omega
        refine ⟨⟨so, by decide +kernel⟩, ?_⟩
        rw [ndS_call]
        cases ec : isCall r with
        | false =>
          bv_omega
          refine good _ ?_
          cases r with
          | inn _ => cases er
          | call _ _ => cases ec
          | _ => rfl
        | true =>
          cases r with
          | call f as =>
            have e7 : ndR (.call f as) = [.str f, .tup (ndvs as)] := rfl
            rw [e7]
            bv_omega
            refine ⟨ms_get hk', get_dK hk' rfl ?_⟩
            rw [lookup_map_kv]
            bv_omega
            rw [ndvs_map, List.length_map]
            cases e8 : known.lookup f with
            | none =>
              have : rightN many known (.call f as) = false := decide_eq_false (by rw [e8]; intro q; cases q)
              rw [bad this] at hq
              refine eq_same rfl rfl (fun a e => by cases e) ?_
              exact shr_le l2 hq
            | some k =>
              show eqR (.int k) (.int as.length) _ _
              bv_omega
              by_cases e9 : k = as.length
              · subst e9
                bv_omega
                exact good _ (decide_eq_true e8)
              · have e10 : ¬ (k : Int) = (as.length : Int) := by omega
                simp only [e10]
                bv_omega
                have : rightN many known (.call f as) = false := decide_eq_false (by rw [e8]; intro q; exact e9 (Option.some.inj q))
                rw [bad this] at hq
                exact shr_le l2 hq
          | _ => cases ec
end PL

namespace PL
open PySem PySem.Spec PyProof.Rows L2
variable {G : Pg} {n : Nat} {Q : AQ} {E : AXQ} {h : AH}
mutual
def deg (ds : NM Nat) : Nd → Nat
  | .num _ => 1 | .told _ _ => 1 | .inn _ => 1
  | .bin _ a b => deg ds a + deg ds b
  | .pow a k => deg ds a * max 1 k
  | .call f as => (ds.lookup f).getD 1 * degm ds as
def degm (ds : NM Nat) : List Nd → Nat
  | [] => 0
  | e :: es => max (deg ds e) (degm ds es)
end
def callIn (ds : NM Nat) : Nd → Bool | .call f _ => (ds.lookup f).isSome | _ => true
def D200 (ds : NM Nat) : Prop := ∀ f d, ds.lookup f = some d → d ≤ 200
theorem getD200 {ds : NM Nat} (o : D200 ds) (f : Str) : (ds.lookup f).getD 1 ≤ 200 := by
  cases e : ds.lookup f with
  | none => decide
  | some d => exact o f d e
theorem pow8 (c : Nat) : 2 ^ (8 * (c + 1)) = 2 ^ (8 * c) * 256 := by
  rw [Nat.mul_add, Nat.pow_add]
mutual
theorem deg_le {ds : NM Nat} (o : D200 ds) : ∀ e : Nd, AOk e → deg ds e ≤ 2 ^ (8 * e.cnt)
  | .num _, _ => by show 1 ≤ 2 ^ 8; decide
  | .told _ _, _ => by show 1 ≤ 2 ^ 8; decide
  | .inn _, _ => by show 1 ≤ 2 ^ 8; decide
  | .bin w a b, ok => by
    have ia := deg_le o a ok.1
    have ib := deg_le o b ok.2
    show deg ds a + deg ds b ≤ 2 ^ (8 * (a.cnt + b.cnt + 1))
    rw [pow8, Nat.mul_add, Nat.pow_add]
    have pa : 0 < 2 ^ (8 * a.cnt) := Nat.pow_pos (by decide)
    have pb : 0 < 2 ^ (8 * b.cnt) := Nat.pow_pos (by decide)
    generalize 2 ^ (8 * a.cnt) = x at *
    generalize 2 ^ (8 * b.cnt) = y at *
    have h1 : x ≤ x * y := Nat.le_mul_of_pos_right x pb
    have h2 : y ≤ x * y := Nat.le_mul_of_pos_left y pa
    omega
  | .pow a k, ok => by
    have ia := deg_le o a ok.2
    show deg ds a * max 1 k ≤ 2 ^ (8 * (a.cnt + 1))
    rw [pow8]
    have hk : k ≤ 4 := ok.1
    exact Nat.mul_le_mul ia (by omega)
  | .call f as, ok => by
    have ia := degm_le o as ok.2
    show (ds.lookup f).getD 1 * degm ds as ≤ 2 ^ (8 * (Nd.cnts as + 1))
    rw [pow8, Nat.mul_comm]
    have := getD200 o f
    exact Nat.mul_le_mul ia (by omega)
theorem degm_le {ds : NM Nat} (o : D200 ds) : ∀ es : List Nd, AOks es → degm ds es ≤ 2 ^ (8 * Nd.cnts es)
  | [], _ => Nat.zero_le _
  | e :: es, ok => by
    have i1 := deg_le o e ok.1
    have i2 := degm_le o es ok.2
    show max (deg ds e) (degm ds es) ≤ 2 ^ (8 * (e.cnt + Nd.cnts es))
    rw [Nat.mul_add, Nat.pow_add]
    have pa : 0 < 2 ^ (8 * e.cnt) := Nat.pow_pos (by decide)
    have pb : 0 < 2 ^ (8 * Nd.cnts es) := Nat.pow_pos (by decide)
    generalize 2 ^ (8 * e.cnt) = x at *
    generalize 2 ^ (8 * Nd.cnts es) = y at *
    have h1 : x ≤ x * y := Nat.le_mul_of_pos_right x pb
    have h2 : y ≤ x * y := Nat.le_mul_of_pos_left y pa
    omega
end
theorem degm_max {ds : NM Nat} : ∀ {es : List Nd} {m : Int}, m ∈ es.map (fun e => (deg ds e : Int)) → (∀ y ∈ es.map (fun e => (deg ds e : Int)), y ≤ m) → m = (degm ds es : Int)
  | [], m, hm, _ => by cases hm
  | [e], m, hm, _ => by
    rw [List.map_cons, List.map_nil, List.mem_singleton] at hm
    rw [hm]
    show _ = ((max (deg ds e) 0 : Nat) : Int)
    rw [Nat.max_zero]
  | e :: e2 :: es, m, hm, hl => by
    have he := hl (deg ds e : Int) (by simp)
    show m = ((max (deg ds e) (degm ds (e2 :: es)) : Nat) : Int)
    by_cases q : m ∈ (e2 :: es).map (fun e => (deg ds e : Int))
    · have := degm_max q fun y hy => hl y (by rw [List.map_cons]; exact List.mem_cons_of_mem _ hy)
      omega
    · rw [List.map_cons] at hm
      rcases List.mem_cons.mp hm with rfl | hm
      · have all : ∀ l : List Nd, (∀ y ∈ l.map (fun e => (deg ds e : Int)), y ≤ (deg ds e : Int)) → degm ds l ≤ deg ds e := by
          intro l
          induction l with
          | nil => intro _; exact Nat.zero_le _
          | cons a l ih =>
            intro hl
            have := hl (deg ds a : Int) (by simp)
            have := ih fun y hy => hl y (by rw [List.map_cons]; exact List.mem_cons_of_mem _ hy)
            show max (deg ds a) (degm ds l) ≤ _
            omega
        have := all (e2 :: es) fun y hy => hl y (by rw [List.map_cons]; exact List.mem_cons_of_mem _ hy)
        omega
      · exact absurd hm q
theorem lift_nd (g : Nd → AV) : ∃ f : AV → AV, ∀ s, f (ndv s) = g s := by
  refine ⟨fun x => @dite _ (∃ s, ndv s = x) (Classical.propDecidable _) (fun hx => g hx.choose) fun _ => .non, fun s => ?_⟩
  have hx : ∃ t, ndv t = ndv s := ⟨s, rfl⟩
  show @dite _ (∃ t, ndv t = ndv s) (Classical.propDecidable _) (fun hx => g hx.choose) (fun _ => AV.non) = g s
  rw [dif_pos hx, ndv_inj _ _ hx.choose_spec]
theorem rows_sub {e s r : Nd} (hs : s ∈ subs e) (hr : r ∈ rows s) : r ∈ rows e := by
  rw [rows_subs]
  exact List.mem_cons_of_mem _ (List.mem_flatMap.mpr ⟨s, hs, hr⟩)
theorem rows_self (e : Nd) : e ∈ rows e := by rw [rows_subs]; exact List.mem_cons_self
theorem su_lst {a : Addr} {xs : List AV} {ns : List Int} {h : AH} {Q : AQ} (e : h a = some (.lst xs)) (en : ints? xs = some ns) (q : Q (.int ns.sum) h) : sumR (.ref a) h Q := ⟨xs, ns, e, en, q⟩
theorem le_sum {x : Nat} : ∀ {l : List Nat}, x ∈ l → x ≤ l.sum
  | [], h => by cases h
  | y :: l, h => by
    rw [List.sum_cons]
    rcases List.mem_cons.mp h with rfl | h
    · omega
    · have := le_sum h
      omega
theorem cnt_sub {e s : Nd} (hs : s ∈ subs e) : s.cnt < e.cnt := by
  rw [cnt_subs e]
  have : s.cnt ∈ (subs e).map Nd.cnt := List.mem_map_of_mem hs
  have := le_sum this
  omega
theorem lt_pow8 {x c : Nat} (hx : x ≤ 2 ^ (8 * c)) : ((x : Nat) : Int).natAbs < 2 ^ (8 * c + 1) := by
  rw [Int.natAbs_natCast]
  exact Nat.lt_of_le_of_lt hx (Nat.pow_lt_pow_right (by decide) (by omega))
theorem degree_of_spec (c : CBk G) {ds : NM Nat} {p : Addr} (o2 : D200 ds) : ∀ (k : Nat) (e : Nd) {h : AH} {Q : AQ} {E : AXQ}, AOk e → e.dep ≤ k → e.cnt ≤ 1000 → (∀ r ∈ rows e, callIn ds r = true) → h p = some (.dK (ds.map (kvf nI))) → (∀ h', ALe h h' → Q (nI (deg ds e)) h') → wpC G (n + 1 + k) 120 [ndv e, .ref p] h Q E
  | 0, e, h, Q, E, o, hd, _, _, _, _ => by have := dep_pos e; omega
  | k + 1, e, h, Q, E, o, hd, hc, hcall, hp, hq => by
    refine call_i (n := n + 1 + k) c.c120 rfl ?_
    unfold c120_degree_of
    obtain ⟨f, hf⟩ := lift_nd fun s => nI (deg ds s)
    have ef : ((subs e).map ndv).map f = (subs e).map fun s => nI (deg ds s) := by
      rw [List.map_map]
      apply List.map_congr_left
      intro s _
      exact hf s
    have sl := sum_len (es := subs e)
    have ec := cnt_subs e
    bv_omega
    refine map_comp (wpC_mono G (n + 1 + k)) ?_
    bv_omega
    have rw1 : n + 1 + k = (n + k) + 1 := by omega
    rw [rw1]
    refine raw_parts_spec (n := n + k) c (hasForm_ndv.mpr o.fok) (ndv_dty o) fun p2 h2 l2 _ e2 => ?_
    rw [parts_ndv] at e2
    refine ⟨_, e2, by rw [List.length_map]; omega, fun h3 l3 => l3 _ _ e2, f, fun x hx h3 l3 => ?_, fun D hD => ?_⟩
    · obtain ⟨s, hs, rfl⟩ := List.mem_map.mp hx
      bv_omega
      rw [← rw1]
      refine degree_of_spec c o2 k s ((aok_iff.mp o).2 s hs) (dep_subs.mp hd s hs) (by have := cnt_sub hs; omega) (fun r hr => hcall r (rows_sub hs hr)) (l3 _ _ (l2 _ _ hp)) fun h' l' => ⟨(hf s).symm, l'⟩
    · rw [ef]
      have lD : ALe h (aupd h2 D (.lst ((subs e).map fun s => nI (deg ds s)))) := ALe.trans l2 (ALe.fresh hD)
      have eD : aupd h2 D (.lst ((subs e).map fun s => nI (deg ds s))) D = some (.lst ((subs e).map fun s => nI (deg ds s))) := aupd_same
      generalize aupd h2 D (.lst ((subs e).map fun s => nI (deg ds s))) = h5 at lD eD
      have hp5 := lD _ _ hp
      have hq := hq h5 lD
      refine n_lst eD ?_
      bv_omega
      have so := ndS_ok e
      rw [ndv_eq]
      have sp := ndS_pow e
      have sc := ndS_call e
      cases e with
      | bin w a b =>
        bv_omega
        have e3 : (subs (.bin w a b)).map (fun s => nI (deg ds s)) = [nI (deg ds a), nI (deg ds b)] := rfl
        rw [e3] at eD
        simp only [e3]
        bv_omega
        rw [if_neg (show ¬ (((2 : Nat) : Int) = 0) by omega)]
        refine ⟨_, c.g16, ?_⟩
        bv_omega
        refine ⟨⟨so, by decide +kernel⟩, ?_⟩
        rw [sp]
        simp only [isPow]
        bv_omega
        refine ⟨_, c.g15, ?_⟩
        bv_omega
        refine ⟨⟨so, by decide +kernel⟩, ?_⟩
        rw [sc]
        simp only [isCall]
        bv_omega
        refine su_lst eD rfl ?_
        have : [((deg ds a : Nat) : Int), ((deg ds b : Nat) : Int)].sum = ((deg ds (.bin w a b) : Nat) : Int) := by
          show _ = ((deg ds a + deg ds b : Nat) : Int)
          simp
        rw [this]
        exact shr_i hq
      | pow a m =>
        have e3 : (subs (.pow a m)).map (fun s => nI (deg ds s)) = [nI (deg ds a)] := rfl
        rw [e3] at eD
        simp only [e3]
        bv_omega
        rw [if_neg (show ¬ (((1 : Nat) : Int) = 0) by omega)]
        refine ⟨_, c.g16, ?_⟩
        bv_omega
        refine ⟨⟨so, by decide +kernel⟩, ?_⟩
        rw [sp]
        simp only [isPow]
        bv_omega
        refine x_lst eD rfl ?_
        have e4 : ndR (.pow a m) = [ndv a, .int m] := rfl
        rw [e4]
        bv_omega
        refine ⟨1, m, rfl, rfl, ?_⟩
        show CMulW (deg ds a : Int) (if (m : Int) > 1 then (m : Int) else 1) ∧ _
        have e5 : (if (m : Int) > 1 then (m : Int) else 1) = ((max 1 m : Nat) : Int) := by split <;> omega
        rw [e5]
        have hm : m ≤ 4 := o.1
        have la := lt_pow8 (deg_le o2 a o.2)
        refine ⟨mulW la (show ((max 1 m : Nat) : Int).natAbs < 2 ^ 3 by rw [Int.natAbs_natCast]; omega) (by omega) (by omega) ?_, ?_⟩
        · have hc : a.cnt + 1 ≤ 1000 := hc
          omega
        · rw [← Int.natCast_mul]
          exact shr_i hq
      | call g as =>
        have e3 : subs (.call g as) = as := rfl
        simp only [e3] at eD ⊢
        have l1 : 1 ≤ as.length := o.1.2.1
        bv_omega
        have z : ¬ (((as.map fun s => nI (deg ds s)).length : Int) = 0) := by rw [List.length_map]; omega
        rw [List.length_map] at z
        simp only [List.length_map, z]
        bv_omega
        refine ⟨_, c.g16, ?_⟩
        bv_omega
        refine ⟨⟨so, by decide +kernel⟩, ?_⟩
        rw [sp]
        simp only [isPow]
        bv_omega
        refine ⟨_, c.g15, ?_⟩
        bv_omega
        refine ⟨⟨so, by decide +kernel⟩, ?_⟩
        rw [sc]
        simp only [isCall]
        bv_omega
        have e4 : ndR (.call g as) = [.str g, .tup (ndvs as)] := rfl
        rw [e4]
        bv_omega
        have hs : (ds.lookup g).isSome = true := hcall _ (rows_self _)
        cases e5 : ds.lookup g with
        | none => rw [e5] at hs; cases hs
        | some d =>
          refine x_dK hp5 rfl (by rw [lookup_map_kv, e5]; rfl) ?_
          refine ⟨as.map fun s => ((deg ds s : Nat) : Int), ?_, ?_, fun m hm hl => ?_⟩
          · cases as with
            | nil => cases l1
            | cons _ _ => simp
          · rw [eD, List.map_map]; rfl
          · rw [degm_max hm hl]
            show CMulW (d : Int) (degm ds as : Int) ∧ _
            have hd2 := o2 g d e5
            have la := lt_pow8 (degm_le o2 as o.2)
            refine ⟨mulW (show ((d : Nat) : Int).natAbs < 2 ^ 8 by rw [Int.natAbs_natCast]; omega) la (by omega) (by omega) ?_, ?_⟩
            · have hc : Nd.cnts as + 1 ≤ 1000 := hc
              omega
            · rw [← Int.natCast_mul]
              have : deg ds (.call g as) = d * degm ds as := by show (ds.lookup g).getD 1 * _ = _; rw [e5]; rfl
              rw [← this]
              exact shr_i hq
      | _ =>
        refine (if_pos rfl).mpr ?_
        exact shr_i hq
end PL

namespace PL
open PySem PySem.Spec PyProof.Rows L2
variable {G : Pg} {n : Nat} {Q : AQ} {E : AXQ} {h : AH}
def kn (b : List Fm) : NM Nat := b.map fun f => (f.name, f.sizes.length)
def dgs (b : List Fm) : NM Nat := b.foldl (fun ds f => ds ++ [(f.name, deg ds f.e)]) []
def bkv (b : List Fm) : AV := .tup (b.map fmv)
structure FOk (pre : List Fm) (f : Fm) : Prop where
  ok : FmOk f
  new : f.name ∉ pre.map (·.name)
  right : (rows f.e).all (rightN f.sizes.length (kn pre)) = true
  deg : deg (dgs pre) f.e ≤ 200
def Upto (b : List Fm) : Prop := ∀ pre f post, b = pre ++ f :: post → FOk pre f
structure BkOk (b : List Fm) : Prop where
  l1 : 1 ≤ b.length
  l10 : b.length ≤ 10
  up : Upto b
def isBk (v : AV) : Prop := ∃ b, v = bkv b ∧ BkOk b
theorem dgs_snoc (b : List Fm) (f : Fm) : dgs (b ++ [f]) = dgs b ++ [(f.name, deg (dgs b) f.e)] := by
  unfold dgs
  rw [List.foldl_append]
  rfl
theorem kn_snoc (b : List Fm) (f : Fm) : kn (b ++ [f]) = kn b ++ [(f.name, f.sizes.length)] := by
  unfold kn
  rw [List.map_append]
  rfl
theorem snoc_ind {P : List Fm → Prop} (h0 : P []) (hs : ∀ b f, P b → P (b ++ [f])) (b : List Fm) : P b := by
  have : ∀ k (b : List Fm), b.length = k → P b := by
    intro k
    induction k with
    | zero => intro b e; rw [List.eq_nil_of_length_eq_zero e]; exact h0
    | succ k ih =>
      intro b e
      have nb : b ≠ [] := by rintro rfl; cases e
      rw [← List.dropLast_concat_getLast nb]
      refine hs _ _ (ih _ ?_)
      rw [List.length_dropLast, e]; rfl
  exact this _ b rfl
theorem dgs_keys (b : List Fm) : (dgs b).map (·.1) = b.map (·.name) := by
  refine snoc_ind (P := fun b => (dgs b).map (·.1) = b.map (·.name)) rfl (fun b f ih => ?_) b
  rw [dgs_snoc, List.map_append, List.map_append, ih]
  rfl
theorem kn_keys (b : List Fm) : (kn b).map (·.1) = b.map (·.name) := by
  unfold kn
  rw [List.map_map]
  rfl
theorem Upto.pre {a b : List Fm} (u : Upto (a ++ b)) : Upto a := fun pre f post e => u pre f (post ++ b) (by rw [e]; simp)
theorem Upto.snoc {b : List Fm} {f : Fm} (u : Upto b) (o : FOk b f) : Upto (b ++ [f]) := by
  intro pre g post e
  rcases List.append_eq_append_iff.mp e with ⟨as, h1, h2⟩ | ⟨bs, h1, h2⟩
  · cases as with
    | nil =>
      rw [List.append_nil] at h1
      subst h1
      have h2 : f :: [] = g :: post := h2
      cases h2
      exact o
    | cons a as =>
      have := congrArg List.length h2
      simp at this
  · cases bs with
    | nil =>
      rw [List.append_nil] at h1
      subst h1
      have h2 : g :: post = f :: [] := h2
      cases h2
      exact o
    | cons x bs =>
      rw [List.cons_append, List.cons.injEq] at h2
      obtain ⟨rfl, h2⟩ := h2
      exact u pre g bs h1
theorem lookup_snoc {d : NM Nat} {a b : Str} {v : Nat} : (d ++ [(a, v)]).lookup b = match d.lookup b with | some x => some x | none => if b = a then some v else none := by
  induction d with
  | nil =>
    show (match b == a with | true => some v | false => none) = _
    by_cases e : b = a
    · simp [e]
    · have : (b == a) = false := by simp [e]
      rw [this, if_neg e]
      rfl
  | cons p d ih =>
    rw [List.cons_append, List.lookup_cons, List.lookup_cons]
    cases b == p.1 with
    | true => rfl
    | false => exact ih
theorem dgs_200 {b : List Fm} (u : Upto b) : D200 (dgs b) := by
  revert u
  refine snoc_ind (P := fun b => Upto b → D200 (dgs b)) (fun _ f d e => by cases e) (fun b f ih u => ?_) b
  intro g d e
  rw [dgs_snoc, lookup_snoc] at e
  cases e1 : (dgs b).lookup g with
  | some x =>
    rw [e1] at e
    cases e
    exact ih u.pre g d e1
  | none =>
    rw [e1] at e
    have e : (if g = f.name then some (deg (dgs b) f.e) else none) = some d := e
    split at e
    · cases e
      exact (u b f [] rfl).deg
    · cases e
theorem lookup_isS {α : Type} {d : NM α} {b : Str} : (d.lookup b).isSome = true ↔ b ∈ d.map (·.1) := by
  induction d with
  | nil => simp
  | cons p d ih =>
    rw [List.lookup_cons, List.map_cons, List.mem_cons]
    by_cases e : b = p.1
    · simp [e]
    · have : (b == p.1) = false := by simp [e]
      rw [this]
      simp [e, ih]
theorem has_kv {α : Type} (f : α → AV) (s : NM α) (b : Str) : (dget (s.map (kvf f)) (.inr b)).isSome = decide (b ∈ s.map (·.1)) := by
  rw [lookup_map_kv, Option.isSome_map]
  by_cases e : b ∈ s.map (·.1)
  · rw [lookup_isS.mpr e, decide_eq_true e]
  · rw [decide_eq_false e]
    cases q : (s.lookup b).isSome with
    | false => rfl
    | true => exact absurd (lookup_isS.mp q) e
theorem call_in {b : List Fm} {m : Nat} {r : Nd} (e : rightN m (kn b) r = true) : callIn (dgs b) r = true := by
  cases r with
  | call f as =>
    have e : decide ((kn b).lookup f = some as.length) = true := e
    rw [decide_eq_true_eq] at e
    show ((dgs b).lookup f).isSome = true
    rw [lookup_isS, dgs_keys, ← kn_keys, ← lookup_isS, e]
    rfl
  | _ => rfl
theorem bk_split {b done : List Fm} {x : AV} {rest : List AV} (e : b.map fmv = done.map fmv ++ x :: rest) : ∃ f post, b = done ++ f :: post ∧ x = fmv f := by
  obtain ⟨b1, b2, rfl, h1, h2⟩ := List.map_eq_append_iff.mp e
  obtain ⟨f, post, rfl, h3, _⟩ := List.map_eq_cons_iff.mp h2
  refine ⟨f, post, ?_, h3.symm⟩
  congr 1
  clear e h2
  induction b1 generalizing done with
  | nil => cases done with
    | nil => rfl
    | cons _ _ => cases h1
  | cons a b1 ih => cases done with
    | nil => cases h1
    | cons d done =>
      rw [List.map_cons, List.map_cons, List.cons.injEq] at h1
      rw [fmv_inj h1.1, ih h1.2]
theorem dset_new {α : Type} {d : NM α} {b : Str} {v : α} (hb : b ∉ d.map (·.1)) : dset d b v = d ++ [(b, v)] := by
  unfold dset
  rw [if_neg hb]
theorem is_book_spec (c : CBk G) {v : AV} (ht : DTy h v) (h1 : isBk v → Q (.bl true) h) (h0 : ¬ isBk v → Q (.bl false) h) : wpC G (n + 14) 123 [v] h Q E := by
  refine call_i c.c123 rfl ?_
  unfold c123_is_book
  have nt : (∀ xs, v ≠ .tup xs) → Q (.bl false) h := fun k => h0 fun ⟨b, e, _⟩ => k _ e
  cases v with
  | tup xs =>
    obtain ⟨hl, hx⟩ := dty_tup.mp ht
    bv_omega
    by_cases e1 : 1 ≤ xs.length
    · have e2 : (1 : Int) ≤ (xs.length : Int) := by omega
      simp only [e2]
      bv_omega
      refine ⟨_, c.g17, ?_⟩
      bv_omega
      by_cases e3 : xs.length ≤ 10
      · have e4 : (xs.length : Int) ≤ 10 := by omega
        simp only [e4]
        bv_omega
        intro p hp q hq
        have np : p ≠ q := by rintro rfl; rw [aupd_same] at hq; cases hq
        have hqh : h q = none := by rw [aupd_ne (Ne.symm np)] at hq; exact hq
        refine for_v (wpC_mono G (n + 13)) ?_
        bv_omega
        refine ⟨fun rest σ h' => ∃ (done : List Fm) (a : Option AV), xs = done.map fmv ++ rest ∧ Upto done ∧ σ = [some (.tup xs), some (.ref p), some (.ref q), a] ∧ ALe h h' ∧ h' p = some (.dK ((kn done).map (kvf nI))) ∧ h' q = some (.dK ((dgs done).map (kvf nI))), ⟨[], none, rfl, fun pre f post e => by simp at e, rfl, ale_upd hqh (ALe.fresh hp), (aupd_ne np).trans aupd_same, aupd_same⟩, ?_, ?_⟩
        · rintro σ h' ⟨done, a, e5, u, rfl, l, e6, e7⟩
          bv_omega
          rw [List.append_nil] at e5
          refine shr_le l (h1 ⟨done, by rw [e5]; rfl, ?_, ?_, u⟩)
          · rw [e5, List.length_map] at e1; exact e1
          · rw [e5, List.length_map] at e3; exact e3
        · rintro x rest σ h' ⟨done, a, e5, u, rfl, l, e6, e7⟩
          have dx : DTy h x := hx x (by rw [e5]; simp)
          have no : (∀ f, x = fmv f → ¬ FOk done f) → Q (.bl false) h := fun k => h0 fun ⟨b, e, ok⟩ => by
            unfold bkv at e
            cases e
            obtain ⟨f, post, rfl, ef⟩ := bk_split e5
            exact k f ef (ok.up done f post rfl)
          bv_omega
          refine has_formula_spec (n := n + 5) c (dx.mono l) ?_
          cases e8 : hasFmB x with
          | false =>
            bv_omega
            exact shr_le l (no fun f ef o => by rw [hasFm_iff.mpr ⟨f, ef, o.ok⟩] at e8; cases e8)
          | true =>
            obtain ⟨f, rfl, of⟩ := hasFm_iff.mp e8
            have no' : ¬ FOk done f → Q (.bl false) h := fun k => no fun g eg => by rw [← fmv_inj eg]; exact k
            unfold fmv
            bv_omega
            refine .inr (.inl ⟨_, _, e6, rfl, ?_⟩)
            rw [has_kv, kn_keys]
            by_cases e9 : f.name ∈ done.map (·.name)
            · simp only [e9]
              bv_omega
              exact shr_le l (no' fun o => o.new e9)
            · simp only [e9]
              bv_omega
              rw [List.length_map]
              refine is_right_spec (n := n + 10) c of.nd e6 ?_
              cases e10 : (rows f.e).all (rightN f.sizes.length (kn done)) with
              | false =>
                bv_omega
                exact shr_le l (no' fun o => by rw [o.right] at e10; cases e10)
              | true =>
                bv_omega
                have d200 := dgs_200 u
                refine degree_of_spec (n := n) c d200 12 f.e of.nd.1 of.nd.2.1 (by have := of.nd.2.2; omega) (fun r hr => call_in (List.all_eq_true.mp e10 r hr)) e7 fun h2 l2 => ?_
                have ka : f.name ∉ (dgs done).map (·.1) := by rw [dgs_keys]; exact e9
                have kb : f.name ∉ (kn done).map (·.1) := by rw [kn_keys]; exact e9
                have ld : done.length ≤ 10 := by
                  have := congrArg List.length e5
                  rw [List.length_append, List.length_map] at this
                  omega
                have kd : (dgs done).length = done.length := by
                  have := congrArg List.length (dgs_keys done)
                  rw [List.length_map, List.length_map] at this
                  exact this
                have kk : (kn done).length = done.length := by unfold kn; rw [List.length_map]
                bv_omega
                refine set_dK (l2 _ _ e7) rfl (len_small (by rw [List.length_map]; omega)) ?_
                rw [dput_kv, dset_new ka]
                bv_omega
                have el : (dgs done ++ [(f.name, deg (dgs done) f.e)]).lookup f.name = some (deg (dgs done) f.e) := by
                  rw [lookup_snoc]
                  cases e11 : (dgs done).lookup f.name with
                  | none => exact if_pos rfl
                  | some x => exact absurd (lookup_isS.mp (by rw [e11]; rfl)) ka
                refine x_dK aupd_same rfl (by rw [lookup_map_kv, el]; rfl) ?_
                refine ⟨_, c.g18, ?_⟩
                have lq : ALe h (aupd h2 q (.dK ((dgs done ++ [(f.name, deg (dgs done) f.e)]).map (kvf nI)))) := ale_upd hqh (ALe.trans l l2)
                have hpp : aupd h2 q (.dK ((dgs done ++ [(f.name, deg (dgs done) f.e)]).map (kvf nI))) p = some (.dK ((kn done).map (kvf nI))) := (aupd_ne np).trans (l2 _ _ e6)
                show (if decide ((200 : Int) < (deg (dgs done) f.e : Int)) = true then _ else _)
                by_cases e12 : deg (dgs done) f.e ≤ 200
                · have e13 : ¬ (200 : Int) < (deg (dgs done) f.e : Int) := by omega
                  simp only [e13, decide_false, if_false, Bool.false_eq_true]
                  refine set_dK hpp rfl (len_small (by rw [List.length_map]; omega)) ?_
                  have e14 := dput_kv (f := nI) (d := kn done) (b := f.name) (v := f.sizes.length)
                  rw [dset_new kb] at e14
                  have e15 : dput ((kn done).map (kvf nI)) (.inr f.name) (.int f.sizes.length) = (kn done ++ [(f.name, f.sizes.length)]).map (kvf nI) := e14
                  rw [e15]
                  refine ⟨done ++ [f], _, ?_, u.snoc ⟨of, e9, e10, e12⟩, rfl, ale_upd hp lq, ?_, ?_⟩
                  · rw [e5, List.map_append, List.append_assoc]; rfl
                  · rw [aupd_same, kn_snoc]
                  · rw [aupd_ne (Ne.symm np), aupd_same, dgs_snoc]
                · have e13 : (200 : Int) < (deg (dgs done) f.e : Int) := by omega
                  simp only [e13, decide_true, if_true]
                  exact shr_le lq (no' fun o => e12 o.deg)
      · have e4 : ¬ (xs.length : Int) ≤ 10 := by omega
        simp only [e4]
        bv_omega
        refine shr_i (h0 fun ⟨b, e, o⟩ => ?_)
        unfold bkv at e
        cases e
        rw [List.length_map] at e3
        exact e3 o.l10
    · have e2 : ¬ (1 : Int) ≤ (xs.length : Int) := by omega
      simp only [e2]
      bv_omega
      refine shr_i (h0 fun ⟨b, e, o⟩ => ?_)
      unfold bkv at e
      cases e
      rw [List.length_map] at e1
      exact e1 o.l1
  | ref a =>
    have hq := nt fun _ e => by cases e
    bv_omega
    rcases dty_ref.mp ht with ⟨xs, e⟩ | ⟨xs, e⟩
    · refine t_lst e ?_
      bv_omega
      exact shr_i hq
    · refine t_dK e ?_
      bv_omega
      exact shr_i hq
  | wt _ => exact (dty_wt ht).elim
  | _ =>
    have hq := nt fun _ e => by cases e
    bv_omega
    exact shr_i hq
end PL

namespace PL
open PySem PySem.Spec PyProof.Rows L2
variable {G : Pg} {n : Nat} {Q : AQ} {E : AXQ} {h : AH}
structure CBa (G : Pg) : Prop where
  b : CBk G
  c125 : G.code 125 = some f125
  c126 : G.code 126 = some f126
  c127 : G.code 127 = some f127
  c137 : G.code 137 = some f137
  c138 : G.code 138 = some f138
  c139 : G.code 139 = some f139
  c140 : G.code 140 = some f140
theorem check_book_spec (c : CBk G) {v : AV} (ht : DTy h v) (h1 : isBk v → Q .non h) (h0 : ¬ isBk v → E ⟨9, []⟩ h) : wpC G (n + 15) 124 [v] h Q E := by
  refine call_i c.c124 rfl ?_
  unfold c124_check_book
  bv_omega
  refine is_book_spec (n := n) c ht (fun k => ?_) fun k => ?_
  · bv_omega
    exact shr_i (h1 k)
  · bv_omega
    exact shr_i (h0 k)
theorem check_number_spec (c : CBa G) {xs : List AV} {v : AV} (ht : Tyd h v) (h1 : inV v 0 ((xs.length : Int) - 1) = true → Q .non h) (h0 : inV v 0 ((xs.length : Int) - 1) = false → E ⟨10, []⟩ h) : wpC G (n + 3) 125 [.tup xs, v] h Q E := by
  refine call_i c.c125 rfl ?_
  unfold c125_check_number
  bv_omega
  refine is_within_spec (n := n) c.b.cd.c0 c.b.c26 ht ?_
  cases e : inV v 0 ((xs.length : Int) - 1) with
  | true =>
    bv_omega
    exact shr_i (h1 e)
  | false =>
    bv_omega
    exact shr_i (h0 e)
theorem check_formula_spec (c : CBa G) {v r : AV} (ht : DTy h v) (hr : Tyd h r) (h1 : ∀ b, v = bkv b → BkOk b → inV r 0 ((b.length : Int) - 1) = true → Q .non h) (hp : ∀ b, v = bkv b → BkOk b → inV r 0 ((b.length : Int) - 1) = false → E ⟨10, []⟩ h) (h0 : ¬ isBk v → E ⟨9, []⟩ h) : wpC G (n + 16) 127 [v, r] h Q E := by
  refine call_i c.c127 rfl ?_
  unfold c127_check_formula
  bv_omega
  refine check_book_spec (n := n) c.b ht (fun k => ?_) fun k => shr_i (h0 k)
  obtain ⟨b, rfl, ok⟩ := k
  have el : ((b.map fmv).length : Int) - 1 = (b.length : Int) - 1 := by rw [List.length_map]
  refine check_number_spec (n := n + 12) c hr (fun k => ?_) fun k => ?_
  · rw [el] at k
    exact shr_i (h1 b rfl ok k)
  · rw [el] at k
    exact shr_i (hp b rfl ok k)
def numsF : Nat → List Fm → NM Nat
  | _, [] => []
  | i, f :: fs => (f.name, i) :: numsF (i + 1) fs
theorem numsF_keys : ∀ (i : Nat) (b : List Fm), (numsF i b).map (·.1) = b.map (·.name)
  | _, [] => rfl
  | i, f :: fs => by
    show f.name :: (numsF (i + 1) fs).map (·.1) = _
    rw [numsF_keys (i + 1) fs]; rfl
theorem numsF_len (i : Nat) (b : List Fm) : (numsF i b).length = b.length := by
  have := congrArg List.length (numsF_keys i b)
  rw [List.length_map, List.length_map] at this
  exact this
theorem Upto.nodup {b : List Fm} (u : Upto b) : (b.map (·.name)).Nodup := by
  revert u
  refine snoc_ind (P := fun b => Upto b → (b.map (·.name)).Nodup) (fun _ => List.nodup_nil) (fun b f ih u => ?_) b
  rw [List.map_append, List.nodup_append]
  refine ⟨ih u.pre, by simp, fun x hx y hy => ?_⟩
  rw [List.map_cons, List.map_nil, List.mem_singleton] at hy
  rintro rfl
  exact (u b f [] rfl).new (hy ▸ hx)
def numF : AV → AV | .wt [.int i, .tup (.str s :: _)] => .tup [.str s, .int i] | _ => .non
theorem enum_num : ∀ (i : Nat) (b : List Fm), (enumL i (b.map fmv)).map numF = (numsF i b).map (prf nI)
  | _, [] => rfl
  | i, f :: fs => by
    show numF (.wt [.int i, fmv f]) :: (enumL (i + 1) (fs.map fmv)).map numF = _
    rw [enum_num (i + 1) fs]; rfl
theorem enum_mem : ∀ {i : Nat} {b : List Fm} {x : AV}, x ∈ enumL i (b.map fmv) → ∃ (j : Nat) (f : Fm), x = .wt [.int j, fmv f] ∧ f ∈ b
  | i, [], x, hx => by cases hx
  | i, f :: fs, x, hx => by
    rcases List.mem_cons.mp (show x ∈ .wt [.int i, fmv f] :: enumL (i + 1) (fs.map fmv) from hx) with rfl | hx
    · exact ⟨i, f, rfl, List.mem_cons_self⟩
    · obtain ⟨j, g, e, hg⟩ := enum_mem hx
      exact ⟨j, g, e, List.mem_cons_of_mem _ hg⟩
theorem enum_len {i : Nat} {xs : List AV} : (enumL i xs).length = xs.length := by
  induction xs generalizing i with
  | nil => rfl
  | cons x xs ih => show (enumL (i + 1) xs).length + 1 = _; rw [ih]; rfl
theorem formula_numbers_spec (c : CBa G) {b : List Fm} (o : BkOk b) (hq : ∀ p h', ALe h h' → h p = none → h' p = some (.dK ((numsF 0 b).map (kvf nI))) → Q (.ref p) h') : wpC G (n + 1) 126 [bkv b] h Q E := by
  refine call_i c.c126 rfl ?_
  unfold c126_formula_numbers
  bv_omega
  refine map_comp (wpC_mono G n) ?_
  unfold bkv
  bv_omega
  refine ⟨by rw [enum_len, List.length_map]; have := o.l10; omega, fun _ _ => trivial, numF, fun x hx h2 l => ?_, fun D hD => ?_⟩
  · obtain ⟨j, f, rfl, hf⟩ := enum_mem hx
    refine g_wtR rfl ?_
    unfold fmv
    bv_omega
    exact ⟨rfl, ALe.refl⟩
  · rw [enum_num]
    refine .inl ⟨_, _, aupd_same, pairs_np _, ?_⟩
    have e1 := merge_kv (f := nI) (numsF 0 b) [] (by simp) (by unfold NKs; rw [numsF_keys]; exact o.up.nodup)
    have e2 : merge [] ((numsF 0 b).map (kvf nI)) = (numsF 0 b).map (kvf nI) := e1
    rw [e2]
    intro p hp
    have np : p ≠ D := by rintro rfl; rw [aupd_same] at hp; cases hp
    rw [aupd_ne np] at hp
    exact shr_i (hq p _ (ale_upd hp (ALe.fresh hD)) hp aupd_same)
theorem fmv_dty {f : Fm} (o : FmOk f) : DTy h (fmv f) := by
  unfold fmv
  refine dty_tup2 (by have := name_len o.name; omega) (dty_tup.mpr ⟨by rw [List.length_map]; have := o.l4; omega, fun x hx => ?_⟩) (ndv_dty o.nd.1)
  obtain ⟨d, hd, rfl⟩ := List.mem_map.mp hx
  exact dty_plain (o.plain d hd)
theorem BkOk.fm {b : List Fm} (o : BkOk b) {f : Fm} (hf : f ∈ b) : FmOk f := by
  obtain ⟨pre, post, e⟩ := List.append_of_mem hf
  exact (o.up pre f post e).ok
theorem bkv_dty {b : List Fm} (o : BkOk b) : DTy h (bkv b) := by
  refine dty_tup.mpr ⟨by rw [List.length_map]; have := o.l10; omega, fun x hx => ?_⟩
  obtain ⟨f, hf, rfl⟩ := List.mem_map.mp hx
  exact fmv_dty (o.fm hf)
theorem isBk_bkv {b : List Fm} (o : BkOk b) : isBk (bkv b) := ⟨b, rfl, o⟩
theorem bkv_inj {a b : List Fm} (e : bkv a = bkv b) : a = b := by
  unfold bkv at e
  simp only [AV.tup.injEq] at e
  induction a generalizing b with
  | nil => cases b with
    | nil => rfl
    | cons _ _ => cases e
  | cons x a ih => cases b with
    | nil => cases e
    | cons y b =>
      rw [List.map_cons, List.map_cons, List.cons.injEq] at e
      rw [fmv_inj e.1, ih e.2]
def numOf (b : List Fm) : AV → AV | .str s => if nameOk s = true then (((numsF 0 b).lookup s).map nI).getD .non else .non | _ => .non
theorem formula_number_spec (c : CBa G) {b : List Fm} (o : BkOk b) {v : AV} (ht : DTy h v) (hq : Q (numOf b v) h) : wpC G (n + 16) 140 [bkv b, v] h Q E := by
  refine call_i c.c140 rfl ?_
  unfold c140_formula_number
  bv_omega
  refine check_book_spec (n := n) c.b (bkv_dty o) (fun _ => ?_) fun k => absurd (isBk_bkv o) k
  refine is_name_spec (n := n + 14) c.b.cd.c34 c.b.cd.g0 c.b.cd.g1 ht ?_
  cases e1 : isName v with
  | false =>
    bv_omega
    have : numOf b v = .non := by
      cases v with
      | str s =>
        have e1 : nameOk s = false := e1
        show (if nameOk s = true then _ else AV.non) = AV.non
        rw [if_neg (by rw [e1]; intro q; cases q)]
      | _ => rfl
    rw [this] at hq
    exact shr_i hq
  | true =>
    cases v with
    | str s =>
      have e1 : nameOk s = true := e1
      bv_omega
      refine formula_numbers_spec (n := n + 14) c o fun p h' l hp e2 => ⟨ms_get e2, get_dK e2 rfl ?_⟩
      rw [lookup_map_kv]
      have hq : Q (if nameOk s = true then (((numsF 0 b).lookup s).map nI).getD .non else .non) h := hq
      rw [if_pos e1] at hq
      exact shr_le l hq
    | _ => cases e1
theorem formula_number_bad (c : CBa G) {v w : AV} (ht : DTy h v) (hb : ¬ isBk v) (he : E ⟨9, []⟩ h) : wpC G (n + 16) 140 [v, w] h Q E := by
  refine call_i c.c140 rfl ?_
  unfold c140_formula_number
  bv_omega
  exact check_book_spec (n := n) c.b ht (fun k => absurd k hb) fun _ => shr_i he
theorem nodes_many_bad (c : CBa G) {v : AV} (ht : DTy h v) (hb : ¬ isBk v) (he : E ⟨9, []⟩ h) : wpC G (n + 16) 137 [v] h Q E := by
  refine call_i c.c137 rfl ?_
  unfold c137_nodes_many
  bv_omega
  exact check_book_spec (n := n) c.b ht (fun k => absurd k hb) fun _ => shr_i he
theorem node_at_bad (c : CBa G) {v r k : AV} (ht : DTy h v) (hr : Tyd h r) (hb : ¬ isBk v) (he : E ⟨9, []⟩ h) : wpC G (n + 17) 138 [v, r, k] h Q E := by
  refine call_i c.c138 rfl ?_
  unfold c138_node_at
  bv_omega
  exact check_formula_spec (n := n) c ht hr (fun b e o _ => absurd ⟨b, e, o⟩ hb) (fun b e o _ => absurd ⟨b, e, o⟩ hb) fun _ => shr_i he
theorem called_by_bad (c : CBa G) {v r : AV} (ht : DTy h v) (hr : Tyd h r) (hb : ¬ isBk v) (he : E ⟨9, []⟩ h) : wpC G (n + 17) 139 [v, r] h Q E := by
  refine call_i c.c139 rfl ?_
  unfold c139_called_by
  bv_omega
  exact check_formula_spec (n := n) c ht hr (fun b e o _ => absurd ⟨b, e, o⟩ hb) (fun b e o _ => absurd ⟨b, e, o⟩ hb) fun _ => shr_i he
theorem node_at_place (c : CBa G) {b : List Fm} (o : BkOk b) {r k : AV} (hr : Tyd h r) (hb : inV r 0 ((b.length : Int) - 1) = false) (he : E ⟨10, []⟩ h) : wpC G (n + 17) 138 [bkv b, r, k] h Q E := by
  refine call_i c.c138 rfl ?_
  unfold c138_node_at
  bv_omega
  exact check_formula_spec (n := n) c (bkv_dty o) hr (fun b' e _ k => by rw [← bkv_inj e, hb] at k; cases k) (fun _ _ _ _ => shr_i he) fun k => absurd (isBk_bkv o) k
theorem called_by_place (c : CBa G) {b : List Fm} (o : BkOk b) {r : AV} (hr : Tyd h r) (hb : inV r 0 ((b.length : Int) - 1) = false) (he : E ⟨10, []⟩ h) : wpC G (n + 17) 139 [bkv b, r] h Q E := by
  refine call_i c.c139 rfl ?_
  unfold c139_called_by
  bv_omega
  exact check_formula_spec (n := n) c (bkv_dty o) hr (fun b' e _ k => by rw [← bkv_inj e, hb] at k; cases k) (fun _ _ _ _ => shr_i he) fun k => absurd (isBk_bkv o) k
end PL

namespace PL
open PySem PySem.Spec PyProof.Rows L2
variable {G : Pg} {n : Nat} {Q : AQ} {E : AXQ} {h : AH}
section
variable {T : Tb} {C : ACall} (hC : CMono C)
include hC
theorem comp_inv_go {own : List Nat} {g elt : CE} {σ : AEnv} {D : Addr} {chk fin : AH → Prop} (I : List AV → List AV → AH → Prop) (hz : ∀ acc h2, I [] acc h2 → chk h2 ∧ fin h2)
    (hs : ∀ x rest acc h2, I (x :: rest) acc h2 → chk h2 ∧ wpG C T g x (awipe σ own) h2 fun σ2 h3 => wpE C T elt σ2 h3 (fun y h4 => h4 D = some (.lst acc) ∧ acc.length < sizeLine ∧ I rest (acc ++ [y]) (aupd h4 D (.lst (acc ++ [y])))) fun _ _ => False) :
    ∀ (xs acc : List AV) (h2 : AH), I xs acc h2 → lcL D own (fun x σ h k => wpG C T g x σ h k) (fun σ h k => wpTs C T .nil σ h k fun _ _ => False) (fun σ h k => wpE C T elt σ h k fun _ _ => False) chk fin σ xs h2
  | [], acc, h2, i => hz acc h2 i
  | x :: xs, acc, h2, i => by
    obtain ⟨q1, q2⟩ := hs x xs acc h2 i
    refine ⟨q1, wpG_mono hC g (fun σ2 h3 q => ?_) q2⟩
    show wpE C T elt σ2 h3 _ _
    exact wpE_mono hC elt (fun y h4 ⟨e, l, k⟩ => ⟨acc, e, l, shr_i (comp_inv_go I hz hs xs _ _ k)⟩) (fun _ _ z => z) q
theorem comp_inv {own : List Nat} {g it elt : CE} {σ : AEnv} {h : AH} {Q : AQ} {E : AXQ} (q : wpI C T it σ h (fun xs chk h1 => ∀ D, h1 D = none → ∃ I : List AV → List AV → AH → Prop, I xs [] (aupd h1 D (.lst [])) ∧
      (∀ acc h2, I [] acc h2 → chk h2 ∧ Q (.ref D) h2) ∧
      ∀ x rest acc h2, I (x :: rest) acc h2 → chk h2 ∧ wpG C T g x (awipe σ own) h2 fun σ2 h3 => wpE C T elt σ2 h3 (fun y h4 => h4 D = some (.lst acc) ∧ acc.length < sizeLine ∧ I rest (acc ++ [y]) (aupd h4 D (.lst (acc ++ [y])))) fun _ _ => False) E) : wpE C T (.comp own g it .nil elt) σ h Q E := by
  show wpI C T it σ h _ E
  refine wpI_mono hC it (fun xs chk h1 q D hD => ?_) (fun _ _ z => z) q
  obtain ⟨I, i0, hz, hs⟩ := q D hD
  exact comp_inv_go hC I hz hs xs [] _ i0
end
def isBin : Nd → Bool | .bin _ _ _ => true | _ => false
def L4 : List AV := [.str "plus", .str "less", .str "times", .str "over"]
theorem any_bin (e : Nd) : anyEq (.str (ndS e)) L4 = isBin e := by
  cases e with
  | num _ => exact (by decide +kernel : anyEq (.str ("num" : Str)) L4 = false)
  | told _ _ => exact (by decide +kernel : anyEq (.str ("told" : Str)) L4 = false)
  | inn _ => exact (by decide +kernel : anyEq (.str ("in" : Str)) L4 = false)
  | pow _ _ => exact (by decide +kernel : anyEq (.str ("power" : Str)) L4 = false)
  | call _ _ => exact (by decide +kernel : anyEq (.str ("call" : Str)) L4 = false)
  | bin w _ _ => exact (by cases w <;> decide +kernel : anyEq (.str (bwS w)) L4 = true)
theorem in_L4 {e : Nd} {p : Addr} {h : AH} {R : Bool → Prop} (ep : h p = some (.lst L4)) (q : R (isBin e)) : inR (.str (ndS e)) (.ref p) h R := by
  refine .inl ⟨_, ep, rfl, rfl, ?_⟩
  rw [any_bin]
  exact q
structure CLb (G : Pg) : Prop where
  c10 : G.code 10 = some f10
  c11 : G.code 11 = some f11
  c48 : G.code 48 = some f48
  c49 : G.code 49 = some f49
  c128 : G.code 128 = some f128
  c129 : G.code 129 = some f129
  c130 : G.code 130 = some f130
  c131 : G.code 131 = some f131
  c132 : G.code 132 = some f132
  c133 : G.code 133 = some f133
  c134 : G.code 134 = some f134
  c142 : G.code 142 = some f142
theorem law_parts_spec (c : CLb G) {e : Nd} (hq : ∀ p h', ALe h h' → h p = none → h' p = some (.lst ((subs e).map ndv)) → Q (.ref p) h') : wpC G (n + 1) 128 [ndv e] h Q E := by
  refine call_i c.c128 rfl ?_
  unfold c128_law_parts
  have so := ndS_ok e
  have sp := ndS_pow e
  have sc := ndS_call e
  rw [ndv_eq]
  bv_omega
  intro p hp
  refine in_L4 aupd_same ?_
  have l1 : ALe h (aupd h p (.lst L4)) := ALe.fresh hp
  have fin : ∀ q, aupd h p (.lst L4) q = none → h q = none := fun q hq' => by
    have : q ≠ p := by rintro rfl; rw [aupd_same] at hq'; cases hq'
    rw [aupd_ne this] at hq'
    exact hq'
  cases e with
  | bin w a b =>
    simp only [isBin]
    have e7 : ndR (.bin w a b) = [ndv a, ndv b] := rfl
    rw [e7]
    bv_omega
    intro q hq'
    exact shr_i (hq q _ (ale_upd (fin q hq') l1) (fin q hq') aupd_same)
  | pow a k =>
    simp only [isBin]
    have e7 : ndR (.pow a k) = [ndv a, .int k] := rfl
    rw [e7]
    bv_omega
    refine ⟨⟨so, by decide +kernel⟩, ?_⟩
    rw [sp]
    simp only [isPow]
    bv_omega
    intro q hq'
    exact shr_i (hq q _ (ale_upd (fin q hq') l1) (fin q hq') aupd_same)
  | call f as =>
    simp only [isBin]
    have e7 : ndR (.call f as) = [.str f, .tup (ndvs as)] := rfl
    rw [e7]
    bv_omega
    refine ⟨⟨so, by decide +kernel⟩, ?_⟩
    rw [sp]
    simp only [isPow]
    bv_omega
    refine ⟨⟨so, by decide +kernel⟩, ?_⟩
    rw [sc]
    simp only [isCall]
    bv_omega
    intro q hq'
    rw [ndvs_map]
    exact shr_i (hq q _ (ale_upd (fin q hq') l1) (fin q hq') aupd_same)
  | _ =>
    simp only [isBin]
    bv_omega
    refine ⟨⟨so, by decide +kernel⟩, ?_⟩
    rw [sp]
    simp only [isPow]
    bv_omega
    refine ⟨⟨so, by decide +kernel⟩, ?_⟩
    rw [sc]
    simp only [isCall]
    bv_omega
    intro q hq'
    exact shr_i (hq q _ (ale_upd (fin q hq') l1) (fin q hq') aupd_same)
theorem acut_take {xs : List AV} {k : Nat} (hk : k ≤ xs.length) : acut xs none (some (k : Int)) = xs.take k := by
  unfold acut
  have e1 : HT.sIx xs.length 0 none = 0 := rfl
  have e2 : HT.sIx xs.length xs.length (some (k : Int)) = k := by
    unfold HT.sIx
    simp only
    split <;> omega
  rw [e1, e2]
  simp
theorem acut_drop {xs : List AV} {k : Nat} (hk : k ≤ xs.length) : acut xs (some (k : Int)) none = xs.drop k := by
  unfold acut
  have e1 : HT.sIx xs.length 0 (some (k : Int)) = k := by
    unfold HT.sIx
    simp only
    split <;> omega
  have e2 : HT.sIx xs.length xs.length none = xs.length := rfl
  rw [e1, e2]
  rw [List.take_of_length_le]
  rw [List.length_drop]
  exact Nat.le_refl _
end PL

namespace PL
open PySem PySem.Spec PyProof.Rows L2
variable {G : Pg} {n : Nat} {Q : AQ} {E : AXQ} {h : AH}
theorem law_nodes_spec (c : CLb G) {e : Nd} (hc : e.cnt ≤ 1000) (hq : ∀ p h', ALe h h' → h p = none → h' p = some (.lst ((rows e).map ndv)) → Q (.ref p) h') : wpC G (n + 2) 134 [ndv e] h Q E := by
  refine call_i c.c134 rfl ?_
  unfold c134_law_nodes
  bv_omega
  intro p hp
  · refine wp_whl (wpC_mono G (n + 1)) (fun m σ h' => ∃ (done pend : List Nd) (q : Addr), m = (pend.map Nd.cnt).sum ∧ σ = [some (ndv e), some (.ref q), some (.int done.length)] ∧ ALe h h' ∧ h q = none ∧ h' q = some (.lst ((done ++ pend).map ndv)) ∧ rows e = done ++ pend.flatMap rows ∧ done.length + (pend.map Nd.cnt).sum = e.cnt) (m := e.cnt)
      ⟨[], [e], p, by simp, rfl, ALe.fresh hp, hp, aupd_same, by simp, by simp⟩ ?_
    rintro m σ h' ⟨done, pend, q, rfl, rfl, l, hqn, e1, er, ec⟩
    have sl := sum_len (es := pend)
    bv_omega
    refine n_lst e1 ?_
    bv_omega
    cases pend with
    | nil =>
      have z : ¬ ((done.length : Int) < (((done ++ []).map ndv).length : Int)) := by simp
      simp only [z, decide_false, Bool.false_eq_true, if_false]
      refine shr_i (hq q h' l hqn ?_)
      rw [er, List.flatMap_nil]
      exact e1
    | cons x pend =>
      have z : ((done.length : Int) < (((done ++ x :: pend).map ndv).length : Int)) := by simp; omega
      simp only [z, decide_true, if_true]
      bv_omega
      have c1 : (done.length : Int) + 1 = ((done.length + 1 : Nat) : Int) := by omega
      rw [c1]
      have ln : ((done ++ x :: pend).map ndv).length = done.length + (pend.length + 1) := by simp
      refine sl_lst e1 fun p1 hp1 => ?_
      rw [acut_take (by rw [ln]; omega)]
      have n1 : q ≠ p1 := by rintro rfl; rw [e1] at hp1; cases hp1
      have e1a : aupd h' p1 (.lst (((done ++ x :: pend).map ndv).take (done.length + 1))) q = some (.lst ((done ++ x :: pend).map ndv)) := (aupd_ne n1).trans e1
      have ea : aupd h' p1 (.lst (((done ++ x :: pend).map ndv).take (done.length + 1))) p1 = some (.lst (((done ++ x :: pend).map ndv).take (done.length + 1))) := aupd_same
      have la : ALe h (aupd h' p1 (.lst (((done ++ x :: pend).map ndv).take (done.length + 1)))) := ALe.trans l (ALe.fresh hp1)
      generalize aupd h' p1 (.lst (((done ++ x :: pend).map ndv).take (done.length + 1))) = h2 at e1a ea la ⊢
      refine x_lst (v := ndv x) e1a ?_ ?_
      · unfold atI
        rw [if_pos (by omega), Int.toNat_natCast, List.getElem?_map, List.getElem?_append_right (Nat.le_refl _)]
        simp
      refine law_parts_spec (n := n) c fun p2 h3 l3 hp2 e2 => ?_
      rw [b_addL]
      have ea3 := l3 _ _ ea
      have tk : ((done ++ x :: pend).map ndv).take (done.length + 1) = (done ++ [x]).map ndv := by
        rw [← List.map_take]
        congr 1
        rw [List.take_append, List.take_of_length_le (Nat.le_succ _)]
        simp
      rw [tk] at ea3
      have sx := sum_len (es := subs x)
      have cx := cnt_subs x
      rw [List.map_cons, List.sum_cons] at ec sl
      rw [List.length_cons] at sl
      refine ⟨_, _, ea3, e2, len_small ?_, fun p3 hp3 => ?_⟩
      · simp only [List.length_map, List.length_append, List.length_cons, List.length_nil]
        omega
      have n3 : q ≠ p3 := by rintro rfl; rw [l3 _ _ e1a] at hp3; cases hp3
      refine sl_lst ((aupd_ne n3).trans (l3 _ _ e1a)) fun p4 hp4 => ?_
      rw [acut_drop (by rw [ln]; omega)]
      have n34 : p3 ≠ p4 := by rintro rfl; rw [aupd_same] at hp4; cases hp4
      have dr : ((done ++ x :: pend).map ndv).drop (done.length + 1) = pend.map ndv := by
        rw [← List.map_drop]
        congr 1
        rw [List.drop_append]
        simp
      rw [dr, b_addL]
      refine ⟨_, _, (aupd_ne n34).trans aupd_same, aupd_same, len_small ?_, fun p5 hp5 => ?_⟩
      · simp only [List.length_map, List.length_append, List.length_cons, List.length_nil]
        omega
      have l5 : ALe h (aupd (aupd h3 p3 (.lst ((done ++ [x]).map ndv ++ (subs x).map ndv))) p4 (.lst (pend.map ndv))) := ALe.trans la (ALe.trans l3 (ALe.trans (ALe.fresh hp3) (ALe.fresh hp4)))
      have h5n : h p5 = none := by
        cases e9 : h p5 with
        | none => rfl
        | some o => rw [l5 _ _ e9] at hp5; cases hp5
      bv_omega
      refine ⟨((subs x ++ pend).map Nd.cnt).sum, ?_, done ++ [x], subs x ++ pend, p5, rfl, ?_, ALe.trans l5 (ALe.fresh hp5), h5n, ?_, ?_, ?_⟩
      · simp only [List.map_append, List.sum_append, List.map_cons, List.sum_cons]; omega
      · simp
      · congr 2
        simp
      · rw [er, List.flatMap_append, List.flatMap_cons, rows_subs x]
        simp
      · simp only [List.length_append, List.length_cons, List.length_nil, List.map_append, List.sum_append]
        omega
theorem law_degree_spec (c : CLb G) {ds : NM Nat} {p : Addr} (o2 : D200 ds) : ∀ (k : Nat) (e : Nd) {h : AH} {Q : AQ} {E : AXQ}, AOk e → e.dep ≤ k → e.cnt ≤ 1000 → h p = some (.dK (ds.map (kvf nI))) → (∀ h', ALe h h' → Q (nI (deg ds e)) h') → wpC G (n + 1 + k) 129 [ndv e, .ref p] h Q E
  | 0, e, h, Q, E, o, hd, _, _, _ => by have := dep_pos e; omega
  | k + 1, e, h, Q, E, o, hd, hc, hp, hq => by
    refine call_i (n := n + 1 + k) c.c129 rfl ?_
    unfold c129_law_degree
    obtain ⟨f, hf⟩ := lift_nd fun s => nI (deg ds s)
    have ef : ((subs e).map ndv).map f = (subs e).map fun s => nI (deg ds s) := by
      rw [List.map_map]
      apply List.map_congr_left
      intro s _
      exact hf s
    have sl := sum_len (es := subs e)
    have ec := cnt_subs e
    bv_omega
    refine map_comp (wpC_mono G (n + 1 + k)) ?_
    bv_omega
    have rw1 : n + 1 + k = (n + k) + 1 := by omega
    rw [rw1]
    refine law_parts_spec (n := n + k) c fun p2 h2 l2 _ e2 => ?_
    refine ⟨_, e2, by rw [List.length_map]; omega, fun h3 l3 => l3 _ _ e2, f, fun x hx h3 l3 => ?_, fun D hD => ?_⟩
    · obtain ⟨s, hs, rfl⟩ := List.mem_map.mp hx
      bv_omega
      rw [← rw1]
      refine law_degree_spec c o2 k s ((aok_iff.mp o).2 s hs) (dep_subs.mp hd s hs) (by have := cnt_sub hs; omega) (l3 _ _ (l2 _ _ hp)) fun h' l' => ⟨(hf s).symm, l'⟩
    · rw [ef]
      have lD : ALe h (aupd h2 D (.lst ((subs e).map fun s => nI (deg ds s)))) := ALe.trans l2 (ALe.fresh hD)
      have eD : aupd h2 D (.lst ((subs e).map fun s => nI (deg ds s))) D = some (.lst ((subs e).map fun s => nI (deg ds s))) := aupd_same
      generalize aupd h2 D (.lst ((subs e).map fun s => nI (deg ds s))) = h5 at lD eD
      have so := ndS_ok e
      rw [ndv_eq]
      have sp := ndS_pow e
      have sc := ndS_call e
      bv_omega
      intro p6 hp6
      refine in_L4 aupd_same ?_
      have n6 : D ≠ p6 := by rintro rfl; rw [eD] at hp6; cases hp6
      replace eD : aupd h5 p6 (.lst L4) D = some (.lst ((subs e).map fun s => nI (deg ds s))) := (aupd_ne n6).trans eD
      replace lD : ALe h (aupd h5 p6 (.lst L4)) := ALe.trans lD (ALe.fresh hp6)
      have eL : AO.lst [AV.str "plus", AV.str "less", AV.str "times", AV.str "over"] = .lst L4 := rfl
      simp only [eL]
      generalize aupd h5 p6 (.lst L4) = h6 at lD eD
      have hp5 := lD _ _ hp
      have hq := hq h6 lD
      cases e with
      | bin w a b =>
        simp only [isBin]
        have e3 : (subs (.bin w a b)).map (fun s => nI (deg ds s)) = [nI (deg ds a), nI (deg ds b)] := rfl
        rw [e3] at eD
        bv_omega
        refine x_lst eD rfl (x_lst eD rfl ?_)
        have : binR .add (nI (deg ds a)) (nI (deg ds b)) h6 = fun K => K (.int ((deg ds a : Int) + (deg ds b : Int))) h6 := rfl
        rw [this]
        have : (deg ds a : Int) + (deg ds b : Int) = ((deg ds (.bin w a b) : Nat) : Int) := by
          show _ = ((deg ds a + deg ds b : Nat) : Int)
          omega
        rw [this]
        exact shr_i hq
      | pow a m =>
        simp only [isBin]
        have e3 : (subs (.pow a m)).map (fun s => nI (deg ds s)) = [nI (deg ds a)] := rfl
        rw [e3] at eD
        bv_omega
        refine ⟨⟨so, by decide +kernel⟩, ?_⟩
        rw [sp]
        simp only [isPow]
        bv_omega
        refine x_lst eD rfl ?_
        have e4 : ndR (.pow a m) = [ndv a, .int m] := rfl
        rw [e4]
        bv_omega
        refine ⟨1, m, rfl, rfl, ?_⟩
        show CMulW (deg ds a : Int) (if (m : Int) > 1 then (m : Int) else 1) ∧ _
        have e5 : (if (m : Int) > 1 then (m : Int) else 1) = ((max 1 m : Nat) : Int) := by split <;> omega
        rw [e5]
        have hm : m ≤ 4 := o.1
        have la := lt_pow8 (deg_le o2 a o.2)
        refine ⟨mulW la (show ((max 1 m : Nat) : Int).natAbs < 2 ^ 3 by rw [Int.natAbs_natCast]; omega) (by omega) (by omega) ?_, ?_⟩
        · have hc : a.cnt + 1 ≤ 1000 := hc
          omega
        · rw [← Int.natCast_mul]
          exact shr_i hq
      | call g as =>
        simp only [isBin]
        have e3 : subs (.call g as) = as := rfl
        simp only [e3] at eD
        have l1 : 1 ≤ as.length := o.1.2.1
        bv_omega
        refine ⟨⟨so, by decide +kernel⟩, ?_⟩
        rw [sp]
        simp only [isPow]
        bv_omega
        refine ⟨⟨so, by decide +kernel⟩, ?_⟩
        rw [sc]
        simp only [isCall]
        bv_omega
        have e4 : ndR (.call g as) = [.str g, .tup (ndvs as)] := rfl
        rw [e4]
        bv_omega
        refine ⟨ms_get hp5, get_dK hp5 rfl ?_⟩
        rw [lookup_map_kv]
        have e5 : ((ds.lookup g).map nI).getD (.int 1) = nI ((ds.lookup g).getD 1) := by cases ds.lookup g <;> rfl
        rw [e5]
        refine ⟨as.map fun s => ((deg ds s : Nat) : Int), ?_, ?_, fun m hm hl => ?_⟩
        · cases as with
          | nil => cases l1
          | cons _ _ => simp
        · rw [eD, List.map_map]; rfl
        · rw [degm_max hm hl]
          show CMulW (((ds.lookup g).getD 1 : Nat) : Int) (degm ds as : Int) ∧ _
          have hd2 := getD200 o2 g
          have la := lt_pow8 (degm_le o2 as o.2)
          refine ⟨mulW (show (((ds.lookup g).getD 1 : Nat) : Int).natAbs < 2 ^ 8 by rw [Int.natAbs_natCast]; omega) la (by omega) (by omega) ?_, ?_⟩
          · have hc : Nd.cnts as + 1 ≤ 1000 := hc
            omega
          · rw [← Int.natCast_mul]
            exact shr_i hq
      | _ =>
        simp only [isBin]
        bv_omega
        refine ⟨⟨so, by decide +kernel⟩, ?_⟩
        rw [sp]
        simp only [isPow]
        bv_omega
        refine ⟨⟨so, by decide +kernel⟩, ?_⟩
        rw [sc]
        simp only [isCall]
        bv_omega
        exact shr_i hq
end PL

namespace PL
open PySem PySem.Spec PyProof.Rows L2
variable {G : Pg} {n : Nat} {Q : AQ} {E : AXQ} {h : AH}
theorem law_titles_spec (l : CLb G) {a c : Addr} {N m : Nat} (w : HandOk h a N c) (hN : N + 10 * m + 9 < 2 ^ 60) (hm : 1 ≤ m) (hm2 : m < 60)
    (hq : ∀ (zs : List Str) (r : Addr) (h' : AH), Go h h' a c (N + 10 * m) → h r = none → zs.Nodup → (∀ s ∈ zs, nameOk s = true) → 1 ≤ zs.length → zs.length ≤ m → h' r = some (.lst (zs.map .str)) → Q (.ref r) h') : wpC G (n + 3) 133 [.ref a, .int m] h Q E := by
  refine call_i l.c133 rfl ?_
  unfold c133_law_titles
  bv_omega
  intro p hp
  obtain ⟨pa, pc⟩ := w.new hp
  refine for_v (wpC_mono G (n + 2)) ?_
  bv_omega
  refine law_names_spec (n := n) l.c10 l.c48 (w.off pa pc) (by omega) hm hm2 fun ys r h1 g0 hr hY hs l1 lm er => ?_
  have g1 : Go h h1 a c (N + 9 * m) := ⟨(HLe.of (ALe.fresh hp)).trans g0.le, g0.w⟩
  have ep : h1 p = some (.lst []) := g0.le p _ pa aupd_same
  have rp : r ≠ p := by rintro rfl; rw [aupd_same] at hr; cases hr
  have hr0 : h r = none := by rw [aupd_ne rp] at hr; exact hr
  obtain ⟨ra, rc⟩ := w.new hr0
  refine ⟨_, er, fun xs σ h2 => ∃ (dn rest zs : List Str) (x : Option AV), xs = rest.map .str ∧ ys = dn ++ rest ∧ zs.Perm dn ∧ σ = [some (.ref a), some (.int m), some (.ref p), x] ∧ Go h h2 a c (N + 9 * m + dn.length) ∧ h2 p = some (.lst (zs.map .str)) ∧ h2 r = some (.lst (ys.map .str)),
    ⟨[], ys, [], none, rfl, rfl, List.Perm.refl _, rfl, g1, ep, er⟩, ?_, ?_⟩
  · rintro σ h2 ⟨dn, rest, zs, x, e, ey, pz, rfl, g, e2, e3⟩
    have := map_nil_eq e
    subst this
    rw [List.append_nil] at ey
    subst ey
    bv_omega
    have nd : ys.Nodup := by
      unfold List.Nodup
      exact List.Pairwise.imp (fun h => sl_ne h) hs
    exact ⟨e3, shr_i (hq zs p h2 (g.mono (by omega)) hp (pz.nodup_iff.mpr nd) (fun s hs => hY.ok s (pz.mem_iff.mp hs)) (by rw [pz.length_eq]; exact l1) (by rw [pz.length_eq]; exact lm) e2)⟩
  · rintro x xs σ h2 ⟨dn, rest, zs, x', e, ey, pz, rfl, g, e2, e3⟩
    cases rest with
    | nil => cases e
    | cons s rest =>
      rw [List.map_cons] at e
      obtain ⟨rfl, rfl⟩ := List.cons.inj e
      refine ⟨e3, ?_⟩
      have hlen : dn.length + 1 + rest.length = ys.length := by rw [ey]; simp; omega
      have pl := pz.length_eq
      bv_omega
      refine ⟨ms_lst e2 (by simp), ?_⟩
      refine n_lst e2 ?_
      bv_omega
      refine draw_spec (n := n + 1) l.c10 g.w (by omega) (by rw [List.length_map]; omega) (by rw [List.length_map]; omega) fun t o t0 t1 w2 => ?_
      rw [List.length_map] at t1
      have g2 := g.draw w2 (M := N + 9 * m + (dn ++ [s]).length) (by rw [List.length_append]; simp; omega)
      have e4 : aupd h2 a o p = some (.lst (zs.map .str)) := by rw [aupd_ne pa]; exact e2
      have e5 : aupd h2 a o r = some (.lst (ys.map .str)) := by rw [aupd_ne ra]; exact e3
      generalize aupd h2 a o = h3 at g2 e4 e5
      refine ins_i e4 (by rw [List.length_map]; have := len_small (n := zs.length + 1) (by omega); omega) t0 (by omega) ?_
      bv_omega
      refine ⟨dn ++ [s], rest, zs.take t.toNat ++ [s] ++ zs.drop t.toNat, _, rfl, by rw [ey]; simp, ?_, rfl, g2.set hp pa pc, ?_, ?_⟩
      · have h1 : (zs.take t.toNat ++ [s] ++ zs.drop t.toNat).Perm (s :: zs) := by
          have h2 : (zs.take t.toNat ++ [s] ++ zs.drop t.toNat).Perm ([s] ++ zs.take t.toNat ++ zs.drop t.toNat) := List.Perm.append_right _ List.perm_append_comm
          have e9 : [s] ++ zs.take t.toNat ++ zs.drop t.toNat = s :: zs := by simp
          rw [e9] at h2
          exact h2
        exact h1.trans ((List.Perm.cons s pz).trans (List.perm_append_comm (l₁ := [s])))
      · simp only [List.map_append, List.map_take, List.map_drop, List.map_cons, List.map_nil]
      · rw [aupd_ne rp]; exact e5
theorem divInt_bd {t b : Int} (hb : 0 < b) : (Rat.divInt t b).num.natAbs ≤ t.natAbs ∧ (Rat.divInt t b).den ≤ b.natAbs := by
  obtain ⟨q1, q2⟩ := divInt_num (t := t) hb
  refine ⟨?_, ?_⟩
  · rw [q1]
    rw [Int.natAbs_ediv_of_dvd (Int.ofNat_dvd_left.mpr (Nat.gcd_dvd_left _ _))]
    exact Nat.div_le_self _ _
  · have := Int.ediv_le_self (a := b) (Nat.gcd t.natAbs b.natAbs : Int) (by omega)
    omega
theorem law_figs_spec (l : CLb G) {a c : Addr} {N : Nat} (w : HandOk h a N c) (hN : N + 9 < 2 ^ 60)
    (hq : ∀ (x : Rat) (h' : AH), Go h h' a c (N + 4) → shortQ x → Q (fr x) h') : wpC G (n + 2) 130 [.ref a] h Q E := by
  refine call_i l.c130 rfl ?_
  unfold c130_law_share
  have CM := wpC_mono G (n + 1)
  refine wp_cut CM (fun σ h1 => ∃ t : Int, t.natAbs ≤ 500 ∧ σ = [some (.ref a), some (.int t)] ∧ Go h h1 a c (N + 1)) ?_ ?_
  · bv_omega
    refine draw_spec (n := n) l.c10 w (by omega) (by decide) (by decide) fun t o t0 t1 w2 => ?_
    bv_omega
    exact ⟨t - 500, by omega, rfl, (Go.refl w).draw w2 (Nat.le_refl _)⟩
  rintro σ h1 ⟨t, ht, rfl, g1⟩
  refine wp_cut CM (fun σ h2 => ∃ t : Int, t.natAbs < 10000000000 ∧ σ = [some (.ref a), some (.int t)] ∧ Go h h2 a c (N + 3)) ?_ ?_
  · bv_omega
    refine draw_spec (n := n) l.c10 g1.w (by omega) (by decide) (by decide) fun u o u0 u1 w2 => ?_
    have g2 := g1.draw w2 (M := N + 2) (Nat.le_refl _)
    generalize aupd h1 a o = h2 at g2
    bv_omega
    split
    · refine draw_spec (n := n) l.c10 g2.w (by omega) (by decide) (by decide) fun v o v0 v1 w3 => ?_
      bv_omega
      exact ⟨9999999999 - v, by omega, rfl, g2.draw w3 (Nat.le_refl _)⟩
    · exact ⟨t, by omega, rfl, g2.mono (by omega)⟩
  rintro σ h2 ⟨t, ht, rfl, g2⟩
  bv_omega
  refine draw_spec (n := n) l.c10 g2.w (by omega) (by decide) (by decide) fun u o u0 u1 w3 => ?_
  have g3 := g2.draw w3 (M := N + 4) (Nat.le_refl _)
  generalize aupd h2 a o = h3 at g3
  bv_omega
  have hb : (0 : Int) < 1 + u := by omega
  refine law_low_spec (n := n) l.c11 (by omega) (Nat.lt_of_lt_of_le (show (1 + u).natAbs < 2 ^ 4 by omega) (Nat.pow_le_pow_right (by decide) (by decide))) ?_
  obtain ⟨d1, d2⟩ := divInt_bd (t := t) hb
  refine shr_i (hq _ h3 g3 ⟨?_, ?_⟩)
  · exact Nat.lt_of_le_of_lt d1 ht
  · exact Nat.lt_of_le_of_lt d2 (Nat.lt_of_lt_of_le (show (1 + u).natAbs < 13 by omega) (by decide))
theorem law_leaf_spec (l : CLb G) {a c r : Addr} {N many : Nat} {ys : List Str} (w : HandOk h a N c) (hN : N + 150 < 2 ^ 60) (hY : NmsOk ys) (hs : ys.Pairwise sl) (er : h r = some (.lst (ys.map .str))) (ra : r ≠ a) (m1 : 1 ≤ many) (m4 : many ≤ 4)
    (hq : ∀ (e : Nd) (h' : AH), Go h h' a c (N + 130) → AOk e → e.dep ≤ 1 → (∀ known, (rows e).all (rightN many known) = true) → Q (ndv e) h') : wpC G (n + 3) 131 [.ref a, .int many, .ref r] h Q E := by
  refine call_i l.c131 rfl ?_
  unfold c131_law_leaf
  have CM := wpC_mono G (n + 2)
  refine wp_cut CM (fun σ h1 => ∃ t : Int, σ = [some (.ref a), some (.int many), some (.ref r), some (.int t)] ∧ Go h h1 a c (N + 1)) ?_ ?_
  · bv_omega
    refine draw_spec (n := n + 1) l.c10 w (by omega) (by decide) (by decide) fun t o t0 t1 w2 => ?_
    bv_omega
    exact ⟨t, rfl, (Go.refl w).draw w2 (Nat.le_refl _)⟩
  rintro σ h1 ⟨t, rfl, g1⟩
  bv_omega
  by_cases e0 : t = 0
  · subst e0
    bv_omega
    refine law_figs_spec (n := n) l g1.w (by omega) fun x h2 g2 sx => ?_
    exact shr_i (hq (.num x) h2 (g1.trans (g2.mono (by omega))) sx (Nat.le_refl _) fun _ => rfl)
  · simp only [e0]
    bv_omega
    by_cases e1 : t = 1
    · subst e1
      bv_omega
      refine law_figs_spec (n := n) l g1.w (by omega) fun x h2 g2 sx => ?_
      have er2 := g2.le r _ ra (g1.le r _ ra er)
      refine sl_lst er2 fun p hp => ?_
      have w6 : acut (ys.map AV.str) none (some 6) = (ys.take 6).map .str := by
        by_cases h6 : 6 ≤ ys.length
        · rw [List.map_take]
          exact acut_take (by rw [List.length_map]; exact h6)
        · unfold acut
          have : HT.sIx (ys.map AV.str).length (ys.map AV.str).length (some 6) = (ys.map AV.str).length := by
            unfold HT.sIx
            simp only [List.length_map]
            split <;> omega
          rw [this]
          have : HT.sIx (ys.map AV.str).length 0 none = 0 := rfl
          rw [this]
          simp only [Nat.sub_zero, List.drop_zero, List.take_length]
          rw [List.take_of_length_le (by omega)]
      rw [w6]
      have g3 : Go h (aupd h2 p (.lst ((ys.take 6).map .str))) a c (N + 5) := (g1.trans g2).fresh hp
      have pa : p ≠ a := by rintro rfl; exact (g2.w.some.1) hp
      have h6 : NmsOk (ys.take 6) := ⟨fun s hs => hY.ok s (List.mem_of_mem_take hs), by rw [List.length_take]; omega⟩
      have l6 : (ys.take 6).length ≤ 6 := by rw [List.length_take]; omega
      refine law_size_gen (n := n) (k := 4) l.c10 l.c49 g3.w (by omega) h6 (List.Pairwise.sublist (List.take_sublist _ _) hs) aupd_same pa (by decide) (by decide) (by decide) fun d h4 g4 od o9 => ?_
      refine shr_i (hq (.told x d) h4 (g3.trans (g4.mono (by omega))) ⟨sx, isPlain_dm h6 l6 od o9⟩ (Nat.le_refl _) fun _ => rfl)
    · simp only [e1]
      bv_omega
      refine draw_spec (n := n + 1) l.c10 g1.w (by omega) (by omega) (by omega) fun u o u0 u1 w3 => ?_
      have g3 := g1.draw w3 (M := N + 130) (by omega)
      generalize aupd h1 a o = h3 at g3
      obtain ⟨i, rfl⟩ := Int.eq_ofNat_of_zero_le u0
      bv_omega
      have hi : i < 4 := by omega
      refine shr_i (hq (.inn i) h3 g3 hi (Nat.le_refl _) fun _ => ?_)
      show (decide (i < many) && true) = true
      rw [Bool.and_true, decide_eq_true_eq]
      omega
end PL

namespace PL
open PySem PySem.Spec PyProof.Rows L2
variable {G : Pg} {n : Nat} {Q : AQ} {E : AXQ} {h : AH}
def bnd : Nat → Nat | 0 => 200 | k + 1 => 4 * bnd k + 200
theorem bnd_200 (k : Nat) : 200 ≤ bnd k := by cases k <;> simp [bnd]
structure Ahd (known : NM Nat) : Prop where
  nk : NKs known
  ok : ∀ p ∈ known, nameOk p.1 = true ∧ 1 ≤ p.2 ∧ p.2 ≤ 4
  len : known.length ≤ 1000
theorem lookup_mem_nk {d : NM Nat} (hn : NKs d) {p : Str × Nat} (hp : p ∈ d) : d.lookup p.1 = some p.2 := by
  induction d with
  | nil => cases hp
  | cons q d ih =>
    unfold NKs at hn
    rw [List.map_cons, List.nodup_cons] at hn
    rw [List.lookup_cons]
    rcases List.mem_cons.mp hp with rfl | hp
    · simp
    · have : (p.1 == q.1) = false := by
        rw [beq_eq_false_iff_ne]
        intro e
        exact hn.1 (e ▸ List.mem_map_of_mem hp)
      rw [this]
      exact ih hn.2 hp
structure DrO (many : Nat) (known : NM Nat) (k : Nat) (e : Nd) : Prop where
  ok : AOk e
  dep : e.dep ≤ k
  right : (rows e).all (rightN many known) = true
theorem rowss_all {f : Nd → Bool} {es : List Nd} (h : ∀ e ∈ es, (rows e).all f = true) : (rowss es).all f = true := by
  rw [rowss_flat, List.all_eq_true]
  intro x hx
  obtain ⟨e, he, hx⟩ := List.mem_flatMap.mp hx
  exact List.all_eq_true.mp (h e he) x hx
theorem law_node_spec (l : CLb G) {a c r q : Addr} {many : Nat} {ys : List Str} {known : NM Nat} (hY : NmsOk ys) (hs : ys.Pairwise sl) (ra : r ≠ a) (qa : q ≠ a) (m1 : 1 ≤ many) (m4 : many ≤ 4) (K : Ahd known) :
    ∀ (H : Nat) {N : Nat} {h : AH} {Q : AQ} {E : AXQ}, HandOk h a N c → N + bnd H < 2 ^ 60 → h r = some (.lst (ys.map .str)) → h q = some (.lst (known.map (prf nI))) →
    (∀ (e : Nd) (h' : AH), Go h h' a c (N + bnd H) → DrO many known (max 1 H) e → Q (ndv e) h') → wpC G (n + 4 + H) 132 [.ref a, .int many, .ref r, .ref q, .int H] h Q E := by
  intro H
  induction H with
  | zero =>
    intro N h Q E w hN er eq hq
    refine call_i (n := n + 3) l.c132 rfl ?_
    unfold c132_law_node
    have CM := wpC_mono G (n + 3)
    refine wp_cut CM (fun σ h1 => ∃ t : Int, σ = [some (.ref a), some (.int many), some (.ref r), some (.ref q), some (.int (0 : Nat)), some (.int t), none, none, none, none, none] ∧ Go h h1 a c (N + 1)) ?_ ?_
    · bv_omega
      refine draw_spec (n := n + 2) l.c10 w (by simp [bnd] at hN; omega) (by decide) (by decide) fun t o t0 t1 w2 => ?_
      bv_omega
      exact ⟨t, rfl, (Go.refl w).draw w2 (Nat.le_refl _)⟩
    rintro σ h1 ⟨t, rfl, g1⟩
    have z : (((0 : Nat) : Int) < 2) := by decide
    bv_omega
    simp only [z]
    bv_omega
    refine law_leaf_spec (n := n) l g1.w (by simp [bnd] at hN; omega) hY hs (g1.le r _ ra er) ra m1 m4 fun e h2 g2 o od ok => ?_
    exact shr_i (hq e h2 (g1.trans (g2.mono (show N + 1 + 130 ≤ N + 200 by omega))) ⟨o, od, ok known⟩)
  | succ H ih =>
    intro N h Q E w hN er eq hq
    have b200 := bnd_200 H
    have hN' : N + (4 * bnd H + 200) < 2 ^ 60 := hN
    have hq : ∀ (e : Nd) (h' : AH), Go h h' a c (N + (4 * bnd H + 200)) → DrO many known (max 1 (H + 1)) e → Q (ndv e) h' := hq
    refine call_i (n := n + 4 + H) l.c132 rfl ?_
    unfold c132_law_node
    have CM := wpC_mono G (n + 4 + H)
    refine wp_cut CM (fun σ h1 => ∃ t : Int, 0 ≤ t ∧ t < 8 ∧ σ = [some (.ref a), some (.int many), some (.ref r), some (.ref q), some (.int (H + 1 : Nat)), some (.int t), none, none, none, none, none] ∧ Go h h1 a c (N + 1)) ?_ ?_
    · bv_omega
      have : n + 4 + H = (n + 3 + H) + 1 := by omega
      rw [this]
      refine draw_spec (n := n + 3 + H) l.c10 w (by omega) (by decide) (by decide) fun t o t0 t1 w2 => ?_
      bv_omega
      exact ⟨t, t0, t1, rfl, (Go.refl w).draw w2 (Nat.le_refl _)⟩
    rintro σ h1 ⟨t, t0, t1, rfl, g1⟩
    have leaf : ∀ (h1 : AH), Go h h1 a c (N + 1) → wpC G (n + 4 + H) 131 [.ref a, .int many, .ref r] h1 (fun v h => Shr (Q v) h) fun x h' => Shr (E x) h' := by
      intro h1 g1
      have : n + 4 + H = (n + 1 + H) + 3 := by omega
      rw [this]
      refine law_leaf_spec (n := n + 1 + H) l g1.w (by omega) hY hs (g1.le r _ ra er) ra m1 m4 fun e h2 g2 o od ok => ?_
      exact shr_i (hq e h2 (g1.trans (g2.mono (by omega))) ⟨o, by omega, ok known⟩)
    have hh : ((H + 1 : Nat) : Int) - 1 = (H : Int) := by omega
    bv_omega
    by_cases z : (((H + 1 : Nat) : Int) < 2)
    · simp only [z]
      bv_omega
      exact leaf h1 g1
    · simp only [z]
      bv_omega
      have H1 : 1 ≤ H := by omega
      have mH : max 1 H = H := by omega
      have mH1 : max 1 (H + 1) = H + 1 := by omega
      rw [mH] at ih
      rw [mH1] at hq
      by_cases z1 : t = 0
      · subst z1
        bv_omega
        exact leaf h1 g1
      · simp only [z1]
        bv_omega
        by_cases z2 : t < 5
        · simp only [z2]
          bv_omega
          rw [hh]
          refine ih g1.w (by omega) (g1.le r _ ra er) (g1.le q _ qa eq) fun e1 h2 g2 o1 => ?_
          bv_omega
          have g12 := g1.trans g2
          refine ih g12.w (by omega) (g12.le r _ ra er) (g12.le q _ qa eq) fun e2 h3 g3 o2 => ?_
          have g13 := (g12.trans g3).mono (M := N + (4 * bnd H + 200)) (by omega)
          bv_omega
          intro p hp
          have fin : ∀ b : BW, Shr (Q (.tup [.str (bwS b), ndv e1, ndv e2])) (aupd h3 p (.lst [.str "plus", .str "less", .str "times", .str "over"])) := fun b => by
            refine shr_i (hq (.bin b e1 e2) _ (g13.fresh hp) ⟨⟨o1.ok, o2.ok⟩, ?_, ?_⟩)
            · show max e1.dep e2.dep + 1 ≤ H + 1
              have := o1.dep
              have := o2.dep
              omega
            · show (rightN many known _ && (rows e1 ++ rows e2).all _) = true
              rw [List.all_append, o1.right, o2.right]
              rfl
          have t4 : t = 1 ∨ t = 2 ∨ t = 3 ∨ t = 4 := by omega
          rcases t4 with rfl | rfl | rfl | rfl
          · exact x_lst aupd_same rfl (fin .plus)
          · exact x_lst aupd_same rfl (fin .less)
          · exact x_lst aupd_same rfl (fin .times)
          · exact x_lst aupd_same rfl (fin .over)
        · simp only [z2]
          bv_omega
          have pow : ∀ h1 : AH, Go h h1 a c (N + 1) → wpC G (n + 4 + H) 132 [.ref a, .int many, .ref r, .ref q, .int H] h1 (fun x h1 => wpC G (n + 4 + H) 10 [.ref a, .int 5] h1 (fun y h2 => Shr (Q (.tup [.str "power", x, y])) h2) fun x h' => Shr (E x) h') fun x h' => Shr (E x) h' := by
            intro h1 g1
            refine ih g1.w (by omega) (g1.le r _ ra er) (g1.le q _ qa eq) fun e1 h2 g2 o1 => ?_
            have : n + 4 + H = (n + 3 + H) + 1 := by omega
            rw [this]
            have g12 := g1.trans g2
            refine draw_spec (n := n + 3 + H) l.c10 g12.w (by omega) (by decide) (by decide) fun u o u0 u1 w3 => ?_
            have g3 := g12.draw w3 (M := N + (4 * bnd H + 200)) (by omega)
            obtain ⟨k, rfl⟩ := Int.eq_ofNat_of_zero_le u0
            have hk : k ≤ 4 := by omega
            refine shr_i (hq (.pow e1 k) _ g3 ⟨⟨hk, o1.ok⟩, ?_, ?_⟩)
            · show e1.dep + 1 ≤ H + 1
              have := o1.dep
              omega
            · show (rightN many known _ && (rows e1).all _) = true
              rw [o1.right]
              rfl
          by_cases z3 : t = 5
          · subst z3
            bv_omega
            rw [hh]
            exact pow h1 g1
          · simp only [z3]
            bv_omega
            have eq1 := g1.le q _ qa eq
            refine n_lst eq1 ?_
            bv_omega
            by_cases z4 : known = []
            · have : ((known.map (prf nI)).length : Int) = 0 := by rw [z4]; rfl
              simp only [this]
              bv_omega
              rw [hh]
              exact pow h1 g1
            · have kl : 1 ≤ known.length := by
                cases known with
                | nil => exact absurd rfl z4
                | cons _ _ => simp
              have : ¬ ((known.map (prf nI)).length : Int) = 0 := by rw [List.length_map]; omega
              simp only [this]
              bv_omega
              refine n_lst eq1 ?_
              bv_omega
              have rw1 : n + 4 + H = (n + 3 + H) + 1 := by omega
              rw [rw1]
              have kl2 := K.len
              refine draw_spec (n := n + 3 + H) l.c10 g1.w (by omega) (by rw [List.length_map]; omega) (by rw [List.length_map]; omega) fun u o u0 u1 w3 => ?_
              rw [List.length_map] at u1
              have g3 := g1.draw w3 (M := N + 2) (Nat.le_refl _)
              generalize aupd h1 a o = h3 at g3
              obtain ⟨i, rfl⟩ := Int.eq_ofNat_of_zero_le u0
              have hi : i < known.length := by omega
              have eq3 := g3.le q _ qa eq
              obtain ⟨pk, hpk⟩ : ∃ pk, known[i]? = some pk := ⟨_, List.getElem?_eq_getElem hi⟩
              have mk : pk ∈ known := List.mem_of_getElem? hpk
              obtain ⟨ok1, ok2, ok3⟩ := K.ok pk mk
              have lk := lookup_mem_nk K.nk mk
              refine x_lst (v := prf nI pk) eq3 ?_ ?_
              · unfold atI
                rw [if_pos (by omega), Int.toNat_natCast, List.getElem?_map, hpk]
                rfl
              refine g_tupR rfl ?_
              bv_omega
              refine comp_inv (wpC_mono G _) ?_
              bv_omega
              refine ⟨pk.2, rfl, by omega, by omega, fun D hD => ?_⟩
              have Da : D ≠ a := by rintro rfl; exact g3.w.some.1 hD
              have Dc : D ≠ c := by rintro rfl; exact g3.w.some.2 hD
              have hD0 := g3.none hD
              refine ⟨fun rest acc h2 => ∃ es : List Nd, acc = es.map ndv ∧ rest.length + es.length = pk.2 ∧ Go h h2 a c (N + 2 + es.length * bnd H) ∧ h2 D = some (.lst (es.map ndv)) ∧ ∀ e ∈ es, DrO many known H e,
                ⟨[], rfl, ?_, (g3.set hD0 Da Dc).mono (by omega), aupd_same, fun e he => by cases he⟩, ?_, ?_⟩
              · rw [rangeL_len]; simp
              · rintro acc h2 ⟨es, rfl, le, g4, e4, oe⟩
                refine tu_lst e4 ?_
                have le2 : es.length = pk.2 := by simpa using le
                have bb : es.length * bnd H ≤ 4 * bnd H := Nat.mul_le_mul_right _ (by omega)
                have fin := hq (.call pk.1 es) h2 (g4.mono (by omega)) ⟨⟨⟨ok1, by omega, by omega⟩, aoks_all.mpr fun e he => (oe e he).ok⟩, ?_, ?_⟩
                · have e9 : ndv (.call pk.1 es) = .tup [.str "call", .str pk.1, .tup (es.map ndv)] := by rw [← ndvs_map]; rfl
                  rw [e9] at fin
                  exact shr_i fin
                · show Nd.deps es + 1 ≤ H + 1
                  have := deps_le.mpr fun e he => (oe e he).dep
                  omega
                · show (rightN many known (.call pk.1 es) && (rowss es).all _) = true
                  rw [rowss_all fun e he => (oe e he).right, Bool.and_true]
                  exact decide_eq_true (by rw [lk, le2])
              · rintro x rest acc h2 ⟨es, rfl, le, g4, e4, oe⟩
                rw [hh]
                rw [List.length_cons] at le
                have bb : es.length * bnd H + bnd H ≤ 4 * bnd H := by
                  have : (es.length + 1) * bnd H ≤ 4 * bnd H := Nat.mul_le_mul_right _ (by omega)
                  rw [Nat.succ_mul] at this
                  exact this
                rw [← rw1]
                refine ih g4.w (by omega) (g4.le r _ ra er) (g4.le q _ qa eq) fun e5 h5 g5 o5 => ?_
                have g45 := g4.trans g5
                refine ⟨g5.le D _ Da e4, ?_, es ++ [e5], ?_, ?_, ?_, ?_, ?_⟩
                · rw [List.length_map]; have := len_small (n := es.length + 1) (by omega); omega
                · rw [List.map_append]; rfl
                · rw [List.length_append]; simp; omega
                · refine (g45.set hD0 Da Dc).mono ?_
                  rw [List.length_append, List.length_singleton, Nat.succ_mul]
                  omega
                · rw [aupd_same, List.map_append]; rfl
                · intro e he
                  rcases List.mem_append.mp he with he | he
                  · exact oe e he
                  · rw [List.mem_singleton.mp he]; exact o5
end PL

namespace PL
open PySem PySem.Spec PyProof.Rows L2
variable {G : Pg} {n : Nat} {Q : AQ} {E : AXQ} {h : AH}
theorem HandOk.ale {a c : Addr} {N : Nat} {h h' : AH} (w : HandOk h a N c) (l : ALe h h') : HandOk h' a N c := by
  have w0 := w
  obtain ⟨s1, s2⟩ := w.some
  refine w0.to ?_ ?_
  · cases e : h a with
    | none => exact absurd e s1
    | some o => exact l _ _ e
  · cases e : h c with
    | none => exact absurd e s2
    | some o => exact l _ _ e
theorem Go.ale {h0 h h' : AH} {a c : Addr} {N : Nat} (g : Go h0 h a c N) (l : ALe h h') : Go h0 h' a c N := ⟨g.le.trans (HLe.of l), g.w.ale l⟩
def cb : Nat → Nat | 0 => 0 | k + 1 => 4 * cb k + 1
theorem subs_len {e : Nd} (o : AOk e) : (subs e).length ≤ 4 := by
  cases e with
  | call f as => exact o.1.2.2
  | _ => simp [subs]
theorem cnt_dep : ∀ (k : Nat) {e : Nd}, AOk e → e.dep ≤ k → e.cnt ≤ cb k
  | 0, e, _, hd => by have := dep_pos e; omega
  | k + 1, e, o, hd => by
    rw [cnt_subs]
    have h4 := subs_len o
    have hs := dep_subs.mp hd
    have ho := (aok_iff.mp o).2
    have : ∀ l : List Nd, (∀ s ∈ l, s.cnt ≤ cb k) → (l.map Nd.cnt).sum ≤ l.length * cb k := by
      intro l
      induction l with
      | nil => intro _; simp
      | cons x l ih =>
        intro hl
        have := hl x List.mem_cons_self
        have := ih fun s hs => hl s (List.mem_cons_of_mem _ hs)
        rw [List.map_cons, List.sum_cons, List.length_cons, Nat.succ_mul]
        omega
    have h1 := this (subs e) fun s h => cnt_dep k (ho s h) (hs s h)
    have h2 : (subs e).length * cb k ≤ 4 * cb k := Nat.mul_le_mul_right _ h4
    show _ ≤ 4 * cb k + 1
    omega
theorem cb5 {H : Nat} (hH : H ≤ 5) : cb (max 1 H) ≤ 1000 := by
  have : H = 0 ∨ H = 1 ∨ H = 2 ∨ H = 3 ∨ H = 4 ∨ H = 5 := by omega
  rcases this with rfl | rfl | rfl | rfl | rfl | rfl <;> decide
theorem bnd5 {H : Nat} (hH : H ≤ 5) : bnd H ≤ 280000 := by
  have : H = 0 ∨ H = 1 ∨ H = 2 ∨ H = 3 ∨ H = 4 ∨ H = 5 := by omega
  rcases this with rfl | rfl | rfl | rfl | rfl | rfl <;> decide
theorem ahd_kn {b : List Fm} (u : Upto b) (l : b.length ≤ 10) : Ahd (kn b) := by
  refine ⟨?_, fun p hp => ?_, by unfold kn; rw [List.length_map]; omega⟩
  · unfold NKs
    rw [kn_keys]
    exact u.nodup
  · obtain ⟨f, hf, rfl⟩ := List.mem_map.mp hp
    obtain ⟨pre, post, e⟩ := List.append_of_mem hf
    have o := (u pre f post e).ok
    exact ⟨o.name, o.l1, o.l4⟩
theorem take6 {ys : List Str} : acut (ys.map AV.str) none (some 6) = (ys.take 6).map .str := by
  by_cases h6 : 6 ≤ ys.length
  · rw [List.map_take]
    exact acut_take (by rw [List.length_map]; exact h6)
  · unfold acut
    have : HT.sIx (ys.map AV.str).length (ys.map AV.str).length (some 6) = (ys.map AV.str).length := by
      unfold HT.sIx
      simp only [List.length_map]
      split <;> omega
    rw [this]
    have : HT.sIx (ys.map AV.str).length 0 none = 0 := rfl
    rw [this]
    simp only [Nat.sub_zero, List.drop_zero, List.take_length]
    rw [List.take_of_length_le (by omega)]
theorem law_book_spec (l : CLb G) {a c : Addr} {N most H : Nat} (w : HandOk h a N c) (hN : N + 4000009 < 2 ^ 60) (hm : 1 ≤ most) (hm2 : most ≤ 10) (hH : H ≤ 5)
    (hq : ∀ (b : List Fm) (h' : AH), Go h h' a c (N + 4000000) → BkOk b → b.length ≤ most → (∀ f ∈ b, f.e.dep ≤ max 1 H) → Q (bkv b) h') : wpC G (n + 6 + H) 142 [.ref a, .int most, .int H] h Q E := by
  have d0 : n + 6 + H = (n + 5 + H) + 1 := by omega
  rw [d0]
  refine call_i l.c142 rfl ?_
  unfold c142_law_book
  have CM := wpC_mono G (n + 5 + H)
  have hb5 := bnd5 hH
  have d1 : n + 5 + H = (n + 4 + H) + 1 := by omega
  refine wp_cut CM (fun σ h1 => ∃ (r3 : Addr) (ys : List Str), σ = [some (.ref a), some (.int most), some (.int H), some (.ref r3), none, none, none, none, none, none, none, none, none] ∧ Go h h1 a c (N + 100) ∧ h r3 = none ∧ NmsOk ys ∧ ys.Pairwise sl ∧ h1 r3 = some (.lst (ys.map .str))) ?_ ?_
  · bv_omega
    rw [d1]
    refine draw_spec (n := n + 4 + H) l.c10 w (by omega) (by decide) (by decide) fun t o t0 t1 w2 => ?_
    have g1 := (Go.refl w).draw w2 (M := N + 1) (Nat.le_refl _)
    generalize aupd h a o = h1 at g1
    obtain ⟨m, rfl⟩ := Int.eq_ofNat_of_zero_le t0
    bv_omega
    have e1 : (1 : Int) + (m : Int) = ((1 + m : Nat) : Int) := by omega
    rw [e1]
    have d2 : n + 4 + H + 1 = (n + 3 + H) + 2 := by omega
    rw [d2]
    refine law_names_spec (n := n + 3 + H) l.c10 l.c48 g1.w (by omega) (by omega) (by omega) fun ys r h2 g2 hr hY hs l1 lm er => ?_
    refine ⟨r, ys, rfl, g1.trans (g2.mono (by omega)), g1.none hr, hY, hs, er⟩
  rintro σ h1 ⟨r3, ys, rfl, g1, hr3, hY, hs, er3⟩
  obtain ⟨r3a, r3c⟩ := w.new hr3
  refine wp_cut CM (fun σ h2 => ∃ (r4 : Addr) (zs : List Str), σ = [some (.ref a), some (.int most), some (.int H), some (.ref r3), some (.ref r4), none, none, none, none, none, none, none, none] ∧ Go h h2 a c (N + 300) ∧ h r4 = none ∧ h2 r3 = some (.lst (ys.map .str)) ∧ h2 r4 = some (.lst (zs.map .str)) ∧ zs.Nodup ∧ (∀ s ∈ zs, nameOk s = true) ∧ 1 ≤ zs.length ∧ zs.length ≤ most) ?_ ?_
  · bv_omega
    rw [d1]
    refine draw_spec (n := n + 4 + H) l.c10 g1.w (by omega) (by omega) (by omega) fun t o t0 t1 w2 => ?_
    have g2 := g1.draw w2 (M := N + 101) (by omega)
    have er3' : aupd h1 a o r3 = some (.lst (ys.map .str)) := by rw [aupd_ne r3a]; exact er3
    generalize aupd h1 a o = h2 at g2 er3'
    obtain ⟨m, rfl⟩ := Int.eq_ofNat_of_zero_le t0
    bv_omega
    have e1 : (1 : Int) + (m : Int) = ((1 + m : Nat) : Int) := by omega
    rw [e1]
    have d2 : n + 4 + H + 1 = (n + 2 + H) + 3 := by omega
    rw [d2]
    refine law_titles_spec (n := n + 2 + H) l g2.w (by omega) (by omega) (by omega) fun zs r h3 g3 hr nd ok l1 lm er => ?_
    exact ⟨r, zs, rfl, g2.trans (g3.mono (by omega)), g2.none hr, g3.le r3 _ r3a er3', er, nd, ok, l1, by omega⟩
  rintro σ h2 ⟨r4, zs, rfl, g2, hr4, er3, er4, nd, ok, l1, lm⟩
  obtain ⟨r4a, r4c⟩ := w.new hr4
  refine wp_cut CM (fun σ h3 => ∃ p, σ = [some (.ref a), some (.int most), some (.int H), some (.ref r3), some (.ref r4), some (.ref p), none, none, none, none, none, none, none] ∧ h3 = aupd h2 p (.lst []) ∧ h2 p = none) ?_ ?_
  · bv_omega
    exact fun p hp => ⟨p, rfl, rfl, hp⟩
  rintro σ h3 ⟨p5, rfl, rfl, hp5⟩
  refine wp_cut CM (fun σ h3 => ∃ p, σ = [some (.ref a), some (.int most), some (.int H), some (.ref r3), some (.ref r4), some (.ref p5), some (.ref p), none, none, none, none, none, none] ∧ h3 = aupd (aupd h2 p5 (.lst [])) p (.lst []) ∧ aupd h2 p5 (.lst []) p = none) ?_ ?_
  · bv_omega
    exact fun p hp => ⟨p, rfl, rfl, hp⟩
  rintro σ h3 ⟨p6, rfl, rfl, hp6⟩
  refine wp_cut CM (fun σ h3 => ∃ p, σ = [some (.ref a), some (.int most), some (.int H), some (.ref r3), some (.ref r4), some (.ref p5), some (.ref p6), some (.ref p), none, none, none, none, none] ∧ h3 = aupd (aupd (aupd h2 p5 (.lst [])) p6 (.lst [])) p (.dK []) ∧ aupd (aupd h2 p5 (.lst [])) p6 (.lst []) p = none) ?_ ?_
  · bv_omega
    exact fun p hp => ⟨p, rfl, rfl, hp⟩
  rintro σ h3 ⟨p7, rfl, rfl, hp7⟩
  have n56 : p5 ≠ p6 := by rintro rfl; rw [aupd_same] at hp6; cases hp6
  have n67 : p6 ≠ p7 := by rintro rfl; rw [aupd_same] at hp7; cases hp7
  have n57 : p5 ≠ p7 := by rintro rfl; rw [aupd_ne n56, aupd_same] at hp7; cases hp7
  have h6n : h2 p6 = none := by rw [aupd_ne (Ne.symm n56)] at hp6; exact hp6
  have h7n : h2 p7 = none := by rw [aupd_ne (Ne.symm n67), aupd_ne (Ne.symm n57)] at hp7; exact hp7
  have z5 := g2.none hp5
  have z6 := g2.none h6n
  have z7 := g2.none h7n
  obtain ⟨p5a, p5c⟩ := w.new z5
  obtain ⟨p6a, p6c⟩ := w.new z6
  obtain ⟨p7a, p7c⟩ := w.new z7
  have r35 : r3 ≠ p5 := by rintro rfl; rw [er3] at hp5; cases hp5
  have r36 : r3 ≠ p6 := by rintro rfl; rw [er3] at h6n; cases h6n
  have r37 : r3 ≠ p7 := by rintro rfl; rw [er3] at h7n; cases h7n
  have r45 : r4 ≠ p5 := by rintro rfl; rw [er4] at hp5; cases hp5
  have r46 : r4 ≠ p6 := by rintro rfl; rw [er4] at h6n; cases h6n
  have r47 : r4 ≠ p7 := by rintro rfl; rw [er4] at h7n; cases h7n
  have g3 := ((g2.set z5 p5a p5c (o := .lst [])).set z6 p6a p6c (o := .lst [])).set z7 p7a p7c (o := .dK [])
  have f3 : aupd (aupd (aupd h2 p5 (.lst [])) p6 (.lst [])) p7 (.dK []) r3 = some (.lst (ys.map .str)) := by rw [aupd_ne r37, aupd_ne r36, aupd_ne r35]; exact er3
  have f4 : aupd (aupd (aupd h2 p5 (.lst [])) p6 (.lst [])) p7 (.dK []) r4 = some (.lst (zs.map .str)) := by rw [aupd_ne r47, aupd_ne r46, aupd_ne r45]; exact er4
  have f5 : aupd (aupd (aupd h2 p5 (.lst [])) p6 (.lst [])) p7 (.dK []) p5 = some (.lst []) := by rw [aupd_ne n57, aupd_ne n56]; exact aupd_same
  have f6 : aupd (aupd (aupd h2 p5 (.lst [])) p6 (.lst [])) p7 (.dK []) p6 = some (.lst []) := by rw [aupd_ne n67]; exact aupd_same
  have f7 : aupd (aupd (aupd h2 p5 (.lst [])) p6 (.lst [])) p7 (.dK []) p7 = some (.dK []) := aupd_same
  generalize aupd (aupd (aupd h2 p5 (.lst [])) p6 (.lst [])) p7 (.dK []) = h3 at g3 f3 f4 f5 f6 f7
  have B : ∀ k : Nat, k ≤ 10 → k * (bnd H + 60) ≤ 10 * (bnd H + 60) := fun k hk => Nat.mul_le_mul_right _ hk
  refine wp_cut CM (fun σ h4 => ∃ (b : List Fm) (s8 s9 s10 s11 s12 : Option AV), σ = [some (.ref a), some (.int most), some (.int H), some (.ref r3), some (.ref r4), some (.ref p5), some (.ref p6), some (.ref p7), s8, s9, s10, s11, s12] ∧ Go h h4 a c (N + 4000000) ∧ h4 p5 = some (.lst (b.map fmv)) ∧ BkOk b ∧ b.length ≤ most ∧ ∀ f ∈ b, f.e.dep ≤ max 1 H) ?_ ?_
  · refine for_v CM ?_
    refine ⟨.ref r4, rfl, _, f4, fun xs σ h4 => ∃ (b : List Fm) (rest : List Str) (s8 s9 s10 s11 s12 : Option AV), xs = rest.map .str ∧ zs = b.map (·.name) ++ rest ∧ σ = [some (.ref a), some (.int most), some (.int H), some (.ref r3), some (.ref r4), some (.ref p5), some (.ref p6), some (.ref p7), s8, s9, s10, s11, s12] ∧ Go h h4 a c (N + 300 + b.length * (bnd H + 60)) ∧ h4 r3 = some (.lst (ys.map .str)) ∧ h4 r4 = some (.lst (zs.map .str)) ∧ h4 p5 = some (.lst (b.map fmv)) ∧ h4 p6 = some (.lst ((kn b).map (prf nI))) ∧ h4 p7 = some (.dK ((dgs b).map (kvf nI))) ∧ Upto b ∧ ∀ f ∈ b, f.e.dep ≤ max 1 H,
      ⟨[], zs, none, none, none, none, none, rfl, rfl, rfl, by simpa using g3, f3, f4, f5, f6, f7, (fun pre f post e => by simp at e), fun f hf => by cases hf⟩, ?_, ?_⟩
    · rintro σ h4 ⟨b, rest, s8, s9, s10, s11, s12, e, ez, rfl, g, e3, e4, e5, e6, e7, u, od⟩
      have := map_nil_eq e
      subst this
      rw [List.append_nil] at ez
      have lz : zs.length = b.length := by rw [ez, List.length_map]
      have := B b.length (by omega)
      exact ⟨e4, b, s8, s9, s10, s11, s12, rfl, g.mono (by omega), e5, ⟨by omega, by omega, u⟩, by omega, od⟩
    · rintro x xs σ h4 ⟨b, rest, s8, s9, s10, s11, s12, e, ez, rfl, g, e3, e4, e5, e6, e7, u, od⟩
      cases rest with
      | nil => cases e
      | cons s rest =>
        rw [List.map_cons] at e
        obtain ⟨rfl, rfl⟩ := List.cons.inj e
        refine ⟨e4, ?_⟩
        have lz : zs.length = b.length + (rest.length + 1) := by rw [ez]; simp
        have hb : b.length + 1 ≤ 10 := by omega
        have bb := B (b.length + 1) hb
        rw [Nat.succ_mul] at bb
        have hsn : s ∉ b.map (·.name) := by
          rw [ez, List.nodup_append] at nd
          intro hm
          exact nd.2.2 s hm s List.mem_cons_self rfl
        have hso : nameOk s = true := ok s (by rw [ez]; simp)
        show wpB (wpC G (n + 5 + H)) G.T G.sub _ _ [some (.ref a), some (.int most), some (.int H), some (.ref r3), some (.ref r4), some (.ref p5), some (.ref p6), some (.ref p7), some (.str s), s9, s10, s11, s12] h4
        refine wp_cut CM (fun σ h5 => ∃ many : Nat, 1 ≤ many ∧ many ≤ 4 ∧ σ = [some (.ref a), some (.int most), some (.int H), some (.ref r3), some (.ref r4), some (.ref p5), some (.ref p6), some (.ref p7), some (.str s), some (.int many), s10, s11, s12] ∧ Go h h5 a c (N + 300 + b.length * (bnd H + 60) + 1) ∧ h5 r3 = some (.lst (ys.map .str)) ∧ h5 r4 = some (.lst (zs.map .str)) ∧ h5 p5 = some (.lst (b.map fmv)) ∧ h5 p6 = some (.lst ((kn b).map (prf nI))) ∧ h5 p7 = some (.dK ((dgs b).map (kvf nI)))) ?_ ?_
        · bv_omega
          rw [d1]
          refine draw_spec (n := n + 4 + H) l.c10 g.w (by omega) (by decide) (by decide) fun t o t0 t1 w2 => ?_
          obtain ⟨m, rfl⟩ := Int.eq_ofNat_of_zero_le t0
          bv_omega
          have e1 : (1 : Int) + (m : Int) = ((1 + m : Nat) : Int) := by omega
          rw [e1]
          exact ⟨1 + m, by omega, by omega, rfl, g.draw w2 (Nat.le_refl _), by rw [aupd_ne r3a]; exact e3, by rw [aupd_ne r4a]; exact e4, by rw [aupd_ne p5a]; exact e5, by rw [aupd_ne p6a]; exact e6, by rw [aupd_ne p7a]; exact e7⟩
        clear g e3 e4 e5 e6 e7 h4
        rintro σ h4 ⟨many, m1, m4, rfl, g, e3, e4, e5, e6, e7⟩
        refine wp_cut CM (fun σ h5 => ∃ dd : List Dm, dd.length = many ∧ (∀ d ∈ dd, isPlain (dm d) = true) ∧ σ = [some (.ref a), some (.int most), some (.int H), some (.ref r3), some (.ref r4), some (.ref p5), some (.ref p6), some (.ref p7), some (.str s), some (.int many), some (.tup (dd.map dm)), s11, s12] ∧ Go h h5 a c (N + 300 + b.length * (bnd H + 60) + 50) ∧ h5 r3 = some (.lst (ys.map .str)) ∧ h5 r4 = some (.lst (zs.map .str)) ∧ h5 p5 = some (.lst (b.map fmv)) ∧ h5 p6 = some (.lst ((kn b).map (prf nI))) ∧ h5 p7 = some (.dK ((dgs b).map (kvf nI)))) ?_ ?_
        · bv_omega
          refine comp_inv CM ?_
          bv_omega
          refine ⟨by omega, by omega, fun D hD => ?_⟩
          have Da : D ≠ a := by rintro rfl; exact g.w.some.1 hD
          have Dc : D ≠ c := by rintro rfl; exact g.w.some.2 hD
          have hD0 := g.none hD
          have nD : ∀ {q : Addr} {o : AO}, h4 q = some o → q ≠ D := by rintro q o e rfl; rw [hD] at e; cases e
          have n3 := nD e3
          have n4 := nD e4
          have n5 := nD e5
          have n6 := nD e6
          have n7 := nD e7
          refine ⟨fun rest' acc h5 => ∃ dd : List Dm, acc = dd.map dm ∧ rest'.length + dd.length = many ∧ Go h h5 a c (N + 300 + b.length * (bnd H + 60) + 1 + dd.length * 12) ∧ h5 D = some (.lst (dd.map dm)) ∧ (∀ d ∈ dd, isPlain (dm d) = true) ∧ h5 r3 = some (.lst (ys.map .str)) ∧ h5 r4 = some (.lst (zs.map .str)) ∧ h5 p5 = some (.lst (b.map fmv)) ∧ h5 p6 = some (.lst ((kn b).map (prf nI))) ∧ h5 p7 = some (.dK ((dgs b).map (kvf nI))),
            ⟨[], rfl, by rw [rangeL_len]; simp, (g.set hD0 Da Dc).mono (by omega), aupd_same, (fun d hd => (by cases hd)), by rw [aupd_ne n3]; exact e3, by rw [aupd_ne n4]; exact e4, by rw [aupd_ne n5]; exact e5, by rw [aupd_ne n6]; exact e6, by rw [aupd_ne n7]; exact e7⟩, ?_, ?_⟩
          · rintro acc h5 ⟨dd, rfl, le, g5, eD, pl, e3, e4, e5, e6, e7⟩
            have le2 : dd.length = many := by simpa using le
            exact tu_lst eD ⟨dd, le2, pl, rfl, g5.mono (by omega), e3, e4, e5, e6, e7⟩
          · rintro x rest' acc h5 ⟨dd, rfl, le, g5, eD, pl, e3, e4, e5, e6, e7⟩
            rw [List.length_cons] at le
            refine sl_lst e3 fun p8 hp8 => ?_
            rw [take6]
            have nP : ∀ {q : Addr} {o : AO}, h5 q = some o → q ≠ p8 := by rintro q o e rfl; rw [hp8] at e; cases e
            have p8a : p8 ≠ a := by rintro rfl; exact g5.w.some.1 hp8
            have g6 := g5.fresh hp8 (o := .lst ((ys.take 6).map .str))
            have k3 : aupd h5 p8 (.lst ((ys.take 6).map .str)) r3 = _ := (aupd_ne (nP e3)).trans e3
            have k4 : aupd h5 p8 (.lst ((ys.take 6).map .str)) r4 = _ := (aupd_ne (nP e4)).trans e4
            have k5 : aupd h5 p8 (.lst ((ys.take 6).map .str)) p5 = _ := (aupd_ne (nP e5)).trans e5
            have k6 : aupd h5 p8 (.lst ((ys.take 6).map .str)) p6 = _ := (aupd_ne (nP e6)).trans e6
            have k7 : aupd h5 p8 (.lst ((ys.take 6).map .str)) p7 = _ := (aupd_ne (nP e7)).trans e7
            have kD : aupd h5 p8 (.lst ((ys.take 6).map .str)) D = _ := (aupd_ne (nP eD)).trans eD
            have k8 : aupd h5 p8 (.lst ((ys.take 6).map .str)) p8 = some (.lst ((ys.take 6).map .str)) := aupd_same
            generalize aupd h5 p8 (.lst ((ys.take 6).map .str)) = h6 at g6 k3 k4 k5 k6 k7 kD k8
            have h6' : NmsOk (ys.take 6) := ⟨fun s hs => hY.ok s (List.mem_of_mem_take hs), by rw [List.length_take]; omega⟩
            have l6 : (ys.take 6).length ≤ 6 := by rw [List.length_take]; omega
            have d3 : n + 5 + H = (n + 3 + H) + 2 := by omega
            rw [d3]
            refine law_size_gen (n := n + 3 + H) (k := 4) l.c10 l.c49 g6.w (by omega) h6' (List.Pairwise.sublist (List.take_sublist _ _) hs) k8 p8a (by decide) (by decide) (by decide) fun d h7 g7 od o9 => ?_
            have g67 := g6.trans g7
            have k := fun {q : Addr} {o : AO} (qa : q ≠ a) (e : h6 q = some o) => g7.le q o qa e
            refine ⟨k Da kD, ?_, dd ++ [d], by rw [List.map_append]; rfl, by rw [List.length_append]; simp; omega, (g67.set hD0 Da Dc).mono (by rw [List.length_append, List.length_singleton]; omega), by rw [aupd_same, List.map_append]; rfl, ?_, (aupd_ne n3).trans (k r3a k3), (aupd_ne n4).trans (k r4a k4), (aupd_ne n5).trans (k p5a k5), (aupd_ne n6).trans (k p6a k6), (aupd_ne n7).trans (k p7a k7)⟩
            · rw [List.length_map]; have := len_small (n := dd.length + 1) (by omega); omega
            · intro x hx
              rcases List.mem_append.mp hx with hx | hx
              · exact pl x hx
              · rw [List.mem_singleton.mp hx]; exact isPlain_dm h6' l6 od o9
        clear g e3 e4 e5 e6 e7 h4
        rintro σ h4 ⟨dd, ld, pl, rfl, g, e3, e4, e5, e6, e7⟩
        refine wp_cut CM (fun σ h5 => ∃ e : Nd, DrO many (kn b) (max 1 H) e ∧ σ = [some (.ref a), some (.int most), some (.int H), some (.ref r3), some (.ref r4), some (.ref p5), some (.ref p6), some (.ref p7), some (.str s), some (.int many), some (.tup (dd.map dm)), some (ndv e), s12] ∧ Go h h5 a c (N + 300 + b.length * (bnd H + 60) + 50 + bnd H) ∧ h5 r3 = some (.lst (ys.map .str)) ∧ h5 r4 = some (.lst (zs.map .str)) ∧ h5 p5 = some (.lst (b.map fmv)) ∧ h5 p6 = some (.lst ((kn b).map (prf nI))) ∧ h5 p7 = some (.dK ((dgs b).map (kvf nI)))) ?_ ?_
        · bv_omega
          have d4 : n + 5 + H = (n + 1) + 4 + H := by omega
          rw [d4]
          refine law_node_spec (n := n + 1) l hY hs r3a p6a m1 m4 (ahd_kn u (by omega)) H g.w (by omega) e3 e6 fun e h5 g5 o => ?_
          have k := fun {q : Addr} {o : AO} (qa : q ≠ a) (e : h4 q = some o) => g5.le q o qa e
          bv_omega
          exact ⟨e, o, rfl, g.trans g5, k r3a e3, k r4a e4, k p5a e5, k p6a e6, k p7a e7⟩
        clear g e3 e4 e5 e6 e7 h4
        rintro σ h4 ⟨e, o, rfl, g, e3, e4, e5, e6, e7⟩
        have d200 := dgs_200 u
        have hmax : max 1 H ≤ 5 := by omega
        have oc : e.cnt ≤ 1000 := Nat.le_trans (cnt_dep _ o.ok o.dep) (cb5 hH)
        refine wp_cut CM (fun σ h5 => ∃ e : Nd, DrO many (kn b) (max 1 H) e ∧ deg (dgs b) e ≤ 200 ∧ e.cnt ≤ 40 ∧ σ = [some (.ref a), some (.int most), some (.int H), some (.ref r3), some (.ref r4), some (.ref p5), some (.ref p6), some (.ref p7), some (.str s), some (.int many), some (.tup (dd.map dm)), some (ndv e), s12] ∧ ALe h4 h5) ?_ ?_
        · bv_omega
          have d5 : n + 5 + H = (n + 3) + 1 + (H + 1) := by omega
          rw [d5]
          refine law_degree_spec (n := n + 3) l d200 (H + 1) e o.ok (by have := o.dep; omega) oc e7 fun h5 l5 => ?_
          have inn : DrO many (kn b) (max 1 H) (.inn 0) ∧ deg (dgs b) (.inn 0) ≤ 200 ∧ (Nd.inn 0).cnt ≤ 40 := by
            refine ⟨⟨by show 0 < 4; decide, by show 1 ≤ _; omega, ?_⟩, by show 1 ≤ 200; decide, by show 1 ≤ 40; decide⟩
            show (decide (0 < many) && true) = true
            rw [Bool.and_true, decide_eq_true_eq]
            omega
          show (if decide ((200 : Int) < (deg (dgs b) e : Int)) = true then _ else _)
          by_cases q1 : deg (dgs b) e ≤ 200
          · have q2 : ¬ (200 : Int) < (deg (dgs b) e : Int) := by omega
            simp only [q2, decide_false, if_false, Bool.false_eq_true]
            have d6 : n + 3 + 1 + (H + 1) = (n + 3 + H) + 2 := by omega
            rw [d6]
            refine law_nodes_spec (n := n + 3 + H) l oc fun p9 h6 l6 _ e9 => n_lst e9 ?_
            rw [List.length_map, rows_len]
            by_cases q3 : e.cnt ≤ 40
            · have q4 : ¬ (40 : Int) < (e.cnt : Int) := by omega
              bv_omega
              simp only [q4, if_false]
              exact ⟨e, o, q1, q3, rfl, ALe.trans l5 l6⟩
            · have q4 : (40 : Int) < (e.cnt : Int) := by omega
              bv_omega
              simp only [q4, if_true]
              exact ⟨.inn 0, inn.1, inn.2.1, inn.2.2, rfl, ALe.trans l5 l6⟩
          · have q2 : (200 : Int) < (deg (dgs b) e : Int) := by omega
            simp only [q2, decide_true, if_true]
            exact ⟨.inn 0, inn.1, inn.2.1, inn.2.2, rfl, l5⟩
        rintro σ h5 ⟨e, o, dl, cl, rfl, l5⟩
        replace g := g.ale l5
        replace e3 := l5 _ _ e3
        replace e4 := l5 _ _ e4
        replace e5 := l5 _ _ e5
        replace e6 := l5 _ _ e6
        replace e7 := l5 _ _ e7
        clear l5 oc h4
        have oc : e.cnt ≤ 1000 := by omega
        have kd : (dgs b).length = b.length := by
          have := congrArg List.length (dgs_keys b)
          rw [List.length_map, List.length_map] at this
          exact this
        have kk : (kn b).length = b.length := by unfold kn; rw [List.length_map]
        have ka : s ∉ (dgs b).map (·.1) := by rw [dgs_keys]; exact hsn
        bv_omega
        have d5 : n + 5 + H = (n + 3) + 1 + (H + 1) := by omega
        rw [d5]
        refine law_degree_spec (n := n + 3) l d200 (H + 1) e o.ok (by have := o.dep; omega) oc e7 fun h6 l6 => ?_
        refine set_dK (l6 _ _ e7) rfl (len_small (by rw [List.length_map]; omega)) ?_
        rw [dput_kv, dset_new ka]
        have g7 := (g.ale l6).set z7 p7a p7c (o := .dK ((dgs b ++ [(s, deg (dgs b) e)]).map (kvf nI)))
        have k3 : aupd h6 p7 (.dK ((dgs b ++ [(s, deg (dgs b) e)]).map (kvf nI))) r3 = _ := (aupd_ne r37).trans (l6 _ _ e3)
        have k4 : aupd h6 p7 (.dK ((dgs b ++ [(s, deg (dgs b) e)]).map (kvf nI))) r4 = _ := (aupd_ne r47).trans (l6 _ _ e4)
        have k5 : aupd h6 p7 (.dK ((dgs b ++ [(s, deg (dgs b) e)]).map (kvf nI))) p5 = _ := (aupd_ne n57).trans (l6 _ _ e5)
        have k6 : aupd h6 p7 (.dK ((dgs b ++ [(s, deg (dgs b) e)]).map (kvf nI))) p6 = _ := (aupd_ne n67).trans (l6 _ _ e6)
        have k7 : aupd h6 p7 (.dK ((dgs b ++ [(s, deg (dgs b) e)]).map (kvf nI))) p7 = some (.dK ((dgs b ++ [(s, deg (dgs b) e)]).map (kvf nI))) := aupd_same
        generalize aupd h6 p7 (.dK ((dgs b ++ [(s, deg (dgs b) e)]).map (kvf nI))) = h7 at g7 k3 k4 k5 k6 k7
        refine ⟨ms_app k6, m_app k6 (len_small (by rw [List.length_map]; omega)) ?_⟩
        have g8 := g7.set z6 p6a p6c (o := .lst ((kn b).map (prf nI) ++ [.tup [.str s, .int many]]))
        have j3 : aupd h7 p6 (.lst ((kn b).map (prf nI) ++ [.tup [.str s, .int many]])) r3 = _ := (aupd_ne r36).trans k3
        have j4 : aupd h7 p6 (.lst ((kn b).map (prf nI) ++ [.tup [.str s, .int many]])) r4 = _ := (aupd_ne r46).trans k4
        have j5 : aupd h7 p6 (.lst ((kn b).map (prf nI) ++ [.tup [.str s, .int many]])) p5 = _ := (aupd_ne n56).trans k5
        have j6 : aupd h7 p6 (.lst ((kn b).map (prf nI) ++ [.tup [.str s, .int many]])) p6 = some (.lst ((kn b).map (prf nI) ++ [.tup [.str s, .int many]])) := aupd_same
        have j7 : aupd h7 p6 (.lst ((kn b).map (prf nI) ++ [.tup [.str s, .int many]])) p7 = _ := (aupd_ne (Ne.symm n67)).trans k7
        generalize aupd h7 p6 (.lst ((kn b).map (prf nI) ++ [.tup [.str s, .int many]])) = h8 at g8 j3 j4 j5 j6 j7
        refine ⟨ms_app j5, m_app j5 (len_small (by rw [List.length_map]; omega)) ?_⟩
        have fo : FOk b ⟨s, dd, e⟩ := ⟨⟨hso, by show 1 ≤ dd.length; omega, by show dd.length ≤ 4; omega, pl, o.ok, by have := o.dep; show e.dep ≤ 12; omega, cl⟩, hsn, by show (rows e).all (rightN dd.length (kn b)) = true; rw [ld]; exact o.right, dl⟩
        refine ⟨b ++ [⟨s, dd, e⟩], rest, _, _, _, _, _, rfl, by rw [ez]; simp, rfl, (g8.set z5 p5a p5c).mono ?_, (aupd_ne r35).trans j3, (aupd_ne r45).trans j4, ?_, (aupd_ne (Ne.symm n56)).trans ?_, (aupd_ne (Ne.symm n57)).trans ?_, u.snoc fo, ?_⟩
        · rw [List.length_append, List.length_singleton, Nat.succ_mul]
          omega
        · rw [aupd_same, List.map_append]; rfl
        · rw [j6, kn_snoc, List.map_append]
          show _ = some (AO.lst ((kn b).map (prf nI) ++ [.tup [.str s, .int (dd.length : Int)]]))
          rw [ld]
        · rw [j7, dgs_snoc]
        · intro f hf
          rcases List.mem_append.mp hf with hf | hf
          · exact od f hf
          · rw [List.mem_singleton.mp hf]; exact o.dep
  · rintro σ h4 ⟨b, s8, s9, s10, s11, s12, rfl, g, e5, o, lb, od⟩
    bv_omega
    exact tu_lst e5 (shr_i (hq b h4 g o lb od))
end PL

namespace K04
open PySem PySem.Spec PyProof.Rows L2 PL
def top (i : Nat) : Stmt := PySem.Challenge.pw_anyunits_k04_whole_books_right_and_spoil.main.body.getD i (.Pass ⟨0, 0, 0, 0⟩)
def c136_law_wrong_node : CS := .cons (.asg (.var 3) (.lst (.cons (.tup (.cons (.str "num") (.cons (.tup (.cons (.int 2) (.cons (.int 4) .nil))) .nil))) (.cons (.tup (.cons (.str "num") (.cons (.int 1) .nil))) (.cons (.tup (.cons (.str "num") (.cons (.tup (.cons (.bin .pow (.int 10) (.int 10)) (.cons (.int 1) .nil))) .nil))) (.cons (.tup (.cons (.str "told") (.cons (.tup (.cons (.int 1) (.cons (.int 1) .nil))) .nil))) .nil)))))) (.cons (.asg (.var 3) (.bin .add (.var 3) (.lst (.cons (.tup (.cons (.str "told") (.cons (.tup (.cons (.int 1) (.cons (.int 1) .nil))) (.cons (.tup (.cons (.tup (.cons (.str "a") (.cons (.int 10) .nil))) .nil)) .nil)))) (.cons (.tup (.cons (.str "in") (.cons (.var 2) .nil))) (.cons (.tup (.cons (.str "in") (.cons (.bin .sub (.int 0) (.int 1)) .nil))) (.cons (.tup (.cons (.str "in") (.cons (.bl true) .nil))) .nil))))))) (.cons (.asg (.var 3) (.bin .add (.var 3) (.lst (.cons (.tup (.cons (.str "in") .nil)) (.cons (.tup (.cons (.str "plus") (.cons (.var 0) .nil))) (.cons (.tup (.cons (.str "minus") (.cons (.var 0) (.cons (.var 0) .nil)))) (.cons (.tup (.cons (.str "power") (.cons (.var 0) (.cons (.int 5) .nil)))) (.cons (.tup (.cons (.str "power") (.cons (.var 0) (.cons (.bin .sub (.int 0) (.int 1)) .nil)))) .nil)))))))) (.cons (.asg (.var 3) (.bin .add (.var 3) (.lst (.cons (.tup (.cons (.str "power") (.cons (.var 0) (.cons (.bl true) .nil)))) (.cons (.tup (.cons (.str "call") (.cons (.str "") (.cons (.tup (.cons (.var 0) .nil)) .nil)))) (.cons (.tup (.cons (.str "call") (.cons (.var 0) (.cons (.tup (.cons (.var 0) .nil)) .nil)))) (.cons (.lst (.cons (.str "in") (.cons (.int 0) .nil))) .nil))))))) (.cons (.ret (.idx (.bin .add (.var 3) (.lst (.cons .non (.cons (.tup .nil) (.cons (.tup (.cons (.str "num") (.cons (.tup (.cons (.int 1) (.cons (.int 1) .nil))) (.cons (.int 1) .nil)))) .nil))))) (.var 1))) .nil))))
def c135_law_put : CS := .cons (.iff (.cmp .eq (.var 1) (.int 0)) (.cons (.ret (.var 2)) .nil) .nil) (.cons (.asg (.var 3) (.call 128 (.cons (.var 0) .nil))) (.cons (.asg (.var 4) (.int 1)) (.cons (.asg (.var 5) (.lst .nil)) (.cons (.forr (.var 6) (.val (.var 3)) (.cons (.asg (.var 7) (.blt .len (.cons (.call 134 (.cons (.var 6) .nil)) .nil))) (.cons (.expr (.mth .append (.var 5) (.cons (.var 6) .nil))) (.cons (.iff (.chain .le .lt (.var 4) (.var 1) (.bin .add (.var 4) (.var 7))) (.cons (.asg (.idx (.var 5) (.neg (.int 1))) (.call 135 (.cons (.var 6) (.cons (.bin .sub (.var 1) (.var 4)) (.cons (.var 2) .nil))))) .nil) .nil) (.cons (.asg (.var 4) (.bin .add (.var 4) (.var 7))) .nil))))) (.cons (.iff (.cmp .eq (.idx (.var 0) (.int 0)) (.str "call")) (.cons (.ret (.tup (.cons (.str "call") (.cons (.idx (.var 0) (.int 1)) (.cons (.blt .tuple (.cons (.var 5) .nil)) .nil))))) .nil) .nil) (.cons (.iff (.cmp .eq (.idx (.var 0) (.int 0)) (.str "power")) (.cons (.ret (.tup (.cons (.str "power") (.cons (.idx (.var 5) (.int 0)) (.cons (.idx (.var 0) (.int 2)) .nil))))) .nil) .nil) (.cons (.ret (.tup (.cons (.idx (.var 0) (.int 0)) (.cons (.idx (.var 5) (.int 0)) (.cons (.idx (.var 5) (.int 1)) .nil))))) .nil)))))))
def c143_law_spoilt : CS := .cons (.asg (.tup (.cons (.var 4) (.cons (.var 5) (.cons (.var 6) .nil)))) (.idx (.var 0) (.var 1))) (.cons (.asg (.var 7) (.lst (.cons (.tup (.cons (.str "Aa") (.cons (.var 5) (.cons (.var 6) .nil)))) (.cons (.tup (.cons (.var 4) (.cons (.blt .list (.cons (.var 5) .nil)) (.cons (.var 6) .nil)))) (.cons (.tup (.cons (.var 4) (.cons (.tup .nil) (.cons (.var 6) .nil)))) (.cons (.tup (.cons (.var 4) (.cons (.bin .mul (.var 5) (.int 5)) (.cons (.var 6) .nil)))) .nil)))))) (.cons (.asg (.var 7) (.bin .add (.var 7) (.lst (.cons (.tup (.cons (.var 4) (.cons (.var 5) .nil))) (.cons (.lst (.cons (.var 4) (.cons (.var 5) (.cons (.var 6) .nil)))) (.cons (.tup (.cons (.var 4) (.cons (.bin .add (.tup (.cons (.tup (.cons (.tup (.cons (.str "b") (.cons (.int 1) .nil))) (.cons (.tup (.cons (.str "a") (.cons (.int 1) .nil))) .nil))) .nil)) (.slc (.var 5) (.cons (.int 1) .nil) .nil)) (.cons (.var 6) .nil)))) .nil)))))) (.cons (.expr (.mth .append (.var 7) (.cons (.tup (.cons (.str "abcdefghi") (.cons (.var 5) (.cons (.var 6) .nil)))) .nil))) (.cons (.iff (.cmp .lt (.var 2) (.blt .len (.cons (.var 7) .nil))) (.cons (.ret (.bin .add (.bin .add (.slc (.var 0) .nil (.cons (.var 1) .nil)) (.tup (.cons (.idx (.var 7) (.var 2)) .nil))) (.slc (.var 0) (.cons (.bin .add (.var 1) (.int 1)) .nil) .nil))) .nil) .nil) (.cons (.asg (.var 8) (.call 135 (.cons (.var 6) (.cons (.var 3) (.cons (.call 136 (.cons (.idx (.call 134 (.cons (.var 6) .nil)) (.var 3)) (.cons (.bin .sub (.var 2) (.blt .len (.cons (.var 7) .nil))) (.cons (.blt .len (.cons (.var 5) .nil)) .nil)))) .nil))))) (.cons (.ret (.bin .add (.bin .add (.slc (.var 0) .nil (.cons (.var 1) .nil)) (.tup (.cons (.tup (.cons (.var 4) (.cons (.var 5) (.cons (.var 8) .nil)))) .nil))) (.slc (.var 0) (.cons (.bin .add (.var 1) (.int 1)) .nil) .nil))) .nil))))))
def c141_law_told : CS := .cons (.asg (.var 2) (.str "none")) (.cons (.tri (.cons (.iff (.cmp .eq (.var 0) (.int 0)) (.cons (.expr (.call 137 (.cons (.var 1) .nil))) .nil) .nil) (.cons (.iff (.cmp .eq (.var 0) (.int 1)) (.cons (.expr (.call 138 (.cons (.var 1) (.cons (.bin .sub (.int 0) (.int 1)) (.cons .non .nil))))) .nil) .nil) (.cons (.iff (.cmp .eq (.var 0) (.int 2)) (.cons (.expr (.call 139 (.cons (.var 1) (.cons .non .nil)))) .nil) .nil) (.cons (.iff (.cmp .eq (.var 0) (.int 3)) (.cons (.expr (.call 140 (.cons (.var 1) (.cons (.str "a") .nil)))) .nil) .nil) .nil)))) (.hcons 9 (.cons (.asg (.var 2) (.str "book")) .nil) (.hcons 10 (.cons (.asg (.var 2) (.str "place")) .nil) .hnil))) (.cons (.ret (.var 2)) .nil))
def c144_law_refused : CS := .cons (.iff (.cmp .isnot (.call 123 (.cons (.var 0) .nil)) (.bl false)) (.cons (.ret (.bl false)) .nil) .nil) (.cons (.ret (.cmp .eq (.blt .len (.cons (.comp [1] (.var 1) (.range1 (.int 4)) (.cons (.cmp .ne (.call 141 (.cons (.var 1) (.cons (.var 0) .nil))) (.str "book")) .nil) (.var 1)) .nil)) (.int 0))) .nil)
def c184_law : CS := .cons (.asg (.var 1) (.call 20 (.cons (.var 0) .nil))) (.cons (.asg (.var 2) (.call 142 (.cons (.var 1) (.cons (.int 5) (.cons (.int 4) .nil))))) (.cons (.asg (.var 3) (.call 10 (.cons (.var 1) (.cons (.blt .len (.cons (.var 2) .nil)) .nil)))) (.cons (.asg (.var 4) (.call 10 (.cons (.var 1) (.cons (.int 28) .nil)))) (.cons (.asg (.var 5) (.call 10 (.cons (.var 1) (.cons (.blt .len (.cons (.call 134 (.cons (.idx (.idx (.var 2) (.var 3)) (.int 2)) .nil)) .nil)) .nil)))) (.cons (.forr (.var 6) (.range2 (.int 1) (.bin .add (.blt .len (.cons (.var 2) .nil)) (.int 1))) (.cons (.iff (.cmp .isnot (.call 123 (.cons (.slc (.var 2) .nil (.cons (.var 6) .nil)) .nil)) (.bl true)) (.cons (.ret (.bl false)) .nil) .nil) .nil)) (.cons (.forr (.var 7) (.range1 (.blt .len (.cons (.var 2) .nil))) (.cons (.iff (.cmp .ne (.call 140 (.cons (.var 2) (.cons (.idx (.idx (.var 2) (.var 7)) (.int 0)) .nil))) (.var 7)) (.cons (.ret (.bl false)) .nil) .nil) .nil)) (.cons (.forr (.var 8) (.val (.lst (.cons (.str "") (.cons (.str "abcdefghi") (.cons (.str "A") (.cons (.bin .add (.idx (.idx (.var 2) (.int 0)) (.int 0)) (.str " ")) .nil)))))) (.cons (.iff (.cmp .isnot (.call 140 (.cons (.var 2) (.cons (.var 8) .nil))) .non) (.cons (.ret (.bl false)) .nil) .nil) .nil)) (.cons (.iff (.or (.cons (.cmp .ne (.call 141 (.cons (.int 1) (.cons (.var 2) .nil))) (.str "place")) (.cons (.cmp .ne (.call 141 (.cons (.int 2) (.cons (.var 2) .nil))) (.str "place")) .nil))) (.cons (.ret (.bl false)) .nil) .nil) (.cons (.forr (.var 8) (.val (.lst (.cons (.call 143 (.cons (.var 2) (.cons (.var 3) (.cons (.var 4) (.cons (.var 5) .nil))))) (.cons (.blt .list (.cons (.var 2) .nil)) (.cons (.tup .nil) (.cons (.bin .add (.var 2) (.slc (.var 2) .nil (.cons (.int 1) .nil))) (.cons .non (.cons (.idx (.var 2) (.int 0)) .nil)))))))) (.cons (.iff (.not (.tru (.call 144 (.cons (.var 8) .nil)))) (.cons (.ret (.bl false)) .nil) .nil) .nil)) (.cons (.ret (.bl true)) .nil))))))))))
def d_is_integer : FDat := ⟨0, "is_integer", ["thing"], ["thing"], defArgs (top 5), defBody (top 5), defScope (top 5), c0_is_integer, none⟩
def d_is_within : FDat := ⟨26, "is_within", ["thing", "low", "high"], ["thing", "low", "high"], defArgs (top 6), defBody (top 6), defScope (top 6), c26_is_within, none⟩
def d_divisor : FDat := ⟨1, "divisor", ["x", "y"], ["x", "y"], defArgs (top 7), defBody (top 7), defScope (top 7), c1_divisor, none⟩
def d_is_fraction : FDat := ⟨2, "is_fraction", ["thing"], ["thing"], defArgs (top 8), defBody (top 8), defScope (top 8), c2_is_fraction, none⟩
def d_is_name : FDat := ⟨34, "is_name", ["thing", "sign"], ["thing"], defArgs (top 12), defBody (top 12), defScope (top 12), c34_is_name, none⟩
def d_are_named_pairs : FDat := ⟨35, "are_named_pairs", ["thing", "at", "pair"], ["thing"], defArgs (top 13), defBody (top 13), defScope (top 13), c35_are_named_pairs, none⟩
def d_is_dimension : FDat := ⟨36, "is_dimension", ["thing", "base", "n"], ["thing"], defArgs (top 14), defBody (top 14), defScope (top 14), c36_is_dimension, none⟩
def d_is_short : FDat := ⟨115, "is_short", ["thing"], ["thing"], defArgs (top 34), defBody (top 34), defScope (top 34), c115_is_short, none⟩
def d_is_plain_dimension : FDat := ⟨94, "is_plain_dimension", ["thing", "base", "n"], ["thing"], defArgs (top 35), defBody (top 35), defScope (top 35), c94_is_plain_dimension, none⟩
def d_is_form_part : FDat := ⟨169, "is_form_part", ["sign", "thing"], ["sign", "thing"], defArgs (top 36), defBody (top 36), defScope (top 36), c169_is_form_part, none⟩
def d_has_form : FDat := ⟨116, "has_form", ["thing", "signs", "sign", "one"], ["thing"], defArgs (top 37), defBody (top 37), defScope (top 37), c116_has_form, none⟩
def d_raw_parts : FDat := ⟨117, "raw_parts", ["node", "found", "sign", "one"], ["node"], defArgs (top 38), defBody (top 38), defScope (top 38), c117_raw_parts, none⟩
def d_has_size : FDat := ⟨118, "has_size", ["node", "many", "waiting", "here", "deep", "part"], ["node"], defArgs (top 39), defBody (top 39), defScope (top 39), c118_has_size, none⟩
def d_node_rows : FDat := ⟨119, "node_rows", ["node", "found", "waiting", "here"], ["node"], defArgs (top 40), defBody (top 40), defScope (top 40), c119_node_rows, none⟩
def d_has_formula_form : FDat := ⟨121, "has_formula_form", ["thing", "one"], ["thing"], defArgs (top 41), defBody (top 41), defScope (top 41), c121_has_formula_form, none⟩
def d_is_right : FDat := ⟨122, "is_right", ["node", "many", "known", "here"], ["node", "many", "known"], defArgs (top 42), defBody (top 42), defScope (top 42), c122_is_right, none⟩
def d_degree_of : FDat := ⟨120, "degree_of", ["node", "degrees", "parts", "part"], ["node", "degrees"], defArgs (top 43), defBody (top 43), defScope (top 43), c120_degree_of, none⟩
def d_is_book : FDat := ⟨123, "is_book", ["thing", "known", "degrees", "formula"], ["thing"], defArgs (top 44), defBody (top 44), defScope (top 44), c123_is_book, none⟩
def d_check_book : FDat := ⟨124, "check_book", ["book"], ["book"], defArgs (top 45), defBody (top 45), defScope (top 45), c124_check_book, none⟩
def d_check_number : FDat := ⟨125, "check_number", ["book", "r"], ["book", "r"], defArgs (top 46), defBody (top 46), defScope (top 46), c125_check_number, none⟩
def d_check_formula : FDat := ⟨127, "check_formula", ["book", "r"], ["book", "r"], defArgs (top 47), defBody (top 47), defScope (top 47), c127_check_formula, none⟩
def d_formula_numbers : FDat := ⟨126, "formula_numbers", ["book", "number", "formula"], ["book"], defArgs (top 48), defBody (top 48), defScope (top 48), c126_formula_numbers, none⟩
def d_formula_number : FDat := ⟨140, "formula_number", ["book", "name"], ["book", "name"], defArgs (top 49), defBody (top 49), defScope (top 49), c140_formula_number, none⟩
def d_nodes_many : FDat := ⟨137, "nodes_many", ["book", "formula"], ["book"], defArgs (top 50), defBody (top 50), defScope (top 50), c137_nodes_many, none⟩
def d_node_at : FDat := ⟨138, "node_at", ["book", "r", "n", "rows"], ["book", "r", "n"], defArgs (top 51), defBody (top 51), defScope (top 51), c138_node_at, none⟩
def d_called_by : FDat := ⟨139, "called_by", ["book", "r", "numbers", "node"], ["book", "r"], defArgs (top 52), defBody (top 52), defScope (top 52), c139_called_by, none⟩
def d__law_hand : FDat := ⟨20, "_law_hand", ["script", "cells", "cell"], ["script"], defArgs (top 54), defBody (top 54), defScope (top 54), c20_law_hand, none⟩
def d__law_draw : FDat := ⟨10, "_law_draw", ["hand", "many", "cell", "digit", "number"], ["hand", "many"], defArgs (top 55), defBody (top 55), defScope (top 55), c10_law_draw, none⟩
def d__law_low : FDat := ⟨11, "_law_low", ["top", "bottom", "one", "other", "rest"], ["top", "bottom"], defArgs (top 56), defBody (top 56), defScope (top 56), c11_law_low, none⟩
def d__law_names : FDat := ⟨48, "_law_names", ["hand", "many", "letters", "found", "_", "name"], ["hand", "many"], defArgs (top 57), defBody (top 57), defScope (top 57), c48_law_names, none⟩
def d__law_size : FDat := ⟨49, "_law_size", ["hand", "names", "most", "found", "name", "power"], ["hand", "names", "most"], defArgs (top 58), defBody (top 58), defScope (top 58), c49_law_size, none⟩
def d__law_parts : FDat := ⟨128, "_law_parts", ["e"], ["e"], defArgs (top 59), defBody (top 59), defScope (top 59), c128_law_parts, none⟩
def d__law_nodes : FDat := ⟨134, "_law_nodes", ["e", "found", "at"], ["e"], defArgs (top 60), defBody (top 60), defScope (top 60), c134_law_nodes, none⟩
def d__law_degree : FDat := ⟨129, "_law_degree", ["e", "degrees", "parts", "one"], ["e", "degrees"], defArgs (top 61), defBody (top 61), defScope (top 61), c129_law_degree, none⟩
def d__law_share : FDat := ⟨130, "_law_share", ["hand", "top"], ["hand"], defArgs (top 62), defBody (top 62), defScope (top 62), c130_law_share, none⟩
def d__law_leaf : FDat := ⟨131, "_law_leaf", ["hand", "many", "names", "way"], ["hand", "many", "names"], defArgs (top 63), defBody (top 63), defScope (top 63), c131_law_leaf, none⟩
def d__law_node : FDat := ⟨132, "_law_node", ["hand", "many", "names", "ahead", "height", "way", "one", "other", "name", "size", "turn"], ["hand", "many", "names", "ahead", "height"], defArgs (top 64), defBody (top 64), defScope (top 64), c132_law_node, none⟩
def d__law_book : FDat := ⟨142, "_law_book", ["hand", "most", "height", "names", "titles", "book", "ahead", "degrees", "title", "many", "sizes", "e", "turn"], ["hand", "most", "height"], defArgs (top 65), defBody (top 65), defScope (top 65), c142_law_book, none⟩
def d__law_titles : FDat := ⟨133, "_law_titles", ["hand", "many", "found", "title"], ["hand", "many"], defArgs (top 66), defBody (top 66), defScope (top 66), c133_law_titles, none⟩
def d__law_wrong_node : FDat := ⟨136, "_law_wrong_node", ["e", "way", "many", "wrong"], ["e", "way", "many"], defArgs (top 67), defBody (top 67), defScope (top 67), c136_law_wrong_node, none⟩
def d__law_put : FDat := ⟨135, "_law_put", ["e", "number", "thing", "parts", "at", "made", "one", "size"], ["e", "number", "thing"], defArgs (top 68), defBody (top 68), defScope (top 68), c135_law_put, none⟩
def d__law_spoilt : FDat := ⟨143, "_law_spoilt", ["book", "at", "way", "number", "name", "sizes", "e", "kinds", "spoilt"], ["book", "at", "way", "number"], defArgs (top 69), defBody (top 69), defScope (top 69), c143_law_spoilt, none⟩
def d__law_told : FDat := ⟨141, "_law_told", ["number", "book", "told"], ["number", "book"], defArgs (top 70), defBody (top 70), defScope (top 70), c141_law_told, none⟩
def d__law_refused : FDat := ⟨144, "_law_refused", ["book", "number"], ["book"], defArgs (top 71), defBody (top 71), defScope (top 71), c144_law_refused, none⟩
def d_law : FDat := ⟨184, "law", ["script", "hand", "book", "at", "way", "number", "many", "one", "thing"], ["script"], defArgs (top 72), defBody (top 72), defScope (top 72), c184_law, none⟩
def L : Law := ⟨[d_is_integer, d_is_within, d_divisor, d_is_fraction, d_is_name, d_are_named_pairs, d_is_dimension, d_is_short, d_is_plain_dimension, d_is_form_part, d_has_form, d_raw_parts, d_has_size, d_node_rows, d_has_formula_form, d_is_right, d_degree_of, d_is_book, d_check_book, d_check_number, d_check_formula, d_formula_numbers, d_formula_number, d_nodes_many, d_node_at, d_called_by, d__law_hand, d__law_draw, d__law_low, d__law_names, d__law_size, d__law_parts, d__law_nodes, d__law_degree, d__law_share, d__law_leaf, d__law_node, d__law_book, d__law_titles, d__law_wrong_node, d__law_put, d__law_spoilt, d__law_told, d__law_refused, d_law],
  [(9, "NoBook"), (10, "NoPlace")], ["abs", "all", "bool", "dict", "enumerate", "int", "isinstance", "len", "list", "max", "range", "set", "sorted", "str", "sum", "tuple", "zip"], [(0, "MOST_NAME", .int 8), (1, "LETTERS", .str "abcdefghijklmnopqrstuvwxyz"), (10, "MOST_FIGURES", .int 10000000000), (7, "MOST_BASES", .int 6), (8, "MOST_EXPONENT", .int 9), (11, "MOST_AMOUNTS", .int 4), (12, "MOST_NODES", .int 40), (13, "MOST_DEEP", .int 12), (14, "IN", .str "in"), (15, "CALL", .str "call"), (16, "POWER", .str "power"), (17, "MOST_FORMULAS", .int 10), (18, "MOST_DEGREE", .int 200)], fun c d => [(9, 9), (10, 10)].contains (c, d), [], [], [], [(0, "FORMS", [("num", .str "f"), ("told", .str "fd"), ("in", .str "i"), ("plus", .str "ee"), ("less", .str "ee"), ("times", .str "ee"), ("over", .str "ee"), ("power", .str "en"), ("call", .str "xE")])]⟩
theorem nd : (L.F.map (·.id)).Nodup := by decide +kernel
theorem kok : L.kok = true := by decide +kernel
theorem chk0 : (L.F.all fun d => d.chk L.T) = true := by decide +kernel
theorem chk : ∀ d ∈ L.F, d.chk L.T = true := List.all_eq_true.mp chk0
theorem b_is_integer : BindOk d_is_integer := fun _ _ _ _ _ _ us hl => match us, hl with | [_], _ => rfl
theorem b_is_within : BindOk d_is_within := fun _ _ _ _ _ _ us hl => match us, hl with | [_, _, _], _ => rfl
theorem b_divisor : BindOk d_divisor := fun _ _ _ _ _ _ us hl => match us, hl with | [_, _], _ => rfl
theorem b_is_fraction : BindOk d_is_fraction := fun _ _ _ _ _ _ us hl => match us, hl with | [_], _ => rfl
theorem b_is_name : BindOk d_is_name := fun _ _ _ _ _ _ us hl => match us, hl with | [_], _ => rfl
theorem b_are_named_pairs : BindOk d_are_named_pairs := fun _ _ _ _ _ _ us hl => match us, hl with | [_], _ => rfl
theorem b_is_dimension : BindOk d_is_dimension := fun _ _ _ _ _ _ us hl => match us, hl with | [_], _ => rfl
theorem b_is_short : BindOk d_is_short := fun _ _ _ _ _ _ us hl => match us, hl with | [_], _ => rfl
theorem b_is_plain_dimension : BindOk d_is_plain_dimension := fun _ _ _ _ _ _ us hl => match us, hl with | [_], _ => rfl
theorem b_is_form_part : BindOk d_is_form_part := fun _ _ _ _ _ _ us hl => match us, hl with | [_, _], _ => rfl
theorem b_has_form : BindOk d_has_form := fun _ _ _ _ _ _ us hl => match us, hl with | [_], _ => rfl
theorem b_raw_parts : BindOk d_raw_parts := fun _ _ _ _ _ _ us hl => match us, hl with | [_], _ => rfl
theorem b_has_size : BindOk d_has_size := fun _ _ _ _ _ _ us hl => match us, hl with | [_], _ => rfl
theorem b_node_rows : BindOk d_node_rows := fun _ _ _ _ _ _ us hl => match us, hl with | [_], _ => rfl
theorem b_has_formula_form : BindOk d_has_formula_form := fun _ _ _ _ _ _ us hl => match us, hl with | [_], _ => rfl
theorem b_is_right : BindOk d_is_right := fun _ _ _ _ _ _ us hl => match us, hl with | [_, _, _], _ => rfl
theorem b_degree_of : BindOk d_degree_of := fun _ _ _ _ _ _ us hl => match us, hl with | [_, _], _ => rfl
theorem b_is_book : BindOk d_is_book := fun _ _ _ _ _ _ us hl => match us, hl with | [_], _ => rfl
theorem b_check_book : BindOk d_check_book := fun _ _ _ _ _ _ us hl => match us, hl with | [_], _ => rfl
theorem b_check_number : BindOk d_check_number := fun _ _ _ _ _ _ us hl => match us, hl with | [_, _], _ => rfl
theorem b_check_formula : BindOk d_check_formula := fun _ _ _ _ _ _ us hl => match us, hl with | [_, _], _ => rfl
theorem b_formula_numbers : BindOk d_formula_numbers := fun _ _ _ _ _ _ us hl => match us, hl with | [_], _ => rfl
theorem b_formula_number : BindOk d_formula_number := fun _ _ _ _ _ _ us hl => match us, hl with | [_, _], _ => rfl
theorem b_nodes_many : BindOk d_nodes_many := fun _ _ _ _ _ _ us hl => match us, hl with | [_], _ => rfl
theorem b_node_at : BindOk d_node_at := fun _ _ _ _ _ _ us hl => match us, hl with | [_, _, _], _ => rfl
theorem b_called_by : BindOk d_called_by := fun _ _ _ _ _ _ us hl => match us, hl with | [_, _], _ => rfl
theorem b__law_hand : BindOk d__law_hand := fun _ _ _ _ _ _ us hl => match us, hl with | [_], _ => rfl
theorem b__law_draw : BindOk d__law_draw := fun _ _ _ _ _ _ us hl => match us, hl with | [_, _], _ => rfl
theorem b__law_low : BindOk d__law_low := fun _ _ _ _ _ _ us hl => match us, hl with | [_, _], _ => rfl
theorem b__law_names : BindOk d__law_names := fun _ _ _ _ _ _ us hl => match us, hl with | [_, _], _ => rfl
theorem b__law_size : BindOk d__law_size := fun _ _ _ _ _ _ us hl => match us, hl with | [_, _, _], _ => rfl
theorem b__law_parts : BindOk d__law_parts := fun _ _ _ _ _ _ us hl => match us, hl with | [_], _ => rfl
theorem b__law_nodes : BindOk d__law_nodes := fun _ _ _ _ _ _ us hl => match us, hl with | [_], _ => rfl
theorem b__law_degree : BindOk d__law_degree := fun _ _ _ _ _ _ us hl => match us, hl with | [_, _], _ => rfl
theorem b__law_share : BindOk d__law_share := fun _ _ _ _ _ _ us hl => match us, hl with | [_], _ => rfl
theorem b__law_leaf : BindOk d__law_leaf := fun _ _ _ _ _ _ us hl => match us, hl with | [_, _, _], _ => rfl
theorem b__law_node : BindOk d__law_node := fun _ _ _ _ _ _ us hl => match us, hl with | [_, _, _, _, _], _ => rfl
theorem b__law_book : BindOk d__law_book := fun _ _ _ _ _ _ us hl => match us, hl with | [_, _, _], _ => rfl
theorem b__law_titles : BindOk d__law_titles := fun _ _ _ _ _ _ us hl => match us, hl with | [_, _], _ => rfl
theorem b__law_wrong_node : BindOk d__law_wrong_node := fun _ _ _ _ _ _ us hl => match us, hl with | [_, _, _], _ => rfl
theorem b__law_put : BindOk d__law_put := fun _ _ _ _ _ _ us hl => match us, hl with | [_, _, _], _ => rfl
theorem b__law_spoilt : BindOk d__law_spoilt := fun _ _ _ _ _ _ us hl => match us, hl with | [_, _, _, _], _ => rfl
theorem b__law_told : BindOk d__law_told := fun _ _ _ _ _ _ us hl => match us, hl with | [_, _], _ => rfl
theorem b__law_refused : BindOk d__law_refused := fun _ _ _ _ _ _ us hl => match us, hl with | [_], _ => rfl
theorem b_law : BindOk d_law := fun _ _ _ _ _ _ us hl => match us, hl with | [_], _ => rfl
theorem bd : ∀ d ∈ L.F, BindOk d := (List.forall_mem_cons.mpr ⟨b_is_integer, (List.forall_mem_cons.mpr ⟨b_is_within, (List.forall_mem_cons.mpr ⟨b_divisor, (List.forall_mem_cons.mpr ⟨b_is_fraction, (List.forall_mem_cons.mpr ⟨b_is_name, (List.forall_mem_cons.mpr ⟨b_are_named_pairs, (List.forall_mem_cons.mpr ⟨b_is_dimension, (List.forall_mem_cons.mpr ⟨b_is_short, (List.forall_mem_cons.mpr ⟨b_is_plain_dimension, (List.forall_mem_cons.mpr ⟨b_is_form_part, (List.forall_mem_cons.mpr ⟨b_has_form, (List.forall_mem_cons.mpr ⟨b_raw_parts, (List.forall_mem_cons.mpr ⟨b_has_size, (List.forall_mem_cons.mpr ⟨b_node_rows, (List.forall_mem_cons.mpr ⟨b_has_formula_form, (List.forall_mem_cons.mpr ⟨b_is_right, (List.forall_mem_cons.mpr ⟨b_degree_of, (List.forall_mem_cons.mpr ⟨b_is_book, (List.forall_mem_cons.mpr ⟨b_check_book, (List.forall_mem_cons.mpr ⟨b_check_number, (List.forall_mem_cons.mpr ⟨b_check_formula, (List.forall_mem_cons.mpr ⟨b_formula_numbers, (List.forall_mem_cons.mpr ⟨b_formula_number, (List.forall_mem_cons.mpr ⟨b_nodes_many, (List.forall_mem_cons.mpr ⟨b_node_at, (List.forall_mem_cons.mpr ⟨b_called_by, (List.forall_mem_cons.mpr ⟨b__law_hand, (List.forall_mem_cons.mpr ⟨b__law_draw, (List.forall_mem_cons.mpr ⟨b__law_low, (List.forall_mem_cons.mpr ⟨b__law_names, (List.forall_mem_cons.mpr ⟨b__law_size, (List.forall_mem_cons.mpr ⟨b__law_parts, (List.forall_mem_cons.mpr ⟨b__law_nodes, (List.forall_mem_cons.mpr ⟨b__law_degree, (List.forall_mem_cons.mpr ⟨b__law_share, (List.forall_mem_cons.mpr ⟨b__law_leaf, (List.forall_mem_cons.mpr ⟨b__law_node, (List.forall_mem_cons.mpr ⟨b__law_book, (List.forall_mem_cons.mpr ⟨b__law_titles, (List.forall_mem_cons.mpr ⟨b__law_wrong_node, (List.forall_mem_cons.mpr ⟨b__law_put, (List.forall_mem_cons.mpr ⟨b__law_spoilt, (List.forall_mem_cons.mpr ⟨b__law_told, (List.forall_mem_cons.mpr ⟨b__law_refused, (List.forall_mem_cons.mpr ⟨b_law, (fun _ h => nomatch h)⟩)⟩)⟩)⟩)⟩)⟩)⟩)⟩)⟩)⟩)⟩)⟩)⟩)⟩)⟩)⟩)⟩)⟩)⟩)⟩)⟩)⟩)⟩)⟩)⟩)⟩)⟩)⟩)⟩)⟩)⟩)⟩)⟩)⟩)⟩)⟩)⟩)⟩)⟩)⟩)⟩)⟩)⟩)⟩)⟩)
end K04

namespace K04
open PySem PySem.Spec PyProof.Rows L2 PL
abbrev G : Pg := L.pg
theorem k10 : G.code 10 = some f10 := rfl
theorem k20 : G.code 20 = some f20 := rfl
theorem k135 : G.code 135 = some ⟨3, 8, c135_law_put⟩ := rfl
theorem k136 : G.code 136 = some ⟨3, 4, c136_law_wrong_node⟩ := rfl
theorem k141 : G.code 141 = some ⟨2, 3, c141_law_told⟩ := rfl
theorem k143 : G.code 143 = some ⟨4, 9, c143_law_spoilt⟩ := rfl
theorem k144 : G.code 144 = some ⟨1, 2, c144_law_refused⟩ := rfl
theorem klaw : G.code 184 = some ⟨1, 9, c184_law⟩ := rfl
theorem CDn' : CDm G := ⟨rfl, rfl, rfl, rfl, rfl, rfl⟩
theorem CB : CBk G := ⟨CDn', rfl, rfl, rfl, rfl, rfl, rfl, rfl, rfl, rfl, rfl, rfl, rfl, rfl, rfl, rfl, rfl, rfl, rfl, rfl, rfl, rfl, rfl, rfl, rfl, rfl, rfl, rfl⟩
theorem CA : CBa G := ⟨CB, rfl, rfl, rfl, rfl, rfl, rfl, rfl⟩
theorem CL : CLb G := ⟨rfl, rfl, rfl, rfl, rfl, rfl, rfl, rfl, rfl, rfl, rfl, rfl⟩
variable {n : Nat} {Q : AQ} {E : AXQ} {h : AH}
def Bad (many : Nat) (v : AV) : Prop := ∀ (known : NM Nat) (e : Nd), v = ndv e → AOk e → (rows e).all (rightN many known) = true → False
theorem bad_form {many : Nat} {v : AV} (e : hasForm v = false) : Bad many v := fun known x ev o _ => by
  rw [ev, hasForm_ndv.mpr o.fok] at e; cases e
theorem bad_in {many : Nat} : Bad many (ndv (.inn many)) := fun known x ev o r => by
  rw [← ndv_inj _ _ ev] at r
  have : (decide (many < many) && true) = true := r
  simp at this
theorem bad_lift {many : Nat} {v : AV} (h : ∀ e', v = ndv e' → ∃ s ∈ subs e', Bad many (ndv s)) : Bad many v := fun known e' ev o r => by
  obtain ⟨s, hs, b⟩ := h e' ev
  exact b known s rfl ((aok_iff.mp o).2 s hs) (List.all_eq_true.mpr fun x hx => List.all_eq_true.mp r x (rows_sub hs hx))
theorem ndv_split {e : Nd} {s : Str} {r : List AV} (h : AV.tup (.str s :: r) = ndv e) : s = ndS e ∧ r = ndR e := by
  rw [ndv_eq] at h
  simp only [AV.tup.injEq, List.cons.injEq, AV.str.injEq] at h
  exact h
theorem bad_call {many : Nat} {f : Str} {ms : List AV} {m : AV} (hm : m ∈ ms) (b : Bad many m) : Bad many (.tup [.str "call", .str f, .tup ms]) := bad_lift fun e' ev => by
  obtain ⟨h1, h2⟩ := ndv_split ev
  have h3 := ndS_call e'
  rw [← h1] at h3
  cases e' with
  | call g as =>
    have h2 : [AV.str f, .tup ms] = [.str g, .tup (ndvs as)] := h2
    simp only [List.cons.injEq, AV.tup.injEq, and_true] at h2
    rw [h2.2, ndvs_map] at hm
    obtain ⟨s, hs, rfl⟩ := List.mem_map.mp hm
    exact ⟨s, hs, b⟩
  | _ => cases h3
theorem bad_pow {many : Nat} {m k : AV} (b : Bad many m) : Bad many (.tup [.str "power", m, k]) := bad_lift fun e' ev => by
  obtain ⟨h1, h2⟩ := ndv_split ev
  have h3 := ndS_pow e'
  rw [← h1] at h3
  cases e' with
  | pow a j =>
    have h2 : [m, k] = [ndv a, .int j] := h2
    simp only [List.cons.injEq, and_true] at h2
    rw [h2.1] at b
    exact ⟨a, List.mem_cons_self, b⟩
  | _ => cases h3
theorem bad_bin {many : Nat} {w : BW} {x y : AV} (b : Bad many x ∨ Bad many y) : Bad many (.tup [.str (bwS w), x, y]) := bad_lift fun e' ev => by
  obtain ⟨h1, h2⟩ := ndv_split ev
  have h3 := any_bin e'
  rw [← h1] at h3
  have h4 : anyEq (.str (bwS w)) L4 = true := by cases w <;> decide +kernel
  rw [h4] at h3
  cases e' with
  | bin w' a c =>
    have h2 : [x, y] = [ndv a, ndv c] := h2
    simp only [List.cons.injEq, and_true] at h2
    rw [h2.1, h2.2] at b
    rcases b with b | b
    · exact ⟨a, List.mem_cons_self, b⟩
    · exact ⟨c, List.mem_cons_of_mem _ List.mem_cons_self, b⟩
  | _ => cases h3
theorem x_pick {a : Addr} {xs : List AV} {i : Int} {h : AH} {Q : AQ} (e : h a = some (.lst xs)) (h0 : 0 ≤ i) (h1 : i < xs.length) (all : ∀ v ∈ xs, Q v h) : ixR (.ref a) (.int i) h Q := by
  obtain ⟨k, rfl⟩ := Int.eq_ofNat_of_zero_le h0
  have hk : k < xs.length := by omega
  refine x_lst (v := xs[k]) e ?_ (all _ (List.getElem_mem hk))
  unfold PL.atI
  rw [if_pos h0, Int.toNat_natCast]
  exact List.getElem?_eq_getElem hk
theorem dty_non : DTy h .non := by unfold DTy; trivial
theorem dty_bl {b : Bool} : DTy h (.bl b) := by unfold DTy; trivial
theorem dty_t0 : DTy h (.tup []) := dty_tup.mpr ⟨by simp, fun x hx => by cases hx⟩
theorem dty_t1 {x : AV} (a : DTy h x) : DTy h (.tup [x]) := dty_tup.mpr ⟨by simp, fun y hy => by rw [List.mem_singleton.mp hy]; exact a⟩
theorem dty_t2 {x y : AV} (a : DTy h x) (b : DTy h y) : DTy h (.tup [x, y]) := dty_tup.mpr ⟨by simp, fun z hz => by
  simp at hz
  rcases hz with rfl | rfl
  · exact a
  · exact b⟩
theorem dty_t3 {x y z : AV} (a : DTy h x) (b : DTy h y) (c : DTy h z) : DTy h (.tup [x, y, z]) := dty_tup.mpr ⟨by simp, fun w hw => by
  simp at hw
  rcases hw with rfl | rfl | rfl
  · exact a
  · exact b
  · exact c⟩
theorem dty_s {s : Str} (hs : s.length ≤ 1000000) : DTy h (.str s) := dty_str.mpr hs
mutual
theorem DTy.kmono {h h' : AH} (l : ∀ a, DTy h (.ref a) → DTy h' (.ref a)) : ∀ {v : AV}, DTy h v → DTy h' v
  | .ref a, d => l a d
  | .wt _, d => (dty_wt d).elim
  | .str z, d => dty_str.mpr (dty_str.mp d)
  | .tup xs, d => by
    unfold DTy at d ⊢
    exact ⟨d.1, DTys.kmono l d.2⟩
  | .non, _ => by unfold DTy; trivial
  | .bl _, _ => by unfold DTy; trivial
  | .int _, _ => by unfold DTy; trivial
  | .rl _, _ => by unfold DTy; trivial
theorem DTys.kmono {h h' : AH} (l : ∀ a, DTy h (.ref a) → DTy h' (.ref a)) : ∀ {xs : List AV}, DTys h xs → DTys h' xs
  | [], _ => by unfold DTys; trivial
  | x :: xs, d => by
    unfold DTys at d ⊢
    exact ⟨DTy.kmono l d.1, DTys.kmono l d.2⟩
end
theorem dty_updL {p : Addr} {xs ys : List AV} {v : AV} (e : h p = some (.lst xs)) (d : DTy h v) : DTy (aupd h p (.lst ys)) v := by
  refine DTy.kmono (fun a da => ?_) d
  by_cases q : a = p
  · subst q; exact dty_ref.mpr (.inl ⟨_, aupd_same⟩)
  · rcases dty_ref.mp da with ⟨zs, e1⟩ | ⟨zs, e1⟩
    · exact dty_ref.mpr (.inl ⟨zs, by rw [aupd_ne q]; exact e1⟩)
    · exact dty_ref.mpr (.inr ⟨zs, by rw [aupd_ne q]; exact e1⟩)
theorem put_spec {many : Nat} {w : AV} (b : Bad many w) : ∀ (k : Nat) (e : Nd) {j : Nat} {h : AH} {Q : AQ} {E : AXQ}, AOk e → e.dep ≤ k → e.cnt ≤ 1000 → j < e.cnt → DTy h w → (∀ v h', ALe h h' → DTy h' v → Bad many v → Q v h') → wpC G (n + 3 + k) 135 [ndv e, .int j, w] h Q E
  | 0, e, j, h, Q, E, o, hd, _, _, _, _ => by have := dep_pos e; omega
  | k + 1, e, j, h, Q, E, o, hd, hc, hj, dw, hq => by
    refine call_i (n := n + 3 + k) k135 rfl ?_
    unfold c135_law_put
    bv_omega
    by_cases j0 : j = 0
    · subst j0
      have : (((0 : Nat) : Int) = 0) := rfl
      simp only [this]
      bv_omega
      exact shr_i (hq w h ALe.refl dw b)
    have j0' : ¬ ((j : Int) = 0) := by omega
    simp only [j0']
    bv_omega
    have rw1 : n + 3 + k = (n + 2 + k) + 1 := by omega
    rw [rw1]
    refine law_parts_spec (n := n + 2 + k) CL fun p3 h3 l3 hp3 e3 => ?_
    bv_omega
    intro p5 hp5
    rw [← rw1]
    have n35 : p3 ≠ p5 := by rintro rfl; rw [e3] at hp5; cases hp5
    have hp5h : h p5 = none := by
      cases e9 : h p5 with
      | none => rfl
      | some x => rw [l3 _ _ e9] at hp5; cases hp5
    have ec := cnt_subs e
    have sl := sum_len (es := subs e)
    refine for_v (wpC_mono G (n + 3 + k)) ?_
    refine ⟨.ref p3, rfl, _, (aupd_ne n35).trans e3, fun xs σ h' => ∃ (done rest : List Nd) (ms : List AV) (x6 x7 : Option AV), xs = rest.map ndv ∧ subs e = done ++ rest ∧ σ = [some (ndv e), some (.int j), some w, some (.ref p3), some (.int ((1 + (done.map Nd.cnt).sum : Nat) : Int)), some (.ref p5), x6, x7] ∧ ALe h h' ∧ h' p3 = some (.lst ((subs e).map ndv)) ∧ h' p5 = some (.lst ms) ∧ ms.length = done.length ∧ (∀ m ∈ ms, DTy h' m) ∧ (j < 1 + (done.map Nd.cnt).sum → ∃ m ∈ ms, Bad many m),
      ⟨[], subs e, [], none, none, rfl, rfl, rfl, ALe.trans l3 (ALe.fresh hp5), (aupd_ne n35).trans e3, aupd_same, rfl, (fun m hm => by cases hm), fun hj => by simp at hj; omega⟩, ?_, ?_⟩
    · rintro σ h' ⟨done, rest, ms, x6, x7, e4, es, rfl, l, e3, e5, ml, dm, bm⟩
      have : rest = [] := by cases rest with
        | nil => rfl
        | cons _ _ => cases e4
      subst this
      rw [List.append_nil] at es
      refine ⟨e3, ?_⟩
      subst es
      obtain ⟨m, hm, bm1⟩ := bm (by omega)
      have so := ndS_ok e
      have sp := ndS_pow e
      have sc := ndS_call e
      have so4 := (by decide +kernel : PyData.strOk ("call" : Str) = true)
      have so5 := (by decide +kernel : PyData.strOk ("power" : Str) = true)
      rw [ndv_eq]
      bv_omega
      refine ⟨⟨so, so4⟩, ?_⟩
      rw [sc]
      cases e with
      | call f as =>
        simp only [isCall]
        have e7 : ndR (.call f as) = [.str f, .tup (ndvs as)] := rfl
        rw [e7]
        bv_omega
        refine tu_lst e5 ?_
        refine shr_i (hq _ h' l (dty_t3 (dty_s (by decide)) (dty_name o.1.1) (dty_tup.mpr ⟨by rw [ml]; omega, dm⟩)) (bad_call hm bm1))
      | pow a i =>
        simp only [isCall]
        bv_omega
        refine ⟨⟨so, so5⟩, ?_⟩
        rw [sp]
        simp only [isPow]
        have e7 : ndR (.pow a i) = [ndv a, .int i] := rfl
        rw [e7]
        bv_omega
        match ms, ml, e5, dm, hm with
        | [m1], _, e5, dm, hm =>
          rw [List.mem_singleton.mp hm] at bm1
          refine x_lst e5 rfl ?_
          refine shr_i (hq _ h' l (dty_t3 (dty_s (by decide)) (dm m1 (by simp)) dty_int) (bad_pow bm1))
      | bin w' a c =>
        simp only [isCall]
        bv_omega
        refine ⟨⟨so, so5⟩, ?_⟩
        rw [sp]
        simp only [isPow]
        bv_omega
        match ms, ml, e5, dm, hm with
        | [m1, m2], _, e5, dm, hm =>
          refine x_lst e5 rfl (x_lst e5 rfl ?_)
          have bb : Bad many m1 ∨ Bad many m2 := by
            simp at hm
            rcases hm with rfl | rfl
            · exact .inl bm1
            · exact .inr bm1
          refine shr_i (hq _ h' l (dty_t3 (dty_s (by show (bwS w').length ≤ 1000000; cases w' <;> decide)) (dm m1 (by simp)) (dm m2 (by simp))) (bad_bin (w := w') bb))
      | _ => simp [subs] at hm ml; cases ms with
        | nil => cases hm
        | cons _ _ => cases ml
    · rintro x xs σ h' ⟨done, rest, ms, x6, x7, e4, es, rfl, l, e3, e5, ml, dm, bm⟩
      cases rest with
      | nil => cases e4
      | cons s rest =>
        rw [List.map_cons] at e4
        obtain ⟨rfl, rfl⟩ := List.cons.inj e4
        refine ⟨e3, ?_⟩
        have hs : s ∈ subs e := by rw [es]; simp
        have cs := cnt_sub hs
        have dl : done.length + 1 ≤ (subs e).length := by rw [es]; simp
        generalize hA : 1 + (done.map Nd.cnt).sum = A at bm ⊢
        have sA : 1 + ((done ++ [s]).map Nd.cnt).sum = A + s.cnt := by rw [List.map_append, List.sum_append]; simp; omega
        show wpB (wpC G (n + 3 + k)) G.T G.sub _ _ [some (ndv e), some (.int j), some w, some (.ref p3), some (.int (A : Nat)), some (.ref p5), some (ndv s), x7] h'
        bv_omega
        have rw2 : n + 3 + k = (n + 1 + k) + 2 := by omega
        rw [rw2]
        refine law_nodes_spec (n := n + 1 + k) CL (by omega) fun p7 h4 l4 _ e7 => ?_
        rw [← rw2]
        refine n_lst e7 ?_
        rw [List.length_map, rows_len]
        have e5a := l4 _ _ e5
        bv_omega
        refine ⟨ms_app e5a, m_app e5a (len_small (by rw [ml]; omega)) ?_⟩
        have l5 : ALe h (aupd h4 p5 (.lst (ms ++ [ndv s]))) := ale_upd hp5h (ALe.trans l l4)
        have e3b : aupd h4 p5 (.lst (ms ++ [ndv s])) p3 = _ := (aupd_ne n35).trans (l4 _ _ e3)
        have e5b : aupd h4 p5 (.lst (ms ++ [ndv s])) p5 = some (.lst (ms ++ [ndv s])) := aupd_same
        have dm5 : ∀ m ∈ ms, DTy (aupd h4 p5 (.lst (ms ++ [ndv s]))) m := fun m hm => dty_updL e5a ((dm m hm).mono l4)
        generalize aupd h4 p5 (.lst (ms ++ [ndv s])) = h5 at l5 e3b e5b dm5 ⊢
        have os := (aok_iff.mp o).2 s hs
        have nx : ∀ {x : AV} {h6 : AH}, h6 p5 = some (.lst (ms ++ [x])) → h6 p3 = some (.lst ((subs e).map ndv)) → ALe h h6 → (∀ m ∈ ms, DTy h6 m) → DTy h6 x → ((j < A ∧ ¬ A ≤ j) ∨ ¬ j < A + s.cnt ∨ Bad many x) → ∃ (done' rest' : List Nd) (ms' : List AV) (x6 x7 : Option AV), rest.map ndv = rest'.map ndv ∧ subs e = done' ++ rest' ∧ [some (ndv e), some (.int j), some w, some (.ref p3), some (.int ((A : Int) + (s.cnt : Int))), some (.ref p5), some (ndv s), some (.int s.cnt)] = [some (ndv e), some (.int j), some w, some (.ref p3), some (.int ((1 + (done'.map Nd.cnt).sum : Nat) : Int)), some (.ref p5), x6, x7] ∧ ALe h h6 ∧ h6 p3 = some (.lst ((subs e).map ndv)) ∧ h6 p5 = some (.lst ms') ∧ ms'.length = done'.length ∧ (∀ m ∈ ms', DTy h6 m) ∧ (j < 1 + (done'.map Nd.cnt).sum → ∃ m ∈ ms', Bad many m) := by
          intro x h6 k5 k3 kl kd kx kb
          refine ⟨done ++ [s], rest, ms ++ [x], some (ndv s), some (.int s.cnt), rfl, by rw [es]; simp, ?_, kl, k3, k5, by simp [ml], ?_, ?_⟩
          · rw [sA, Int.natCast_add]
          · intro m hm
            rcases List.mem_append.mp hm with hm | hm
            · exact kd m hm
            · rw [List.mem_singleton.mp hm]; exact kx
          · rw [sA]
            intro hj
            by_cases q : j < A
            · obtain ⟨m, hm, bm⟩ := bm q
              exact ⟨m, List.mem_append_left _ hm, bm⟩
            · rcases kb with kb | kb | kb
              · exact absurd kb.1 q
              · exact absurd hj kb
              · exact ⟨x, by simp, kb⟩
        by_cases q1 : A ≤ j
        · have q1' : (A : Int) ≤ (j : Int) := by omega
          simp only [q1']
          bv_omega
          by_cases q2 : j < A + s.cnt
          · have q2' : (j : Int) < (A : Int) + (s.cnt : Int) := by omega
            simp only [q2']
            bv_omega
            have ej : (j : Int) - (A : Int) = ((j - A : Nat) : Int) := by omega
            rw [ej]
            refine put_spec b k s os (dep_subs.mp hd s hs) (by omega) (by omega) (dw.mono l5) fun v h6 l6 dv bv => ?_
            refine set_last (l6 _ _ e5b) ?_
            have fin := nx (x := v) (h6 := aupd h6 p5 (.lst (ms ++ [v]))) aupd_same ((aupd_ne n35).trans (l6 _ _ e3b)) (ale_upd hp5h (ALe.trans l5 l6)) (fun m hm => dty_updL (l6 _ _ e5b) ((dm5 m hm).mono l6)) (dty_updL (l6 _ _ e5b) dv) (.inr (.inr bv))
            generalize aupd h6 p5 (.lst (ms ++ [v])) = h7 at fin ⊢
            bv_omega
            exact fin
          · have q2' : ¬ (j : Int) < (A : Int) + (s.cnt : Int) := by omega
            simp only [q2']
            bv_omega
            exact nx e5b e3b l5 dm5 (ndv_dty os) (.inr (.inl q2))
        · have q1' : ¬ (A : Int) ≤ (j : Int) := by omega
          simp only [q1']
          bv_omega
          exact nx e5b e3b l5 dm5 (ndv_dty os) (.inl ⟨by omega, q1⟩)
theorem new_i {xs : List AV} {h : AH} {Q : AQ} (q : ∀ p h', ALe h h' → h' p = some (.lst xs) → Q (.ref p) h') : newL h xs Q := fun p hp => q p _ (ALe.fresh hp) aupd_same
theorem cat_new {a : Addr} {xs ys : List AV} {h : AH} {Q : AQ} (e : h a = some (.lst xs)) (hl : xs.length + ys.length ≤ 1000) (q : ∀ p h', ALe h h' → h' p = some (.lst (xs ++ ys)) → Q (.ref p) h') : newL h ys fun y h2 => binR .add (.ref a) y h2 Q := fun p hp =>
  ⟨xs, ys, (ALe.fresh hp) _ _ e, aupd_same, len_small (by omega), fun p2 hp2 => q p2 _ (ALe.trans (ALe.fresh hp) (ALe.fresh hp2)) aupd_same⟩
theorem wrong_spec {e : Nd} {many : Nat} {way : Int} (o : AOk e) (w0 : 0 ≤ way) (w1 : way < 20) (hq : ∀ v h', ALe h h' → DTy h' v → Bad many v → Q v h') : wpC G (n + 1) 136 [ndv e, .int way, .int many] h Q E := by
  refine call_i k136 rfl ?_
  unfold c136_law_wrong_node
  bv_omega
  refine ⟨⟨by decide, by decide, by decide⟩, ?_⟩
  refine new_i fun p1 h1 l1 e1 => cat_new e1 (by simp) fun p2 h2 l2 e2 => cat_new e2 (by simp) fun p3 h3 l3 e3 => new_i fun pz h4 l4 ez => cat_new (l4 _ _ e3) (by simp) fun p5 h5 l5 e5 => cat_new e5 (by simp) fun p6 h6 l6 e6 => x_pick e6 w0 (by simp; omega) ?_
  have l : ALe h h6 := ALe.trans l1 (ALe.trans l2 (ALe.trans l3 (ALe.trans l4 (ALe.trans l5 l6))))
  have dz : DTy h6 (.ref pz) := dty_ref.mpr (.inl ⟨_, l6 _ _ (l5 _ _ ez)⟩)
  have de : DTy h6 (ndv e) := ndv_dty o
  have key : ∀ v, DTy h6 v → Bad many v → Shr (Q v) h6 := fun v d b => shr_i (hq v h6 l d b)
  have d11 : DTy h6 (.tup [.int 1, .int 1]) := dty_t2 dty_int dty_int
  intro v hv
  simp only [List.mem_append, List.mem_cons, List.not_mem_nil, or_false] at hv
  rcases hv with ((((hv | hv | hv | hv) | (hv | hv | hv | hv)) | (hv | hv | hv | hv | hv)) | (hv | hv | hv | hv)) | (hv | hv | hv) <;> subst hv
  · exact key _ (dty_t2 (dty_s (by decide)) (dty_t2 dty_int dty_int)) (bad_form (by rw [form_num]; decide +kernel))
  · exact key _ (dty_t2 (dty_s (by decide)) dty_int) (bad_form (by rw [form_num]; decide +kernel))
  · exact key _ (dty_t2 (dty_s (by decide)) (dty_t2 dty_int dty_int)) (bad_form (by rw [form_num]; decide +kernel))
  · exact key _ (dty_t2 (dty_s (by decide)) d11) (bad_form rfl)
  · exact key _ (dty_t3 (dty_s (by decide)) d11 (dty_t1 (dty_t2 (dty_s (by decide)) dty_int))) (bad_form (by rw [form_told]; decide +kernel))
  · exact key _ (dty_t2 (dty_s (by decide)) dty_int) bad_in
  · exact key _ (dty_t2 (dty_s (by decide)) dty_int) (bad_form (by rw [form_in]; decide +kernel))
  · exact key _ (dty_t2 (dty_s (by decide)) dty_bl) (bad_form (by rw [form_in]; decide +kernel))
  · exact key _ (dty_t1 (dty_s (by decide))) (bad_form rfl)
  · exact key _ (dty_t2 (dty_s (by decide)) de) (bad_form rfl)
  · exact key _ (dty_t3 (dty_s (by decide)) de de) (bad_form rfl)
  · exact key _ (dty_t3 (dty_s (by decide)) de dty_int) (bad_form (by rw [form_pow]; decide +kernel))
  · exact key _ (dty_t3 (dty_s (by decide)) de dty_int) (bad_form (by rw [form_pow]; decide +kernel))
  · exact key _ (dty_t3 (dty_s (by decide)) de dty_bl) (bad_form (by rw [form_pow]; decide +kernel))
  · exact key _ (dty_t3 (dty_s (by decide)) (dty_s (by decide)) (dty_t1 de)) (bad_form (by rw [form_call]; rfl))
  · exact key _ (dty_t3 (dty_s (by decide)) de (dty_t1 de)) (bad_form (by rw [form_call, ndv_eq]; rfl))
  · exact key _ dz (bad_form rfl)
  · exact key _ dty_non (bad_form rfl)
  · exact key _ dty_t0 (bad_form rfl)
  · exact key _ (dty_t3 (dty_s (by decide)) d11 dty_int) (bad_form rfl)
theorem sub9 : G.sub 9 9 = true := by decide +kernel
theorem sub10a : G.sub 10 9 = false := by decide +kernel
theorem sub10 : G.sub 10 10 = true := by decide +kernel
theorem told_book {v : AV} {m : Int} (m0 : 0 ≤ m) (m3 : m < 4) (d : DTy h v) (hb : ¬ isBk v) (hq : Q (.str "book") h) : wpC G (n + 18) 141 [.int m, v] h Q E := by
  refine call_i k141 rfl ?_
  unfold c141_law_told
  have fin : (if G.sub 9 9 = true then Shr (Q (.str "book")) h else if G.sub 9 10 = true then Shr (Q (.str "place")) h else Shr (E ⟨9, []⟩) h) := by
    rw [sub9]; exact shr_i hq
  have m4 : m = 0 ∨ m = 1 ∨ m = 2 ∨ m = 3 := by omega
  rcases m4 with rfl | rfl | rfl | rfl <;> bv_omega
  · exact nodes_many_bad (n := n + 1) CA d hb fin
  · exact node_at_bad (n := n) CA d trivial hb fin
  · exact called_by_bad (n := n) CA d trivial hb fin
  · exact formula_number_bad (n := n + 1) CA d hb fin
theorem told_place {b : List Fm} {m : Int} (m3 : m = 1 ∨ m = 2) (o : BkOk b) (hq : Q (.str "place") h) : wpC G (n + 18) 141 [.int m, bkv b] h Q E := by
  refine call_i k141 rfl ?_
  unfold c141_law_told
  have fin : (if G.sub 10 9 = true then Shr (Q (.str "book")) h else if G.sub 10 10 = true then Shr (Q (.str "place")) h else Shr (E ⟨10, []⟩) h) := by
    rw [sub10a, sub10]; exact shr_i hq
  rcases m3 with rfl | rfl <;> bv_omega
  · exact node_at_place (n := n) CA o trivial (by rfl) fin
  · exact called_by_place (n := n) CA o trivial rfl fin
theorem refused_spec {v : AV} (d : DTy h v) (hb : ¬ isBk v) (hq : Q (.bl true) h) : wpC G (n + 19) 144 [v] h Q E := by
  refine call_i k144 rfl ?_
  unfold c144_law_refused
  bv_omega
  refine is_book_spec (n := n + 4) CB d (fun k => absurd k hb) fun _ => ?_
  bv_omega
  refine comp_pure (wpC_mono G (n + 18)) ?_
  bv_omega
  refine ⟨by decide, by decide, by decide, fun _ _ _ => trivial, fun _ => none, fun D hD x hx acc => ?_, fun D hD => ?_⟩
  · have : ∃ m : Int, x = .int m ∧ 0 ≤ m ∧ m < 4 := by
      have : x = .int 0 ∨ x = .int 1 ∨ x = .int 2 ∨ x = .int 3 := by simpa [rangeL] using hx
      rcases this with rfl | rfl | rfl | rfl <;> exact ⟨_, rfl, by decide, by decide⟩
    obtain ⟨m, rfl, m0, m4⟩ := this
    bv_omega
    refine told_book (n := n) m0 m4 (d.mono (ALe.fresh hD)) hb ?_
    bv_omega
    refine ⟨⟨by decide +kernel, by decide +kernel⟩, ?_⟩
    exact ALe.refl
  · refine n_lst aupd_same ?_
    bv_omega
    have : ((rangeL 0 (Int.toNat 4)).filterMap fun _ => (none : Option AV)).length = 0 := by simp
    rw [this]
    exact shr_le (ALe.fresh hD) hq
def BadF (x : AV) : Prop := ∀ (done : List Fm) (f : Fm), x = fmv f → FOk done f → False
theorem spoilt_no {pre : List Fm} {x : AV} {rest : List AV} (bx : BadF x) : ¬ isBk (.tup (pre.map fmv ++ x :: rest)) := by
  rintro ⟨b, e, o⟩
  unfold bkv at e
  simp only [AV.tup.injEq] at e
  obtain ⟨f, post, rfl, ef⟩ := bk_split e.symm
  exact bx pre f ef (o.up pre f post rfl)
theorem badF_form {x : AV} (e : hasFmB x = false) : BadF x := fun done f ef o => by
  rw [hasFm_iff.mpr ⟨f, ef, o.ok⟩] at e; cases e
theorem badF_node {s : Str} {dd : List Dm} {v : AV} (bv : Bad dd.length v) : BadF (.tup [.str s, .tup (dd.map dm), v]) := fun done f ef o => by
  unfold fmv at ef
  simp only [AV.tup.injEq, List.cons.injEq, and_true] at ef
  obtain ⟨_, e2, e3⟩ := ef
  have e4 := dms_inj e2
  have r := o.right
  rw [← e4] at r
  exact bv _ _ e3 o.ok.nd.1 r
theorem listT_i {xs : List AV} {h : AH} {Q : AQ} (q : ∀ p h', ALe h h' → h' p = some (.lst xs) → Q (.ref p) h') : listR (.tup xs) h Q := new_i q
theorem cat_new2 {a : Addr} {xs ys : List AV} {h : AH} {Q : AQ} (e : h a = some (.lst xs)) (hl : xs.length + ys.length ≤ 1000) (q : ∀ p h', ALe h h' → h p = none → h' p = some (.lst (xs ++ ys)) → Q (.ref p) h') : newL h ys fun y h2 => binR .add (.ref a) y h2 Q := fun p hp =>
  ⟨xs, ys, (ALe.fresh hp) _ _ e, aupd_same, len_small (by omega), fun p2 hp2 => q p2 _ (ALe.trans (ALe.fresh hp) (ALe.fresh hp2)) (by
    have : p2 ≠ p := by rintro rfl; rw [aupd_same] at hp2; cases hp2
    rw [aupd_ne this] at hp2
    exact hp2) aupd_same⟩
theorem ale_none {h h' : AH} {p : Addr} (l : ALe h h') (hp : h' p = none) : h p = none := by
  cases e : h p with
  | none => rfl
  | some o => rw [l _ _ e] at hp; cases hp
theorem append_new {a : Addr} {xs : List AV} {y : AV} {h : AH} {Q : AQ} (e : h a = some (.lst xs)) (hl : xs.length < 1000) (q : Q .non (aupd h a (.lst (xs ++ [y])))) : mthR .append (.ref a) [y] h Q := m_app e (len_small (by omega)) q
theorem fm_at {b : List Fm} {i : Nat} (hi : i < b.length) : ∃ f pre post, b = pre ++ f :: post ∧ pre.length = i := by
  refine ⟨b[i], b.take i, b.drop (i + 1), ?_, by rw [List.length_take]; omega⟩
  rw [← List.drop_eq_getElem_cons hi, List.take_append_drop]
theorem hasFm_tup {x e : AV} {ss : List AV} : hasFmB (.tup [x, .tup ss, e]) = (isName x && (decide (1 ≤ ss.length) && decide (ss.length ≤ 4)) && ss.all isPlain && hasSizeB e) := rfl
theorem spoilt_spec {pre post : List Fm} {f : Fm} (o : BkOk (pre ++ f :: post)) {way number : Nat} (hw : way < 28) (hn : number < f.e.cnt) (hdep : f.e.dep ≤ 4) (hq : ∀ v h', ALe h h' → DTy h' v → ¬ isBk v → Q v h') : wpC G (n + 20) 143 [bkv (pre ++ f :: post), .int pre.length, .int way, .int number] h Q E := by
  refine call_i k143 rfl ?_
  unfold c143_law_spoilt
  have CM := wpC_mono G (n + 19)
  have of : FmOk f := (o.up pre f post rfl).ok
  have lb : pre.length + (post.length + 1) ≤ 10 := by have := o.l10; simpa using this
  have ls := of.l4
  have l1s := of.l1
  have dty1 : ∀ {h : AH}, DTy h (.str f.name) := fun {h} => dty_name of.name
  have dtyS : ∀ {h : AH}, DTy h (.tup (f.sizes.map dm)) := fun {h} => (dty_tup.mp (fmv_dty of)).2 _ (by simp)
  have dtyE : ∀ {h : AH}, DTy h (ndv f.e) := fun {h} => ndv_dty of.nd.1
  have dd1 : ∀ {h : AH}, ∀ x ∈ f.sizes.map dm, DTy h x := fun {h} => (dty_tup.mp dtyS).2
  have at1 : PL.atI ((pre ++ f :: post).map fmv) (pre.length : Int) = some (fmv f) := by
    unfold PL.atI
    rw [if_pos (by omega), Int.toNat_natCast, List.getElem?_map, List.getElem?_append_right (Nat.le_refl _)]
    simp
  refine wp_cut CM (fun σ h1 => σ = [some (bkv (pre ++ f :: post)), some (.int pre.length), some (.int way), some (.int number), some (.str f.name), some (.tup (f.sizes.map dm)), some (ndv f.e), none, none] ∧ h1 = h) ?_ ?_
  · unfold bkv
    bv_omega
    refine ⟨_, at1, ?_⟩
    refine g_tupR rfl ?_
    bv_omega
  rintro σ h1 ⟨rfl, rfl⟩
  refine wp_cut CM (fun σ h2 => ∃ p xs, σ = [some (bkv (pre ++ f :: post)), some (.int pre.length), some (.int way), some (.int number), some (.str f.name), some (.tup (f.sizes.map dm)), some (ndv f.e), some (.ref p), none] ∧ ALe h1 h2 ∧ h2 p = some (.lst xs) ∧ xs.length = 4 ∧ ∀ x ∈ xs, DTy h2 x ∧ hasFmB x = false) ?_ ?_
  · bv_omega
    refine listT_i fun p1 h2 l1 e1 => ?_
    refine ⟨by cases hs : f.sizes with | nil => rw [hs] at l1s; cases l1s | cons _ _ => simp, by decide, by decide, by rw [List.length_map]; omega, ?_⟩
    refine new_i fun p2 h3 l2 e2 => ?_
    refine ⟨p2, _, rfl, ALe.trans l1 l2, e2, rfl, fun x hx => ?_⟩
    have d1 : DTy h3 (.ref p1) := dty_ref.mpr (.inl ⟨_, l2 _ _ e1⟩)
    have d5 : DTy h3 (.tup (List.replicate (Int.toNat 5) (f.sizes.map dm)).flatten) := by
      refine dty_tup.mpr ⟨?_, fun x hx => ?_⟩
      · simp; omega
      · obtain ⟨l, hl, hx⟩ := List.mem_flatten.mp hx
        rw [(List.mem_replicate.mp hl).2] at hx
        exact dd1 x hx
    simp only [List.mem_cons, List.not_mem_nil, or_false] at hx
    rcases hx with rfl | rfl | rfl | rfl
    · exact ⟨dty_t3 (dty_s (by decide)) dtyS dtyE, by
        rw [hasFm_tup]
        have : isName (.str "Aa") = false := by decide +kernel
        rw [this]; simp⟩
    · exact ⟨dty_t3 dty1 d1 dtyE, rfl⟩
    · exact ⟨dty_t3 dty1 dty_t0 dtyE, by rw [hasFm_tup]; simp⟩
    · exact ⟨dty_t3 dty1 d5 dtyE, by
        rw [hasFm_tup]
        have : decide ((List.replicate (Int.toNat 5) (f.sizes.map dm)).flatten.length ≤ 4) = false := decide_eq_false (by simp; omega)
        rw [this]; simp⟩
  rintro σ h2 ⟨p, xs, rfl, l2, e2, lx, ax⟩
  obtain ⟨d0, ds, hs⟩ : ∃ d0 ds, f.sizes = d0 :: ds := by
    cases hs : f.sizes with
    | nil => rw [hs] at l1s; cases l1s
    | cons d0 ds => exact ⟨d0, ds, rfl⟩
  refine wp_cut CM (fun σ h3 => ∃ p xs, σ = [some (bkv (pre ++ f :: post)), some (.int pre.length), some (.int way), some (.int number), some (.str f.name), some (.tup (f.sizes.map dm)), some (ndv f.e), some (.ref p), none] ∧ ALe h1 h3 ∧ h1 p = none ∧ h3 p = some (.lst xs) ∧ xs.length = 7 ∧ ∀ x ∈ xs, DTy h3 x ∧ hasFmB x = false) ?_ ?_
  · bv_omega
    refine new_i fun p1 h3 l3 e3 => ?_
    have e1 : acut (f.sizes.map dm) (some 1) none = ds.map dm := by rw [hs, List.map_cons, acut1]
    rw [e1]
    refine ⟨len_small (by have := ls; rw [hs] at this; simp at this; rw [List.length_map]; omega), ?_⟩
    refine cat_new2 (l3 _ _ e2) (by rw [lx]; simp) fun p3 h4 l4 hp3 e4 => ?_
    refine ⟨p3, _, rfl, ALe.trans l2 (ALe.trans l3 l4), ale_none (ALe.trans l2 l3) hp3, e4, by rw [List.length_append, lx]; rfl, fun x hx => ?_⟩
    rcases List.mem_append.mp hx with hx | hx
    · exact ⟨(ax x hx).1.mono (ALe.trans l3 l4), (ax x hx).2⟩
    · simp only [List.mem_cons, List.not_mem_nil, or_false] at hx
      rcases hx with rfl | rfl | rfl
      · exact ⟨dty_t2 dty1 dtyS, rfl⟩
      · exact ⟨dty_ref.mpr (.inl ⟨_, l4 _ _ e3⟩), rfl⟩
      · refine ⟨dty_t3 dty1 (dty_tup.mpr ⟨?_, fun x hx => ?_⟩) dtyE, ?_⟩
        · have := ls; rw [hs] at this; simp at this ⊢; omega
        · rcases List.mem_cons.mp hx with hx | hx
          · rw [hx]
            exact dty_t2 (dty_t2 (dty_s (by decide)) dty_int) (dty_t2 (dty_s (by decide)) dty_int)
          · exact dd1 x (by rw [hs]; exact List.mem_cons_of_mem _ hx)
        · have : isPlain (.tup [.tup [.str "b", .int 1], .tup [.str "a", .int 1]]) = false := by decide +kernel
          rw [hasFm_tup, List.all_cons, this, Bool.false_and, Bool.and_false, Bool.false_and]
  clear l2 e2 lx ax
  rintro σ h3 ⟨p, xs, rfl, l3, pn, e3, lx, ax⟩
  refine wp_cut CM (fun σ h4 => ∃ p xs, σ = [some (bkv (pre ++ f :: post)), some (.int pre.length), some (.int way), some (.int number), some (.str f.name), some (.tup (f.sizes.map dm)), some (ndv f.e), some (.ref p), none] ∧ ALe h1 h4 ∧ h4 p = some (.lst xs) ∧ xs.length = 8 ∧ ∀ x ∈ xs, DTy h4 x ∧ hasFmB x = false) ?_ ?_
  · bv_omega
    refine ⟨ms_app e3, append_new e3 (by omega) ?_⟩
    refine ⟨p, _, rfl, ale_upd pn l3, aupd_same, by rw [List.length_append, lx]; rfl, fun x hx => ?_⟩
    rcases List.mem_append.mp hx with hx | hx
    · exact ⟨dty_updL e3 (ax x hx).1, (ax x hx).2⟩
    · rw [List.mem_singleton.mp hx]
      refine ⟨dty_t3 (dty_s (by decide)) dtyS dtyE, ?_⟩
      rw [hasFm_tup]
      have : isName (.str "abcdefghi") = false := by decide +kernel
      rw [this]; simp
  clear l3 e3 lx ax pn
  rintro σ h4 ⟨p, xs, rfl, l4, e4, lx, ax⟩
  have len1 : ((pre ++ f :: post).map fmv).length = pre.length + (post.length + 1) := by simp
  have tk : acut ((pre ++ f :: post).map fmv) none (some (pre.length : Int)) = pre.map fmv := by
    rw [acut_take (by rw [len1]; omega), ← List.map_take]
    congr 1
    simp
  have dr : acut ((pre ++ f :: post).map fmv) (some ((pre.length : Int) + 1)) none = post.map fmv := by
    have : (pre.length : Int) + 1 = ((pre.length + 1 : Nat) : Int) := by omega
    rw [this, acut_drop (by rw [len1]; omega), ← List.map_drop]
    congr 1
    rw [List.drop_append]
    simp
  have fin : ∀ (x : AV) (h5 : AH), ALe h1 h5 → DTy h5 x → BadF x → Shr (Q (.tup (pre.map fmv ++ [x] ++ post.map fmv))) h5 := fun x h5 l5 dx bx => by
    have e9 : pre.map fmv ++ [x] ++ post.map fmv = pre.map fmv ++ x :: post.map fmv := by simp
    rw [e9]
    refine shr_i (hq _ h5 l5 (dty_tup.mpr ⟨by simp; omega, fun y hy => ?_⟩) (spoilt_no bx))
    have fmd : ∀ y ∈ (pre ++ f :: post).map fmv, DTy h5 y := (dty_tup.mp (bkv_dty o)).2
    rcases List.mem_append.mp hy with hy | hy
    · obtain ⟨g, hg, rfl⟩ := List.mem_map.mp hy
      exact fmd _ (List.mem_map_of_mem (List.mem_append_left _ hg))
    · rcases List.mem_cons.mp hy with rfl | hy
      · exact dx
      · obtain ⟨g, hg, rfl⟩ := List.mem_map.mp hy
        exact fmd _ (List.mem_map_of_mem (List.mem_append_right _ (List.mem_cons_of_mem _ hg)))
  have z1 : (pre.map fmv).length + 1 ≤ sizeLine := len_small (by rw [List.length_map]; omega)
  unfold bkv
  bv_omega
  refine n_lst e4 ?_
  bv_omega
  rw [lx]
  by_cases hw8 : way < 8
  · have q : (way : Int) < ((8 : Nat) : Int) := by omega
    simp only [q]
    bv_omega
    rw [tk]
    refine x_pick e4 (by omega) (by rw [lx]; omega) fun x hx => ?_
    refine ⟨by simpa using z1, ?_⟩
    rw [dr]
    refine ⟨len_small (by simp; omega), ?_⟩
    exact fin x h4 l4 (ax x hx).1 (badF_form (ax x hx).2)
  · have q : ¬ (way : Int) < ((8 : Nat) : Int) := by omega
    simp only [q]
    bv_omega
    refine law_nodes_spec (n := n + 17) CL (by have := of.nd.2.2; omega) fun p6 h6 l6 _ e6 => ?_
    have hr : number < (rows f.e).length := by rw [rows_len]; exact hn
    refine x_lst (v := ndv (rows f.e)[number]) e6 ?_ ?_
    · unfold PL.atI
      rw [if_pos (by omega), Int.toNat_natCast, List.getElem?_map, List.getElem?_eq_getElem hr]
      rfl
    refine n_lst (l6 _ _ e4) ?_
    bv_omega
    rw [lx, List.length_map]
    have or' := rows_ok f.e of.nd.1 _ (List.getElem_mem hr)
    refine wrong_spec (n := n + 18) or' (by omega) (by omega) fun w h7 l7 dw bw => ?_
    refine put_spec (n := n + 12) bw 4 f.e of.nd.1 hdep (by have := of.nd.2.2; omega) hn dw fun v h8 l8 dv bv => ?_
    bv_omega
    rw [tk, dr]
    refine ⟨by simpa using z1, len_small (by simp; omega), ?_⟩
    exact fin _ h8 (ALe.trans l4 (ALe.trans l6 (ALe.trans l7 l8))) (dty_t3 dty1 dtyS dv) (badF_node bv)
theorem numsF_lookup : ∀ (pre : List Fm) (i : Nat) (f : Fm) (post : List Fm), f.name ∉ pre.map (·.name) → (numsF i (pre ++ f :: post)).lookup f.name = some (i + pre.length)
  | [], i, f, post, _ => by
    show ((f.name, i) :: _).lookup f.name = _
    simp
  | p :: pre, i, f, post, h => by
    rw [List.map_cons, List.mem_cons, not_or] at h
    show ((p.name, i) :: numsF (i + 1) (pre ++ f :: post)).lookup f.name = _
    rw [List.lookup_cons]
    have : (f.name == p.name) = false := by simp [h.1]
    rw [this]
    show (numsF (i + 1) (pre ++ f :: post)).lookup f.name = _
    rw [numsF_lookup pre (i + 1) f post h.2, List.length_cons]
    congr 1
    omega
theorem upto_take {b : List Fm} (u : Upto b) (k : Nat) : Upto (b.take k) := by
  have : b = b.take k ++ b.drop k := (List.take_append_drop k b).symm
  rw [this] at u
  exact u.pre
theorem range_cons (lo : Int) (n : Nat) : rangeL lo (n + 1) = .int lo :: rangeL (lo + 1) n := rfl
theorem no_space (s : Str) : nameOk (s ++ " ") = false := by
  have e : (s ++ (" " : Str)) = ⟨s.cps ++ #[32]⟩ := rfl
  rw [e]
  unfold nameOk
  have : (⟨s.cps ++ #[32]⟩ : Str).cps.toList.all letC = false := by
    show (s.cps ++ #[32]).toList.all letC = false
    rw [Array.toList_append, List.all_append]
    have : ([32] : List Nat).all letC = false := by decide +kernel
    have e2 : (#[32] : Array Nat).toList = [32] := rfl
    rw [e2, this, Bool.and_false]
  rw [this, Bool.and_false]
theorem space_len (s : Str) : (s ++ (" " : Str)).length = s.length + 1 := by
  show (s.cps ++ #[32]).size = s.cps.size + 1
  simp
theorem main : ∀ ns : List Int, ns.length ≤ 63 → (∀ z ∈ ns, Builtin.Int.intBits z ≤ 1048576) → wpC L.pg 100 d_law.id [.rl (ns.map .int)] (fun _ => none) (fun v _ => v = .bl true) (fun _ _ => False) := by
  intro ns hl _
  show wpC G (99 + 1) 184 _ _ _ _
  refine call_i klaw rfl ?_
  unfold c184_law
  have CM := wpC_mono G 99
  refine wp_cut CM (fun σ h => ∃ q c, σ = [some (.rl (ns.map .int)), some (.ref q), none, none, none, none, none, none, none] ∧ HandOk h q 0 c) ?_ ?_
  · bv_omega
    exact law_hand_spec (n := 98) k20 hl fun q c h1 _ w => ⟨q, c, rfl, w⟩
  rintro σ h ⟨q, c, rfl, w⟩
  refine wp_cut CM (fun σ h => ∃ b : List Fm, σ = [some (.rl (ns.map .int)), some (.ref q), some (bkv b), none, none, none, none, none, none] ∧ HandOk h q 4000000 c ∧ BkOk b ∧ b.length ≤ 5 ∧ ∀ f ∈ b, f.e.dep ≤ 4) ?_ ?_
  · bv_omega
    refine law_book_spec (n := 89) (H := 4) (most := 5) CL w (by decide) (by decide) (by decide) (by decide) fun b h' g o lb od => ?_
    bv_omega
    exact ⟨b, rfl, g.w.mono (by decide), o, lb, od⟩
  rintro σ h ⟨b, rfl, w, o, lb, od⟩
  have l1 := o.l1
  refine wp_cut CM (fun σ h => ∃ i : Nat, i < b.length ∧ σ = [some (.rl (ns.map .int)), some (.ref q), some (bkv b), some (.int i), none, none, none, none, none] ∧ HandOk h q 4000001 c) ?_ ?_
  · unfold bkv
    bv_omega
    rw [List.length_map]
    refine draw_spec (n := 98) k10 w (by decide) (by omega) (by omega) fun t o t0 t1 w2 => ?_
    obtain ⟨i, rfl⟩ := Int.eq_ofNat_of_zero_le t0
    bv_omega
    exact ⟨i, by omega, rfl, w2⟩
  rintro σ h ⟨i, hi, rfl, w⟩
  refine wp_cut CM (fun σ h => ∃ y : Nat, y < 28 ∧ σ = [some (.rl (ns.map .int)), some (.ref q), some (bkv b), some (.int i), some (.int y), none, none, none, none] ∧ HandOk h q 4000002 c) ?_ ?_
  · bv_omega
    refine draw_spec (n := 98) k10 w (by decide) (by decide) (by decide) fun t o t0 t1 w2 => ?_
    obtain ⟨y, rfl⟩ := Int.eq_ofNat_of_zero_le t0
    bv_omega
    exact ⟨y, by omega, rfl, w2⟩
  rintro σ h ⟨y, hy, rfl, w⟩
  obtain ⟨f, pre, post, rfl, pl⟩ := fm_at hi
  subst pl
  have of : FmOk f := (o.up pre f post rfl).ok
  have at1 : PL.atI ((pre ++ f :: post).map fmv) (pre.length : Int) = some (fmv f) := by
    unfold PL.atI
    rw [if_pos (by omega), Int.toNat_natCast, List.getElem?_map, List.getElem?_append_right (Nat.le_refl _)]
    simp
  refine wp_cut CM (fun σ h => ∃ m : Nat, m < f.e.cnt ∧ σ = [some (.rl (ns.map .int)), some (.ref q), some (bkv (pre ++ f :: post)), some (.int pre.length), some (.int y), some (.int m), none, none, none]) ?_ ?_
  · unfold bkv
    bv_omega
    refine ⟨_, at1, ?_⟩
    unfold fmv
    bv_omega
    refine law_nodes_spec (n := 97) CL (by have := of.nd.2.2; omega) fun p h' l' _ e' => n_lst e' ?_
    rw [List.length_map, rows_len]
    have := cnt_pos f.e
    have := of.nd.2.2
    bv_omega
    refine draw_spec (n := 98) k10 (w.ale l') (by decide) (by omega) (by omega) fun t o t0 t1 w2 => ?_
    obtain ⟨m, rfl⟩ := Int.eq_ofNat_of_zero_le t0
    bv_omega
    exact ⟨m, by omega, rfl⟩
  clear w h
  rintro σ h ⟨m, hm, rfl⟩
  clear hi
  have hdf := od f (by simp)
  have dB : ∀ {h : AH}, DTy h (bkv (pre ++ f :: post)) := fun {h} => bkv_dty o
  have BK := isBk_bkv o
  have spo : ∀ {h : AH} {Q : AQ} {E : AXQ}, (∀ v h', ALe h h' → DTy h' v → ¬ isBk v → Q v h') → wpC G 99 143 [bkv (pre ++ f :: post), .int pre.length, .int y, .int m] h Q E := fun hq => spoilt_spec (n := 79) o hy hm hdf hq
  have bnz : pre ++ f :: post ≠ [] := by simp
  generalize hb : pre ++ f :: post = b at *
  generalize hpl : (pre.length : Int) = pl at *
  have lb5 := lb
  have l10 := o.l10
  refine wp_cut CM (fun σ h => ∃ x : Option AV, σ = [some (.rl (ns.map .int)), some (.ref q), some (bkv b), some (.int pl), some (.int y), some (.int m), x, none, none]) ?_ ?_
  · refine for_i CM ?_
    unfold bkv
    bv_omega
    rw [List.length_map]
    refine ⟨1, _, rfl, rfl, ⟨by omega, by omega, by omega, by omega⟩, fun xs σ h' => ∃ (j : Nat) (x : Option AV), 1 ≤ j ∧ j ≤ b.length + 1 ∧ xs = rangeL (j : Int) (b.length + 1 - j) ∧ σ = [some (.rl (ns.map .int)), some (.ref q), some (bkv b), some (.int pl), some (.int y), some (.int m), x, none, none], ⟨1, none, by omega, by omega, ?_, rfl⟩, ?_, ?_⟩
    · congr 1
      omega
    · rintro σ h' ⟨j, x, j1, j2, _, rfl⟩
      exact ⟨x, rfl⟩
    · rintro x xs σ h' ⟨j, x6, j1, j2, e, rfl⟩
      have jl : j ≤ b.length := by
        by_cases hj : j ≤ b.length
        · exact hj
        · have : b.length + 1 - j = 0 := by omega
          rw [this] at e
          cases e
      have e9 : b.length + 1 - j = (b.length - j) + 1 := by omega
      rw [e9, range_cons, List.cons.injEq] at e
      obtain ⟨rfl, rfl⟩ := e
      unfold bkv
      bv_omega
      rw [acut_take (by rw [List.length_map]; exact jl), ← List.map_take]
      have bt : isBk (.tup ((b.take j).map fmv)) := ⟨b.take j, rfl, by rw [List.length_take]; omega, by rw [List.length_take]; omega, upto_take o.up j⟩
      refine is_book_spec (n := 85) CB (by obtain ⟨b', e', o'⟩ := bt; rw [e']; exact bkv_dty o') (fun _ => ?_) fun k => absurd bt k
      bv_omega
      have : ((j + 1 : Nat) : Int) = (j : Int) + 1 := by omega
      refine ⟨j + 1, some (.int j), by omega, by omega, ?_, rfl⟩
      rw [this]
      congr 1
      omega
  rintro σ h ⟨x6, rfl⟩
  refine wp_cut CM (fun σ h => ∃ x7 : Option AV, σ = [some (.rl (ns.map .int)), some (.ref q), some (bkv b), some (.int pl), some (.int y), some (.int m), x6, x7, none]) ?_ ?_
  · refine for_i CM ?_
    unfold bkv
    bv_omega
    rw [List.length_map]
    refine ⟨by omega, by omega, fun xs σ h' => ∃ (j : Nat) (x : Option AV), j ≤ b.length ∧ xs = rangeL (j : Int) (b.length - j) ∧ σ = [some (.rl (ns.map .int)), some (.ref q), some (bkv b), some (.int pl), some (.int y), some (.int m), x6, x, none], ⟨0, none, by omega, by simp, rfl⟩, ?_, ?_⟩
    · rintro σ h' ⟨j, x, j2, _, rfl⟩
      exact ⟨x, rfl⟩
    · rintro x xs σ h' ⟨j, x7, j2, e, rfl⟩
      have jl : j < b.length := by
        by_cases hj : j < b.length
        · exact hj
        · have : b.length - j = 0 := by omega
          rw [this] at e
          cases e
      have e9 : b.length - j = (b.length - (j + 1)) + 1 := by omega
      rw [e9, range_cons, List.cons.injEq] at e
      obtain ⟨rfl, rfl⟩ := e
      obtain ⟨g, pr, po, eb, pl2⟩ := fm_at jl
      have og := o.up pr g po eb
      have at2 : PL.atI (b.map fmv) (j : Int) = some (fmv g) := by
        unfold PL.atI
        rw [if_pos (by omega), Int.toNat_natCast, List.getElem?_map, eb, List.getElem?_append_right (by omega), pl2]
        simp
      unfold bkv
      bv_omega
      refine ⟨_, at2, ?_⟩
      unfold fmv
      bv_omega
      refine formula_number_spec (n := 83) CA o (dty_name og.ok.name) ?_
      have en : numOf b (.str g.name) = .int (j : Int) := by
        show (if nameOk g.name = true then (((numsF 0 b).lookup g.name).map nI).getD .non else .non) = _
        rw [if_pos og.ok.name, eb, numsF_lookup pr 0 g po og.new, Nat.zero_add, pl2]
        rfl
      rw [en]
      bv_omega
      have : ((j + 1 : Nat) : Int) = (j : Int) + 1 := by omega
      refine ⟨j + 1, some (.int j), by omega, ?_, rfl⟩
      rw [this]
  rintro σ h ⟨x7, rfl⟩
  obtain ⟨f0, br, eb⟩ : ∃ f0 br, b = f0 :: br := by
    cases b with
    | nil => exact absurd rfl bnz
    | cons f0 br => exact ⟨f0, br, rfl⟩
  have of0 : FmOk f0 := o.fm (by rw [eb]; simp)
  have at0' : PL.atI (b.map fmv) 0 = some (fmv f0) := by rw [eb]; rfl
  have nl := name_len of0.name
  refine wp_cut CM (fun σ h => ∃ x8 : Option AV, σ = [some (.rl (ns.map .int)), some (.ref q), some (bkv b), some (.int pl), some (.int y), some (.int m), x6, x7, x8]) ?_ ?_
  · refine for_v CM ?_
    unfold bkv
    bv_omega
    refine ⟨_, at0', ?_⟩
    unfold fmv
    bv_omega
    refine ⟨len_small (by have : (" " : Str).length = 1 := rfl; omega), ?_⟩
    refine new_i fun p1 h2 l2 e2 => ?_
    refine ⟨_, e2, fun xs σ h' => ∃ x : Option AV, h' = h2 ∧ (∀ z ∈ xs, ∃ s : Str, z = .str s ∧ s.length ≤ 1000 ∧ nameOk s = false) ∧ σ = [some (.rl (ns.map .int)), some (.ref q), some (bkv b), some (.int pl), some (.int y), some (.int m), x6, x7, x], ⟨none, rfl, fun z hz => ?_, rfl⟩, ?_, ?_⟩
    · simp only [List.mem_cons, List.not_mem_nil, or_false] at hz
      rcases hz with rfl | rfl | rfl | rfl
      · exact ⟨_, rfl, by decide, by decide +kernel⟩
      · exact ⟨_, rfl, by decide, by decide +kernel⟩
      · exact ⟨_, rfl, by decide, by decide +kernel⟩
      · exact ⟨_, rfl, by rw [space_len]; omega, no_space _⟩
    · rintro σ h' ⟨x, rfl, _, rfl⟩
      exact ⟨e2, x, rfl⟩
    · rintro x xs σ h' ⟨x8, rfl, hx, rfl⟩
      refine ⟨e2, ?_⟩
      obtain ⟨s, rfl, sl, sn⟩ := hx x List.mem_cons_self
      have go := fun z hz => hx z (List.mem_cons_of_mem _ hz)
      unfold bkv
      bv_omega
      refine formula_number_spec (n := 83) CA o (dty_str.mpr (by omega)) ?_
      have en : numOf b (.str s) = .non := by
        show (if nameOk s = true then _ else AV.non) = _
        rw [if_neg (by rw [sn]; intro q; cases q)]
      rw [en]
      bv_omega
      exact ⟨_, go, rfl⟩
  rintro σ h ⟨x8, rfl⟩
  refine wp_cut CM (fun σ h => σ = [some (.rl (ns.map .int)), some (.ref q), some (bkv b), some (.int pl), some (.int y), some (.int m), x6, x7, x8]) ?_ ?_
  · bv_omega
    refine told_place (n := 81) (.inl rfl) o ?_
    bv_omega
    refine ⟨⟨by decide +kernel, by decide +kernel⟩, ?_⟩
    refine told_place (n := 81) (.inr rfl) o ?_
    bv_omega
    exact ⟨by decide +kernel, by decide +kernel⟩
  rintro σ h rfl
  refine wp_cut CM (fun σ h => True) ?_ ?_
  · refine for_v CM ?_
    unfold bkv
    bv_omega
    refine spo fun v h2 l2 dv bv => ?_
    refine listT_i fun p3 h3 l3 e3 => ?_
    have s1 : acut (b.map fmv) none (some 1) = [fmv f0] := by
      rw [eb, List.map_cons]
      exact acut_take (k := 1) (by simp)
    rw [s1]
    refine ⟨len_small (by simp; omega), ?_⟩
    refine ⟨_, at0', ?_⟩
    refine new_i fun p4 h4 l4 e4 => ?_
    have d3 : DTy h4 (.ref p3) := dty_ref.mpr (.inl ⟨_, l4 _ _ e3⟩)
    have n3 : ¬ isBk (.ref p3) := fun ⟨_, e, _⟩ => by cases e
    have n0 : ¬ isBk (.tup []) := fun ⟨b', e, o'⟩ => by
      unfold bkv at e
      cases b' with
      | nil => have := o'.l1; simp at this
      | cons _ _ => cases e
    have n2 : ¬ isBk (.tup (b.map fmv ++ [fmv f0])) := fun ⟨b', e, o'⟩ => by
      unfold bkv at e
      simp only [AV.tup.injEq] at e
      obtain ⟨g, post', rfl, eg⟩ := bk_split e.symm
      have := (o'.up b g post' rfl).new
      rw [← fmv_inj eg, eb] at this
      simp at this
    have d2 : DTy h4 (.tup (b.map fmv ++ [fmv f0])) := by
      refine dty_tup.mpr ⟨by simp; omega, fun x hx => ?_⟩
      rcases List.mem_append.mp hx with hx | hx
      · exact (dty_tup.mp (bkv_dty o)).2 x hx
      · rw [List.mem_singleton.mp hx]; exact fmv_dty of0
    have nn : ¬ isBk .non := fun ⟨_, e, _⟩ => by cases e
    have nf : ¬ isBk (fmv f0) := fun ⟨b', e, o'⟩ => by
      unfold bkv at e
      cases b' with
      | nil => cases e
      | cons g _ =>
        unfold fmv at e
        simp only [List.map_cons, AV.tup.injEq, List.cons.injEq] at e
        cases e.1
    refine ⟨_, e4, fun xs σ h' => ∃ x : Option AV, h' = h4 ∧ (∀ z ∈ xs, DTy h4 z ∧ ¬ isBk z) ∧ σ = [some (.rl (ns.map .int)), some (.ref q), some (bkv b), some (.int pl), some (.int y), some (.int m), x6, x7, x], ⟨x8, rfl, fun z hz => ?_, rfl⟩, ?_, ?_⟩
    · simp only [List.mem_cons, List.not_mem_nil, or_false] at hz
      rcases hz with rfl | rfl | rfl | rfl | rfl | rfl
      · exact ⟨dv.mono (ALe.trans l3 l4), bv⟩
      · exact ⟨d3, n3⟩
      · exact ⟨dty_t0, n0⟩
      · exact ⟨d2, n2⟩
      · exact ⟨dty_non, nn⟩
      · exact ⟨fmv_dty of0, nf⟩
    · rintro σ h' ⟨x, rfl, _, rfl⟩
      exact e4
    · rintro x xs σ h' ⟨x8, rfl, hx, rfl⟩
      refine ⟨e4, ?_⟩
      obtain ⟨dx, bx⟩ := hx x List.mem_cons_self
      have go := fun z hz => hx z (List.mem_cons_of_mem _ hz)
      bv_omega
      refine refused_spec (n := 80) dx bx ?_
      bv_omega
      exact ⟨_, go, rfl⟩
  intro σ h _
  bv_omega
  exact shr_i trivial
end K04

namespace K04
open PySem PySem.Spec PyProof.Rows L2 PL
abbrev R : PySem.W.OpenRow := PySem.W.OpenLaw.row PySem.Challenge.rw_anyunits_k04_whole_books_right_and_spoil
abbrev hk : PySem.W.Hook := hookG 5 L (fnOf L)
def ob (s : PySem.W.SharedT) : AlG := obsGG 5 L (fnOf L) (HandSHeadRun.getT s)
theorem ob_eq (s : PySem.W.SharedT) : ob s = hk.obs s.abs := obsGG_eq (HandSHeadRun.getT_eq s)
def names : List PySem.Str := "__name__" :: "UnitsError" :: "NoBook" :: "NoPlace" :: "is_integer" :: "is_within" :: "divisor" :: "is_fraction" :: "LETTERS" :: "MOST_NAME" :: "is_name" :: "are_named_pairs" :: "is_dimension" :: "NUM" :: "TOLD" :: "IN" :: "PLUS" :: "LESS" :: "TIMES" :: "OVER" :: "POWER" :: "CALL" :: "FORMS" :: "MOST_NODES" :: "MOST_DEEP" :: "MOST_AMOUNTS" :: "MOST_FORMULAS" :: "MOST_FIGURES" :: "MOST_BASES" :: "MOST_EXPONENT" :: "MOST_DEGREE" :: "is_short" :: "is_plain_dimension" :: "is_form_part" :: "has_form" :: "raw_parts" :: "has_size" :: "node_rows" :: "has_formula_form" :: "is_right" :: "degree_of" :: "is_book" :: "check_book" :: "check_number" :: "check_formula" :: "formula_numbers" :: "formula_number" :: "nodes_many" :: "node_at" :: "called_by" :: "_law_hand" :: "_law_draw" :: "_law_low" :: "_law_names" :: "_law_size" :: "_law_parts" :: "_law_nodes" :: "_law_degree" :: "_law_share" :: "_law_leaf" :: "_law_node" :: "_law_book" :: "_law_titles" :: "_law_wrong_node" :: "_law_put" :: "_law_spoilt" :: "_law_told" :: "_law_refused" :: []
theorem run_true (w : World) : HandSHeadRun.RunEq R (PySem.W.view R.prog [72]) hk ob 6000 names (ftW w true) := by
  intro os
  kernel_rfl
theorem run_false (w : World) : HandSHeadRun.RunEq R (PySem.W.view R.prog [72]) hk ob 6000 names (ftW w false) := by
  intro os
  kernel_rfl
theorem run (w : World) : HandSHeadRun.RunEq R (PySem.W.view R.prog [72]) hk ob 6000 names w := ftW_all (P := fun w => HandSHeadRun.RunEq R (PySem.W.view R.prog [72]) hk ob 6000 names w) (fun w => ⟨run_true w, run_false w⟩) w
end K04
open PySem PySem.W PySem.Calls PyProof.Rows
theorem PySem.Challenge.cw_anyunits_k04_whole_books_right_and_spoil_holds : PySem.Challenge.rw_anyunits_k04_whole_books_right_and_spoil.Holds := by
  w_on; o_law
  refine HandSHeadRun.head_any (r := OpenLaw.row PySem.Challenge.rw_anyunits_k04_whole_books_right_and_spoil) (q := view (OpenLaw.row PySem.Challenge.rw_anyunits_k04_whole_books_right_and_spoil).prog [72]) (H := K04.hk) (ob := K04.ob) (M := 6000) (loose := K04.names) (d := HandSHeadRun.topDef (OpenLaw.row PySem.Challenge.rw_anyunits_k04_whole_books_right_and_spoil).prog 72) (kwd := []) K04.ob_eq
    (by kernel_rfl) (fun s => by kernel_rfl) K04.run (by kernel_rfl) (by kernel_rfl) (by kernel_rfl) (by rfl) (by first | assumption | decide +kernel) (by decide +kernel) ⟨rfl, rfl, rfl, rfl, rfl, by decide +kernel⟩ ?hw ?hc
  case hw => w_witness2
  case hc =>
    exact PL.law_end (l := PySem.Challenge.rw_anyunits_k04_whole_books_right_and_spoil) (n := 63) (k := 100) (L := K04.L) (dl := K04.d_law) (x := "script") rfl (by decide) (by kernel_rfl) ⟨rfl, by decide, by decide⟩ (List.mem_of_getElem? (i := 44) rfl) (by kernel_rfl) rfl rfl K04.kok K04.nd K04.chk K04.bd K04.main
