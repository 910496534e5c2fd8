import PyProof.Rows.All
import Wide.All
import OpenK.AllK
import Wide.FinOn
import HandS.List
import HandS.Comp
import HandS.Dict
import HandS.Iter
import HandS.Text
import HandS.Words
import HandS.WordsList
import HandS.Wide
import HandS.IsInst
import HandS.TupAny
import HandS.Deep
import HandS.Style
import HandS.Flow
import HandS.Strs
import HandS.SetKeys
import HandS.More
import HandS.StrMore
import HandS.RaiseMore
import HandS.Zip
import HandS.Ends
import HandS.Conv
import KE.KEqNest
import HandS.TupSets
import PyProof.Rows.StrMeet
import PySem.Challenge.RW_calledroom_k06_whole_sums_in_the_place_o
set_option Elab.async false
set_option linter.all false
set_option maxRecDepth 100000
set_option autoImplicit false
/-! Values, states and the judgements of the mirror: plain values in place of addresses. -/
namespace Mw
open PySem PySem.Spec L2

/-- the built-in classes that are named -/
inductive Ty where
  | int | bool | str | tup | lst | dic
  deriving DecidableEq
def Ty.name : Ty → String
  | .int => "int" | .bool => "bool" | .str => "str" | .tup => "tuple" | .lst => "list" | .dic => "dict"
/-- a plain value: tuples, frozen lists and dicts stand inline; ref n: a shared object, by its number -/
inductive PV where
  | non | bl (b : Bool) | int (i : Int) | str (x : Str) | tup (xs : List PV) | lst (xs : List PV) | dic (kvs : List (Key × PV)) | scr (ns : List Int) | ref (n : Nat) | glo (x : Str) | ty (t : Ty)
/-- a local name: without value, a value, a list or dict that none else holds -/
inductive Slot where
  | no | val (p : PV) | own (p : PV)
/-- a shared object; potO, potI: the two lists of a law's pot, of which no more is told than how often it may be drawn from -/
inductive Cell where
  | dead | lst (xs : List PV) | dic (ks : List (Key × PV)) | ins (c : Str) (fs : List (Str × PV)) | potO (k n : Nat) | potI | inv (P : List V → Prop)
abbrev En := List Slot
abbrev Hi := List Cell
structure Wd where
  fz : Addr → Prop
  mu : List Addr

section
variable (K : PySem.W.Frag) (mg : Str → Option Value) (W : Wd) (H : Hp)
/-- the script's list -/
def Scr (a : Addr) (xs : List V) : Prop := (∃ o, H a = some (.frz o (.lst xs))) ∨ ∃ (o : Obj) (its : Array Value) (n : Nat), K.lookup a = some o ∧ o.cls = .type "list" ∧ o.dict = none ∧ o.data = .seq its n ∧ its.size ≤ sizeLine ∧ Vals xs its.toList
mutual
def VR : PV → V → Prop
  | .non, v => v = .non
  | .bl b, v => v = .bl b
  | .int i, v => v = .int i
  | .str x, v => v = .str x
  | .tup xs, v => ∃ a vs, v = .ref a ∧ SqT K H a vs ∧ VRs xs vs
  | .lst xs, v => ∃ a vs, v = .ref a ∧ W.fz a ∧ H a = some (.lst vs) ∧ VRs xs vs
  | .dic kvs, v => ∃ a ks, v = .ref a ∧ W.fz a ∧ H a = some (.dK ks) ∧ VRk kvs ks
  | .scr ns, v => ∃ a, v = .ref a ∧ Scr K H a (ns.map V.int)
  | .ref n, v => ∃ a, v = .ref a ∧ W.mu[n]? = some a
  | .glo x, v => ∃ u, mg x = some u ∧ RelV v u
  | .ty t, v => v = .ty t.name
def VRs : List PV → List V → Prop
  | [], vs => vs = []
  | p :: ps, vs => ∃ v r, vs = v :: r ∧ VR p v ∧ VRs ps r
def VRk : List (Key × PV) → List (Key × V) → Prop
  | [], vs => vs = []
  | (k, p) :: ps, vs => ∃ v r, vs = (k, v) :: r ∧ VR p v ∧ VRk ps r
end
/-- fields -/
def VRf : List (Str × PV) → List (Str × V) → Prop
  | [], vs => vs = []
  | (k, p) :: ps, vs => ∃ v r, vs = (k, v) :: r ∧ VR K mg W H p v ∧ VRf ps r
/-- a list or dict at an address that is not shared -/
def OwnAt : PV → Addr → Prop
  | .lst xs, a => ∃ vs, H a = some (.lst vs) ∧ VRs K mg W H xs vs
  | .dic ks, a => ∃ vs, H a = some (.dK vs) ∧ VRk K mg W H ks vs
  | _, _ => False
def CellOk : Cell → Addr → Prop
  | .dead, _ => True
  | .lst xs, a => ∃ vs, H a = some (.lst vs) ∧ VRs K mg W H xs vs
  | .dic xs, a => ∃ vs, H a = some (.dK vs) ∧ VRk K mg W H xs vs
  | .potO k n, a => ∃ b sd ct, W.mu[k]? = some b ∧ H a = some (.lst [.ref b, .int sd, .int ct]) ∧ 0 ≤ sd ∧ sd < 2305843009213693951 ∧ 0 ≤ ct ∧ ct + (n : Int) ≤ 1099511627776
  | .potI, a => ∃ is : List Int, H a = some (.lst (is.map V.int)) ∧ ∀ i ∈ is, 0 ≤ i
  | .inv P, a => ∃ vs, H a = some (.lst vs) ∧ P vs
  | .ins c fs, a => ∃ C dx gs, mg c = some (.ref C) ∧ H a = some (.ins C dx gs) ∧ VRf K mg W H fs gs
end
def Live (et : Hi) (W : Wd) (a : Addr) : Prop := ∃ (i : Nat) (c : Cell), et[i]? = some c ∧ c ≠ Cell.dead ∧ W.mu[i]? = some a
def Own (ep : En) (sg : L2.St) (a : Addr) : Prop := ∃ (i : Nat) (p : PV), ep[i]? = some (Slot.own p) ∧ sg[i]? = some (some (V.ref a))

/-- the shared objects are held -/
structure Cel (K : PySem.W.Frag) (mg : Str → Option Value) (H : Hp) (et : Hi) (W : Wd) : Prop where
  len : et.length = W.mu.length
  ok : ∀ (i : Nat) (c : Cell) (a : Addr), et[i]? = some c → W.mu[i]? = some a → CellOk K mg W H c a
  inj : ∀ (i j : Nat) (c d : Cell) (a : Addr), et[i]? = some c → et[j]? = some d → c ≠ .dead → d ≠ .dead → W.mu[i]? = some a → W.mu[j]? = some a → i = j
  fzl : ∀ a, W.fz a → ¬ Live et W a
  fzh : ∀ a, W.fz a → H a ≠ none
def SlotOk (K : PySem.W.Frag) (mg : Str → Option Value) (W : Wd) (H : Hp) : Slot → Option V → Prop
  | .no, _ => True
  | .val p, o => ∃ v, o = some v ∧ VR K mg W H p v
  | .own p, o => ∃ a, o = some (.ref a) ∧ OwnAt K mg W H p a
/-- the local names are held -/
structure Slt (K : PySem.W.Frag) (mg : Str → Option Value) (sg : L2.St) (ep : En) (H : Hp) (et : Hi) (W : Wd) : Prop where
  len : ep.length = sg.length
  ok : ∀ (i : Nat) (s : Slot) (o : Option V), ep[i]? = some s → sg[i]? = some o → SlotOk K mg W H s o
  inj : ∀ (i j : Nat) (p q : PV) (a : Addr), ep[i]? = some (Slot.own p) → ep[j]? = some (Slot.own q) → sg[i]? = some (some (V.ref a)) → sg[j]? = some (some (V.ref a)) → i = j
  ofz : ∀ a, Own ep sg a → ¬ W.fz a
  oli : ∀ a, Own ep sg a → ¬ Live et W a

/-- one state behind another: what may have changed is live, or in O -/
structure Ext (O : Addr → Prop) (H : Hp) (et : Hi) (W : Wd) (H' : Hp) (et' : Hi) (W' : Wd) : Prop where
  fz : ∀ a, W.fz a → W'.fz a
  nfz : ∀ a, W'.fz a → W.fz a ∨ H a = none ∨ O a
  mu : ∃ m, W'.mu = W.mu ++ m
  live : ∀ a, Live et' W' a → Live et W a ∨ H a = none
  keep : ∀ a o, H a = some o → ¬ Live et W a → ¬ O a → H' a = some o
  there : ∀ a, H a ≠ none → H' a ≠ none
def NoO : Addr → Prop := fun _ => False

theorem Ext.refl (O : Addr → Prop) (H : Hp) (et : Hi) (W : Wd) : Ext O H et W H et W :=
  ⟨fun _ h => h, fun _ h => .inl h, ⟨[], by simp⟩, fun _ h => .inl h, fun _ _ h _ _ => h, fun _ h => h⟩
theorem Ext.trans {O O' : Addr → Prop} {H H1 H2 : Hp} {et et1 et2 : Hi} {W W1 W2 : Wd} (x : Ext O H et W H1 et1 W1) (y : Ext O' H1 et1 W1 H2 et2 W2) (ho : ∀ a, O' a → O a ∨ H a = none) : Ext O H et W H2 et2 W2 where
  fz := fun a h => y.fz a (x.fz a h)
  nfz := fun a h => by
    have back : H1 a = none → H a = none := fun e => by
      cases q : H a with
      | none => rfl
      | some o => exact absurd e (x.there a (by rw [q]; simp))
    rcases y.nfz a h with h | h | h
    · exact x.nfz a h
    · exact .inr (.inl (back h))
    · rcases ho a h with h | h
      · exact .inr (.inr h)
      · exact .inr (.inl h)
  mu := by
    obtain ⟨m, e⟩ := x.mu
    obtain ⟨m', e'⟩ := y.mu
    exact ⟨m ++ m', by rw [e', e, List.append_assoc]⟩
  live := fun a h => by
    rcases y.live a h with h | h
    · exact x.live a h
    · refine .inr ?_
      cases q : H a with
      | none => rfl
      | some o => exact absurd h (x.there a (by rw [q]; simp))
  keep := fun a o h hl hO => by
    have h1 := x.keep a o h hl hO
    refine y.keep a o h1 (fun z => ?_) (fun z => ?_)
    · rcases x.live a z with z | z
      · exact hl z
      · rw [h] at z; cases z
    · rcases ho a z with z | z
      · exact hO z
      · rw [h] at z; cases z
  there := fun a h => y.there a (x.there a h)
theorem Ext.mono {O O' : Addr → Prop} {H H1 : Hp} {et et1 : Hi} {W W1 : Wd} (x : Ext O H et W H1 et1 W1) (ho : ∀ a, O a → O' a) : Ext O' H et W H1 et1 W1 :=
  ⟨x.fz, fun a h => (x.nfz a h).imp_right fun h => h.imp_right (ho a), x.mu, x.live, fun a o h hl hO => x.keep a o h hl fun z => hO (ho a z), x.there⟩
theorem Ext.mu_get {O : Addr → Prop} {H H1 : Hp} {et et1 : Hi} {W W1 : Wd} (x : Ext O H et W H1 et1 W1) {n : Nat} {a : Addr} (h : W.mu[n]? = some a) : W1.mu[n]? = some a := by
  obtain ⟨m, e⟩ := x.mu
  rw [e, List.getElem?_append_left (by exact (List.getElem?_eq_some_iff.mp h).1)]
  exact h

/-- an address that will stand: neither shared nor in O -/
structure Stays (O : Addr → Prop) (H : Hp) (et : Hi) (W : Wd) : Prop where
  fz : ∀ a, W.fz a → ¬ Live et W a ∧ ¬ O a
  tup : ∀ a xs, H a = some (.tup xs) → ¬ Live et W a ∧ ¬ O a
  frz : ∀ a o u, H a = some (.frz o u) → ¬ Live et W a ∧ ¬ O a

theorem Rd.ext {O : Addr → Prop} {H H1 : Hp} {et et1 : Hi} {W W1 : Wd} (x : Ext O H et W H1 et1 W1) (s : Stays O H et W) {a : Addr} {xs : List V} (h : Rd H a (.tup xs)) : Rd H1 a (.tup xs) := by
  rcases h with h | ⟨o, h⟩
  · exact .inl (x.keep a _ h (s.tup a xs h).1 (s.tup a xs h).2)
  · exact .inr ⟨o, x.keep a _ h (s.frz a o _ h).1 (s.frz a o _ h).2⟩
theorem SqT.ext {K : PySem.W.Frag} {O : Addr → Prop} {H H1 : Hp} {et et1 : Hi} {W W1 : Wd} (x : Ext O H et W H1 et1 W1) (s : Stays O H et W) {a : Addr} {xs : List V} (h : SqT K H a xs) : SqT K H1 a xs := by
  rcases h with h | h
  · exact .inl (Rd.ext x s h)
  · exact .inr h
section
variable {K : PySem.W.Frag} {mg : Str → Option Value} {O : Addr → Prop} {H H1 : Hp} {et et1 : Hi} {W W1 : Wd}
mutual
theorem VR.ext (x : Ext O H et W H1 et1 W1) (s : Stays O H et W) : ∀ (p : PV) (v : V), VR K mg W H p v → VR K mg W1 H1 p v
  | .non, v, h => by unfold VR at *; exact h
  | .bl b, v, h => by unfold VR at *; exact h
  | .int i, v, h => by unfold VR at *; exact h
  | .str z, v, h => by unfold VR at *; exact h
  | .tup xs, v, h => by
    unfold VR at *
    obtain ⟨a, vs, e, h1, h2⟩ := h
    exact ⟨a, vs, e, SqT.ext x s h1, VRs.ext x s xs vs h2⟩
  | .lst xs, v, h => by
    unfold VR at *
    obtain ⟨a, vs, e, h1, h2, h3⟩ := h
    exact ⟨a, vs, e, x.fz a h1, x.keep a _ h2 (s.fz a h1).1 (s.fz a h1).2, VRs.ext x s xs vs h3⟩
  | .dic ks, v, h => by
    unfold VR at *
    obtain ⟨a, vs, e, h1, h2, h3⟩ := h
    exact ⟨a, vs, e, x.fz a h1, x.keep a _ h2 (s.fz a h1).1 (s.fz a h1).2, VRk.ext x s ks vs h3⟩
  | .scr ns, v, h => by
    unfold VR at *
    obtain ⟨a, e, h⟩ := h
    refine ⟨a, e, ?_⟩
    rcases h with ⟨o, h⟩ | h
    · exact .inl ⟨o, x.keep a _ h (s.frz a o _ h).1 (s.frz a o _ h).2⟩
    · exact .inr h
  | .ref n, v, h => by
    unfold VR at *
    obtain ⟨a, e, h⟩ := h
    exact ⟨a, e, x.mu_get h⟩
  | .glo z, v, h => by unfold VR at *; exact h
  | .ty t, v, h => by unfold VR at *; exact h
theorem VRs.ext (x : Ext O H et W H1 et1 W1) (s : Stays O H et W) : ∀ (p : List PV) (v : List V), VRs K mg W H p v → VRs K mg W1 H1 p v
  | [], v, h => by unfold VRs at *; exact h
  | p :: ps, vs, h => by
    unfold VRs at *
    obtain ⟨v, r, e, h1, h2⟩ := h
    exact ⟨v, r, e, VR.ext x s p v h1, VRs.ext x s ps r h2⟩
theorem VRk.ext (x : Ext O H et W H1 et1 W1) (s : Stays O H et W) : ∀ (p : List (Key × PV)) (v : List (Key × V)), VRk K mg W H p v → VRk K mg W1 H1 p v
  | [], v, h => by unfold VRk at *; exact h
  | (k, p) :: ps, vs, h => by
    unfold VRk at *
    obtain ⟨v, r, e, h1, h2⟩ := h
    exact ⟨v, r, e, VR.ext x s p v h1, VRk.ext x s ps r h2⟩
end
theorem VRf.ext (x : Ext O H et W H1 et1 W1) (s : Stays O H et W) : ∀ (p : List (Str × PV)) (v : List (Str × V)), VRf K mg W H p v → VRf K mg W1 H1 p v
  | [], v, h => by unfold VRf at *; exact h
  | (k, p) :: ps, vs, h => by
    unfold VRf at *
    obtain ⟨v, r, e, h1, h2⟩ := h
    exact ⟨v, r, e, VR.ext x s p v h1, VRf.ext x s ps r h2⟩
/-- what may change -/
def Chg : HO → Prop
  | .lst _ => True
  | .dK _ => True
  | .ins _ _ _ => True
  | _ => False
theorem Cel.live_is (c : Cel K mg H et W) {a : Addr} (h : Live et W a) : ∃ o, H a = some o ∧ Chg o := by
  obtain ⟨i, d, e1, e2, e3⟩ := h
  have q := c.ok i d a e1 e3
  cases d with
  | dead => exact absurd rfl e2
  | lst xs => obtain ⟨vs, h, _⟩ := q; exact ⟨_, h, trivial⟩
  | dic xs => obtain ⟨vs, h, _⟩ := q; exact ⟨_, h, trivial⟩
  | potO k n => obtain ⟨b, sd, ct, _, h, _⟩ := q; exact ⟨_, h, trivial⟩
  | potI => obtain ⟨is, h, _⟩ := q; exact ⟨_, h, trivial⟩
  | inv P => obtain ⟨vs, h, _⟩ := q; exact ⟨_, h, trivial⟩
  | ins k fs => obtain ⟨C, dx, gs, _, h, _⟩ := q; exact ⟨_, h, trivial⟩
theorem Cel.stays0 (c : Cel K mg H et W) : Stays NoO H et W where
  fz := fun a h => ⟨c.fzl a h, id⟩
  tup := fun a xs h => ⟨fun z => by obtain ⟨o, q, k⟩ := c.live_is z; rw [h] at q; cases q; exact k, id⟩
  frz := fun a o u h => ⟨fun z => by obtain ⟨o, q, k⟩ := c.live_is z; rw [h] at q; cases q; exact k, id⟩
theorem own_is {sg : L2.St} {ep : En} (s : Slt K mg sg ep H et W) {a : Addr} (h : Own ep sg a) : (∃ vs, H a = some (.lst vs)) ∨ ∃ ks, H a = some (.dK ks) := by
  obtain ⟨i, p, e1, e2⟩ := h
  obtain ⟨b, e, q⟩ := s.ok i _ _ e1 e2
  cases e
  unfold OwnAt at q
  split at q
  · obtain ⟨vs, h, _⟩ := q; exact .inl ⟨vs, h⟩
  · obtain ⟨vs, h, _⟩ := q; exact .inr ⟨vs, h⟩
  · cases q
theorem Slt.stays (c : Cel K mg H et W) {sg : L2.St} {ep : En} (s : Slt K mg sg ep H et W) : Stays (Own ep sg) H et W where
  fz := fun a h => ⟨c.fzl a h, fun z => s.ofz a z h⟩
  tup := fun a xs h => ⟨(c.stays0.tup a xs h).1, fun z => by rcases own_is s z with ⟨_, q⟩ | ⟨_, q⟩ <;> (rw [h] at q; cases q)⟩
  frz := fun a o u h => ⟨(c.stays0.frz a o u h).1, fun z => by rcases own_is s z with ⟨_, q⟩ | ⟨_, q⟩ <;> (rw [h] at q; cases q)⟩
theorem OwnAt.ext (x : Ext NoO H et W H1 et1 W1) (c : Cel K mg H et W) {p : PV} {a : Addr} (h : OwnAt K mg W H p a) (hl : ¬ Live et W a) : OwnAt K mg W1 H1 p a := by
  unfold OwnAt at *
  split at h
  · obtain ⟨vs, h1, h2⟩ := h; exact ⟨vs, x.keep a _ h1 hl id, VRs.ext x c.stays0 _ _ h2⟩
  · obtain ⟨vs, h1, h2⟩ := h; exact ⟨vs, x.keep a _ h1 hl id, VRk.ext x c.stays0 _ _ h2⟩
  · cases h
theorem OwnAt.there {p : PV} {a : Addr} (h : OwnAt K mg W H p a) : H a ≠ none := by
  unfold OwnAt at h
  split at h
  · obtain ⟨vs, h1, _⟩ := h; rw [h1]; simp
  · obtain ⟨vs, h1, _⟩ := h; rw [h1]; simp
  · cases h
theorem Slt.own_there {sg : L2.St} {ep : En} (s : Slt K mg sg ep H et W) {a : Addr} (h : Own ep sg a) : H a ≠ none := by
  rcases own_is s h with ⟨_, q⟩ | ⟨_, q⟩ <;> (rw [q]; simp)
/-- the local names behind an expression -/
theorem Slt.ext {sg : L2.St} {ep : En} (s : Slt K mg sg ep H et W) (c : Cel K mg H et W) (x : Ext NoO H et W H1 et1 W1) : Slt K mg sg ep H1 et1 W1 where
  len := s.len
  ok := fun i t o e1 e2 => by
    have q := s.ok i t o e1 e2
    cases t with
    | no => trivial
    | val p => obtain ⟨v, e, q⟩ := q; exact ⟨v, e, VR.ext x c.stays0 p v q⟩
    | own p => obtain ⟨a, e, q⟩ := q; exact ⟨a, e, OwnAt.ext x c q (s.oli a ⟨i, p, e1, by rw [e2, e]⟩)⟩
  inj := s.inj
  ofz := fun a h z => by
    rcases x.nfz a z with z | z | z
    · exact s.ofz a h z
    · exact s.own_there h z
    · exact z
  oli := fun a h z => by
    rcases x.live a z with z | z
    · exact s.oli a h z
    · exact s.own_there h z
end

end Mw

namespace Mw
open PySem PySem.Spec L2
/-- a value, or a list or dict that is only looked at -/
def Pk (K : PySem.W.Frag) (mg : Str → Option Value) (p : PV) (v : V) (H : Hp) (et : Hi) (W : Wd) : Prop := VR K mg W H p v ∨ ∃ a, v = .ref a ∧ ¬ Live et W a ∧ OwnAt K mg W H p a
/-! ### the judgements -/
abbrev EM (α : Type) := En → Hi → (α → Hi → Prop) → Prop
inductive Fl where
  | nx | rt (p : PV) | bk | ct
abbrev SM := En → Hi → (Fl → En → Hi → Prop) → Prop
abbrev Post (α : Type) := α → V → Hp → Hi → Wd → Hp → Hi → Wd → Prop
/-- a value -/
def pV (K : PySem.W.Frag) (mg : Str → Option Value) : Post PV := fun p v _ _ _ H' _ W' => VR K mg W' H' p v
/-- a value, or a list or dict that is only looked at -/
def pP (K : PySem.W.Frag) (mg : Str → Option Value) : Post PV := fun p v _ _ _ H' et' W' => Pk K mg p v H' et' W'
/-- a new list or dict -/
def pN (K : PySem.W.Frag) (mg : Str → Option Value) : Post PV := fun p v H _ _ H' et' W' => ∃ a, v = .ref a ∧ H a = none ∧ ¬ W'.fz a ∧ ¬ Live et' W' a ∧ OwnAt K mg W' H' p a
section
variable {K : PySem.W.Frag} {mg : Str → Option Value} {H H1 : Hp} {et et1 : Hi} {W W1 : Wd}
theorem Pk.ext (x : Ext NoO H et W H1 et1 W1) (c : Cel K mg H et W) {p : PV} {v : V} (h : Pk K mg p v H et W) : Pk K mg p v H1 et1 W1 := by
  rcases h with h | ⟨a, e, hl, h⟩
  · exact .inl (VR.ext x c.stays0 p v h)
  · refine .inr ⟨a, e, fun z => ?_, OwnAt.ext x c h hl⟩
    rcases x.live a z with z | z
    · exact hl z
    · exact h.there z

/-- a new object at p that is not shared -/
theorem Ext.new {p : Addr} {o : HO} (hp : H p = none) (W' : Wd) (hm : W'.mu = W.mu) (h1 : ∀ a, W.fz a → W'.fz a) (h2 : ∀ a, W'.fz a → W.fz a ∨ a = p) : Ext NoO H et W (upd H p o) et W' where
  fz := h1
  nfz := fun a h => (h2 a h).imp_right fun e => .inl (by rw [e]; exact hp)
  mu := ⟨[], by rw [hm]; simp⟩
  live := fun a ⟨i, c, e1, e2, e3⟩ => .inl ⟨i, c, e1, e2, by rw [hm] at e3; exact e3⟩
  keep := fun a o' h _ _ => by rw [upd_ne (ne_of_none h hp)]; exact h
  there := fun a h => by
    by_cases e : a = p
    · rw [e, upd_same]; simp
    · rw [upd_ne e]; exact h
theorem Cel.not_live (c : Cel K mg H et W) {p : Addr} (hp : H p = none) : ¬ Live et W p := fun z => by
  obtain ⟨o, q, _⟩ := c.live_is z; rw [hp] at q; cases q
theorem CellOk.ext (x : Ext NoO H et W H1 et1 W1) (s : Stays NoO H et W) {d : Cell} {a : Addr} (h : CellOk K mg W H d a) (hk : d ≠ .dead → H1 a = H a) : CellOk K mg W1 H1 d a := by
  cases d with
  | dead => trivial
  | lst xs =>
    obtain ⟨vs, h1, h2⟩ := h
    exact ⟨vs, by rw [hk (by simp)]; exact h1, VRs.ext x s _ _ h2⟩
  | dic xs =>
    obtain ⟨vs, h1, h2⟩ := h
    exact ⟨vs, by rw [hk (by simp)]; exact h1, VRk.ext x s _ _ h2⟩
  | potO k n =>
    obtain ⟨b, sd, ct, h0, h1, h2⟩ := h
    exact ⟨b, sd, ct, x.mu_get h0, by rw [hk (by simp)]; exact h1, h2⟩
  | potI =>
    obtain ⟨is, h1, h2⟩ := h
    exact ⟨is, by rw [hk (by simp)]; exact h1, h2⟩
  | inv P =>
    obtain ⟨vs, h1, h2⟩ := h
    exact ⟨vs, by rw [hk (by simp)]; exact h1, h2⟩
  | ins k fs =>
    obtain ⟨C, dx, gs, h0, h1, h2⟩ := h
    exact ⟨C, dx, gs, h0, by rw [hk (by simp)]; exact h1, VRf.ext x s _ _ h2⟩
/-- the shared objects, a new object at p -/
theorem Cel.new (c : Cel K mg H et W) {p : Addr} {o : HO} (hp : H p = none) (W' : Wd) (hm : W'.mu = W.mu) (h1 : ∀ a, W.fz a → W'.fz a) (h2 : ∀ a, W'.fz a → W.fz a ∨ a = p) : Cel K mg (upd H p o) et W' := by
  have x : Ext NoO H et W (upd H p o) et W' := Ext.new hp W' hm h1 h2
  have lv : ∀ a, Live et W' a → Live et W a := fun a ⟨i, d, e1, e2, e3⟩ => ⟨i, d, e1, e2, by rw [hm] at e3; exact e3⟩
  refine ⟨by rw [hm]; exact c.len, fun i d a e1 e2 => ?_, fun i j d d' a e1 e2 e3 e4 e5 e6 => c.inj i j d d' a e1 e2 e3 e4 (by rw [hm] at e5; exact e5) (by rw [hm] at e6; exact e6), fun a h z => ?_, fun a h => ?_⟩
  · rw [hm] at e2
    refine CellOk.ext x c.stays0 (c.ok i d a e1 e2) fun hd => upd_ne fun e => ?_
    exact c.not_live hp ⟨i, d, e1, hd, by rw [← e]; exact e2⟩
  · rcases h2 a h with h | h
    · exact c.fzl a h (lv a z)
    · exact c.not_live hp (h ▸ lv a z)
  · rcases h2 a h with h | h
    · exact x.there a (c.fzh a h)
    · rw [h, upd_same]; simp
abbrev Wd.add (W : Wd) (p : Addr) : Wd := ⟨fun a => W.fz a ∨ a = p, W.mu⟩
theorem VRs.len : ∀ {ps : List PV} {vs : List V}, VRs K mg W H ps vs → ps.length = vs.length
  | [], vs, h => by unfold VRs at h; rw [h]; rfl
  | p :: ps, vs, h => by
    unfold VRs at h
    obtain ⟨v, r, e, _, h2⟩ := h
    rw [e, List.length_cons, List.length_cons, VRs.len h2]
theorem VRs.get : ∀ {ps : List PV} {vs : List V} {i : Nat} {p : PV}, VRs K mg W H ps vs → ps[i]? = some p → ∃ v, vs[i]? = some v ∧ VR K mg W H p v
  | [], vs, i, p, _, e => by simp at e
  | q :: ps, vs, 0, p, h, e => by
    unfold VRs at h
    obtain ⟨v, r, e1, h1, h2⟩ := h
    simp at e; subst e
    exact ⟨v, by rw [e1]; rfl, h1⟩
  | q :: ps, vs, i + 1, p, h, e => by
    unfold VRs at h
    obtain ⟨v, r, e1, h1, h2⟩ := h
    obtain ⟨u, e2, h3⟩ := VRs.get h2 (i := i) (p := p) (by simpa using e)
    exact ⟨u, by rw [e1]; simpa using e2, h3⟩
theorem VRs.cons {p : PV} {ps : List PV} {v : V} {vs : List V} (h : VR K mg W H p v) (r : VRs K mg W H ps vs) : VRs K mg W H (p :: ps) (v :: vs) := by
  unfold VRs; exact ⟨v, vs, rfl, h, r⟩
theorem VRs.nil : VRs K mg W H [] [] := by unfold VRs; rfl
theorem VRs.append : ∀ {ps qs : List PV} {vs ws : List V}, VRs K mg W H ps vs → VRs K mg W H qs ws → VRs K mg W H (ps ++ qs) (vs ++ ws)
  | [], qs, vs, ws, h, r => by unfold VRs at h; rw [h]; exact r
  | p :: ps, qs, vs, ws, h, r => by
    unfold VRs at h
    obtain ⟨v, t, e, h1, h2⟩ := h
    rw [e]
    exact VRs.cons h1 (VRs.append h2 r)
theorem VRs.take : ∀ (n : Nat) {ps : List PV} {vs : List V}, VRs K mg W H ps vs → VRs K mg W H (ps.take n) (vs.take n)
  | 0, _, _, _ => by simpa using VRs.nil
  | n + 1, [], vs, h => by unfold VRs at h; rw [h]; simpa using VRs.nil
  | n + 1, p :: ps, vs, h => by
    unfold VRs at h
    obtain ⟨v, t, e, h1, h2⟩ := h
    rw [e]
    exact VRs.cons h1 (VRs.take n h2)
theorem VRs.drop : ∀ (n : Nat) {ps : List PV} {vs : List V}, VRs K mg W H ps vs → VRs K mg W H (ps.drop n) (vs.drop n)
  | 0, _, _, h => by simpa using h
  | n + 1, [], vs, h => by unfold VRs at h; rw [h]; simpa using VRs.nil
  | n + 1, p :: ps, vs, h => by
    unfold VRs at h
    obtain ⟨v, t, e, h1, h2⟩ := h
    rw [e]
    exact VRs.drop n h2
theorem VRs.set : ∀ (i : Nat) {ps : List PV} {vs : List V} {p : PV} {v : V}, VRs K mg W H ps vs → VR K mg W H p v → VRs K mg W H (ps.set i p) (vs.set i v)
  | _, [], vs, p, v, h, _ => by unfold VRs at h; rw [h]; simpa using VRs.nil
  | 0, q :: ps, vs, p, v, h, r => by
    unfold VRs at h
    obtain ⟨u, t, e, h1, h2⟩ := h
    rw [e]
    exact VRs.cons r h2
  | i + 1, q :: ps, vs, p, v, h, r => by
    unfold VRs at h
    obtain ⟨u, t, e, h1, h2⟩ := h
    rw [e]
    exact VRs.cons h1 (VRs.set i h2 r)
theorem VRs.erase : ∀ (i : Nat) {ps : List PV} {vs : List V}, VRs K mg W H ps vs → VRs K mg W H (ps.eraseIdx i) (vs.eraseIdx i)
  | _, [], vs, h => by unfold VRs at h; rw [h]; simpa using VRs.nil
  | 0, q :: ps, vs, h => by
    unfold VRs at h
    obtain ⟨u, t, e, h1, h2⟩ := h
    rw [e]
    exact h2
  | i + 1, q :: ps, vs, h => by
    unfold VRs at h
    obtain ⟨u, t, e, h1, h2⟩ := h
    rw [e]
    exact VRs.cons h1 (VRs.erase i h2)
theorem VRs.reverse : ∀ {ps : List PV} {vs : List V}, VRs K mg W H ps vs → VRs K mg W H ps.reverse vs.reverse
  | [], vs, h => by unfold VRs at h; rw [h]; simpa using VRs.nil
  | q :: ps, vs, h => by
    unfold VRs at h
    obtain ⟨u, t, e, h1, h2⟩ := h
    rw [e, List.reverse_cons, List.reverse_cons]
    exact VRs.append (VRs.reverse h2) (VRs.cons h1 VRs.nil)
theorem VRs.rep {ps : List PV} {vs : List V} (h : VRs K mg W H ps vs) : ∀ n : Nat, VRs K mg W H (List.replicate n ps).flatten (List.replicate n vs).flatten
  | 0 => by simpa using VRs.nil
  | n + 1 => by
    rw [List.replicate_succ, List.replicate_succ, List.flatten_cons, List.flatten_cons]
    exact VRs.append h (VRs.rep h n)
/-- a new tuple -/
theorem new_tup (c : Cel K mg H et W) {p : Addr} (hp : H p = none) {ps : List PV} {vs : List V} (h : VRs K mg W H ps vs) :
    Ext NoO H et W (upd H p (.tup vs)) et W ∧ Cel K mg (upd H p (.tup vs)) et W ∧ VR K mg W (upd H p (.tup vs)) (.tup ps) (.ref p) := by
  have x : Ext NoO H et W (upd H p (.tup vs)) et W := Ext.new hp W rfl (fun _ h => h) fun _ h => .inl h
  refine ⟨x, c.new hp W rfl (fun _ h => h) fun _ h => .inl h, ?_⟩
  unfold VR
  exact ⟨p, vs, rfl, .inl (.inl upd_same), VRs.ext x c.stays0 _ _ h⟩
/-- a new list, frozen at once -/
theorem new_lst (c : Cel K mg H et W) {p : Addr} (hp : H p = none) {ps : List PV} {vs : List V} (h : VRs K mg W H ps vs) :
    Ext NoO H et W (upd H p (.lst vs)) et (W.add p) ∧ Cel K mg (upd H p (.lst vs)) et (W.add p) ∧ VR K mg (W.add p) (upd H p (.lst vs)) (.lst ps) (.ref p) := by
  have x : Ext NoO H et W (upd H p (.lst vs)) et (W.add p) := Ext.new hp (W.add p) rfl (fun _ h => .inl h) fun _ h => h
  refine ⟨x, c.new hp _ rfl (fun _ h => .inl h) fun _ h => h, ?_⟩
  unfold VR
  exact ⟨p, vs, rfl, .inr rfl, upd_same, VRs.ext x c.stays0 _ _ h⟩
/-- a new list that none else holds -/
theorem new_own (c : Cel K mg H et W) {p : Addr} (hp : H p = none) {ps : List PV} {vs : List V} (h : VRs K mg W H ps vs) :
    Ext NoO H et W (upd H p (.lst vs)) et W ∧ Cel K mg (upd H p (.lst vs)) et W ∧ pN K mg (.lst ps) (.ref p) H et W (upd H p (.lst vs)) et W := by
  have x : Ext NoO H et W (upd H p (.lst vs)) et W := Ext.new hp W rfl (fun _ h => h) fun _ h => .inl h
  refine ⟨x, c.new hp W rfl (fun _ h => h) fun _ h => .inl h, p, rfl, hp, fun z => c.fzh p z hp, ?_, ?_⟩
  · exact c.not_live hp
  · exact ⟨vs, upd_same, VRs.ext x c.stays0 _ _ h⟩
theorem OwnAt.kind {p : PV} {a : Addr} (h : OwnAt K mg W H p a) : (∃ vs, H a = some (.lst vs)) ∨ ∃ ks, H a = some (.dK ks) := by
  unfold OwnAt at h
  split at h
  · obtain ⟨vs, h, _⟩ := h; exact .inl ⟨vs, h⟩
  · obtain ⟨vs, h, _⟩ := h; exact .inr ⟨vs, h⟩
  · cases h
/-- a list or dict that none else holds is frozen -/
theorem Cel.freeze (c : Cel K mg H et W) {a : Addr} {q : PV} (hl : ¬ Live et W a) (hf : ¬ W.fz a) (hq : OwnAt K mg W H q a) :
    Cel K mg H et (W.add a) ∧ (∀ p v, VR K mg W H p v → VR K mg (W.add a) H p v) ∧ VR K mg (W.add a) H q (.ref a) := by
  have x : Ext (fun b => b = a) H et W H et (W.add a) := ⟨fun _ h => .inl h, fun b h => h.imp_right fun h => .inr h, ⟨[], by simp⟩, fun _ h => .inl h, fun _ _ h _ _ => h, fun _ h => h⟩
  have s : Stays (fun b => b = a) H et W := ⟨fun b h => ⟨c.fzl b h, fun e => hf (e ▸ h)⟩, fun b xs h => ⟨(c.stays0.tup b xs h).1, fun e => by
    rcases hq.kind with ⟨_, k⟩ | ⟨_, k⟩ <;> (rw [← e, h] at k; cases k)⟩, fun b o u h => ⟨(c.stays0.frz b o u h).1, fun e => by
    rcases hq.kind with ⟨_, k⟩ | ⟨_, k⟩ <;> (rw [← e, h] at k; cases k)⟩⟩
  refine ⟨⟨c.len, fun i d b e1 e2 => ?_, c.inj, fun b h z => ?_, fun b h => ?_⟩, fun p v h => VR.ext x s p v h, ?_⟩
  · have k := c.ok i d b e1 e2
    cases d with
    | dead => trivial
    | lst xs => obtain ⟨vs, h1, h2⟩ := k; exact ⟨vs, h1, VRs.ext x s _ _ h2⟩
    | dic xs => obtain ⟨vs, h1, h2⟩ := k; exact ⟨vs, h1, VRk.ext x s _ _ h2⟩
    | potO t n => exact k
    | potI => exact k
    | inv P => exact k
    | ins t fs => obtain ⟨C, dx, gs, h0, h1, h2⟩ := k; exact ⟨C, dx, gs, h0, h1, VRf.ext x s _ _ h2⟩
  · rcases h with h | h
    · exact c.fzl b h z
    · exact hl (h ▸ z)
  · rcases h with h | h
    · exact c.fzh b h
    · rw [h]; exact hq.there
  · unfold OwnAt at hq
    split at hq
    · obtain ⟨vs, h1, h2⟩ := hq
      unfold VR
      exact ⟨a, vs, rfl, .inr rfl, h1, VRs.ext x s _ _ h2⟩
    · obtain ⟨vs, h1, h2⟩ := hq
      unfold VR
      exact ⟨a, vs, rfl, .inr rfl, h1, VRk.ext x s _ _ h2⟩
    · cases hq
end

end Mw

namespace Mw
open PySem PySem.Spec L2

/-! ### readings out of the mirror's steps: m is a wish transformer -/
section
variable (K : PySem.W.Frag) (mg : Str → Option Value)
def tI (P : Post PV) (m : EM PV) : TE := fun sg H Q => ∃ ep et W R, Cel K mg H et W ∧ Slt K mg sg ep H et W ∧ m ep et R ∧
  ∀ a et', R a et' → ∀ v H' W', Ext NoO H et W H' et' W' → Cel K mg H' et' W' → P a v H et W H' et' W' → Q v H'
def tT (m : EM Bool) : TT := fun sg H Q => ∃ ep et W R, Cel K mg H et W ∧ Slt K mg sg ep H et W ∧ m ep et R ∧
  ∀ b et', R b et' → ∀ H' W', Ext NoO H et W H' et' W' → Cel K mg H' et' W' → Q b H'
/-- some values, or things looked at -/
def Pks : List PV → List V → Hp → Hi → Wd → Prop
  | [], vs, _, _, _ => vs = []
  | p :: ps, vs, H, et, W => ∃ v r, vs = v :: r ∧ Pk K mg p v H et W ∧ Pks ps r H et W
def tL (m : EM (List PV)) : TA := fun sg H Q => ∃ ep et W R, Cel K mg H et W ∧ Slt K mg sg ep H et W ∧ m ep et R ∧
  ∀ a et', R a et' → ∀ vs H' W', Ext NoO H et W H' et' W' → Cel K mg H' et' W' → VRs K mg W' H' a vs → Q vs H'
def tLP (m : EM (List PV)) : TA := fun sg H Q => ∃ ep et W R, Cel K mg H et W ∧ Slt K mg sg ep H et W ∧ m ep et R ∧
  ∀ a et', R a et' → ∀ vs H' W', Ext NoO H et W H' et' W' → Cel K mg H' et' W' → Pks K mg a vs H' et' W' → Q vs H'
def FlEnd (D : Ends) (ep : En) (sg : L2.St) (H : Hp) : Fl → En → L2.St → Hp → Hi → Wd → Prop
  | .nx, ep', sg', H', et', W' => Slt K mg sg' ep' H' et' W' → (∀ a, Own ep' sg' a → Own ep sg a ∨ H a = none) → D.nx sg' H'
  | .bk, ep', sg', H', et', W' => Slt K mg sg' ep' H' et' W' → (∀ a, Own ep' sg' a → Own ep sg a ∨ H a = none) → D.bk sg' H'
  | .ct, ep', sg', H', et', W' => Slt K mg sg' ep' H' et' W' → (∀ a, Own ep' sg' a → Own ep sg a ∨ H a = none) → D.ct sg' H'
  | .rt p, _, _, H', _, W' => ∀ v, VR K mg W' H' p v → D.rt v H'
def tS (m : SM) : TS := fun D sg H => ∃ ep et W R, Cel K mg H et W ∧ Slt K mg sg ep H et W ∧ m ep et R ∧
  ∀ f ep' et', R f ep' et' → ∀ sg' H' W', Ext (Own ep sg) H et W H' et' W' → Cel K mg H' et' W' → FlEnd K mg D ep sg H f ep' sg' H' et' W'
end
abbrev SimE (X : Cx) (e : Expr) (m : EM PV) : Prop := PE X e (tI X.K X.mg (pV X.K X.mg) m)
abbrev SimP (X : Cx) (e : Expr) (m : EM PV) : Prop := PE X e (tI X.K X.mg (pP X.K X.mg) m)
abbrev SimN (X : Cx) (e : Expr) (m : EM PV) : Prop := PE X e (tI X.K X.mg (pN X.K X.mg) m)
abbrev SimT (X : Cx) (e : Expr) (m : EM Bool) : Prop := PT X e (tT X.K X.mg m)
abbrev SimW (X : Cx) (e : Expr) (m : EM Bool) : Prop := PW X e (tT X.K X.mg m)
abbrev SimA (X : Cx) (es : List Expr) (m : EM (List PV)) : Prop := PA X es (tL X.K X.mg m)
abbrev SimAP (X : Cx) (es : List Expr) (m : EM (List PV)) : Prop := PA X es (tLP X.K X.mg m)
abbrev SimS (X : Cx) (st : Stmt) (m : SM) : Prop := PS X st (tS X.K X.mg m)
abbrev SimSs (X : Cx) (st : List Stmt) (m : SM) : Prop := PSs X st (tS X.K X.mg m)

theorem weakE {X : Cx} {e : Expr} {t u : TE} (h : PE X e t) (w : ∀ σ H Q, u σ H Q → t σ H Q) : PE X e u := ⟨fun pins s σ H Q I q => h.run pins s σ H Q I (w σ H Q q)⟩
theorem weakT {X : Cx} {e : Expr} {t u : TT} (h : PT X e t) (w : ∀ σ H Q, u σ H Q → t σ H Q) : PT X e u := ⟨fun pins s σ H Q I q => h.run pins s σ H Q I (w σ H Q q)⟩
theorem weakW {X : Cx} {e : Expr} {t u : TT} (h : PW X e t) (w : ∀ σ H Q, u σ H Q → t σ H Q) : PW X e u := ⟨fun wh pins s σ H Q I q => h.run wh pins s σ H Q I (w σ H Q q)⟩
theorem weakA {X : Cx} {e : List Expr} {t u : TA} (h : PA X e t) (w : ∀ σ H Q, u σ H Q → t σ H Q) : PA X e u := ⟨fun pos pins s σ H Q I q => h.run pos pins s σ H Q I (w σ H Q q)⟩
theorem weakS {X : Cx} {e : Stmt} {t u : TS} (h : PS X e t) (w : ∀ D σ H, u D σ H → t D σ H) : PS X e u := ⟨fun pins s σ H D I q => h.run pins s σ H D I (w D σ H q)⟩
theorem weakSs {X : Cx} {e : List Stmt} {t u : TS} (h : PSs X e t) (w : ∀ D σ H, u D σ H → t D σ H) : PSs X e u := ⟨fun pins s σ H D I q => h.run pins s σ H D I (w D σ H q)⟩

/-! ### what is looked at -/
section
variable {K : PySem.W.Frag} {mg : Str → Option Value} {H H1 : Hp} {et et1 : Hi} {W W1 : Wd}
theorem Pks.ext (x : Ext NoO H et W H1 et1 W1) (c : Cel K mg H et W) : ∀ {ps : List PV} {vs : List V}, Pks K mg ps vs H et W → Pks K mg ps vs H1 et1 W1
  | [], _, h => h
  | _ :: _, _, ⟨v, r, e, h, t⟩ => ⟨v, r, e, Pk.ext x c h, Pks.ext x c t⟩
theorem Pks.of : ∀ {ps : List PV} {vs : List V}, VRs K mg W H ps vs → Pks K mg ps vs H et W
  | [], vs, h => by unfold VRs at h; exact h
  | p :: ps, vs, h => by
    unfold VRs at h
    obtain ⟨v, r, e, h1, h2⟩ := h
    exact ⟨v, r, e, .inl h1, Pks.of h2⟩
/-- what a reference stands for, where that is a list or a dict -/
def deref (et : Hi) : PV → PV
  | .ref n => match et[n]? with
    | some (.lst xs) => .lst xs
    | some (.dic ks) => .dic ks
    | _ => .ref n
  | p => p
/-- an object's content -/
def Cont (K : PySem.W.Frag) (mg : Str → Option Value) (W : Wd) (H : Hp) : PV → HO → Prop
  | .lst xs, .lst vs => VRs K mg W H xs vs
  | .dic ks, .dK vs => VRk K mg W H ks vs
  | _, _ => False
theorem Pk.der (c : Cel K mg H et W) {p : PV} {v : V} (h : Pk K mg p v H et W) : Pk K mg p v H et W ∧ (Mw.deref et p = p ∨ ∃ a o n, p = .ref n ∧ v = .ref a ∧ W.mu[n]? = some a ∧ H a = some o ∧ Cont K mg W H (Mw.deref et p) o) := by
  refine ⟨h, ?_⟩
  cases p with
  | ref n =>
    rcases h with h | ⟨a, _, _, h⟩
    · unfold VR at h
      obtain ⟨a, e, hm⟩ := h
      cases q : et[n]? with
      | none => exact .inl (by simp only [Mw.deref, q])
      | some d =>
        cases d with
        | lst xs =>
          obtain ⟨vs, h1, h2⟩ := c.ok n _ a q hm
          exact .inr ⟨a, _, n, rfl, e, hm, h1, by simp only [Mw.deref, q]; exact h2⟩
        | dic xs =>
          obtain ⟨vs, h1, h2⟩ := c.ok n _ a q hm
          exact .inr ⟨a, _, n, rfl, e, hm, h1, by simp only [Mw.deref, q]; exact h2⟩
        | _ => exact .inl (by simp only [Mw.deref, q])
    · unfold OwnAt at h; cases h
  | _ => exact .inl rfl
theorem Pk.lst (c : Cel K mg H et W) {p : PV} {v : V} (h : Pk K mg p v H et W) {xs : List PV} (e : Mw.deref et p = .lst xs) : ∃ a vs, v = .ref a ∧ H a = some (.lst vs) ∧ VRs K mg W H xs vs := by
  rcases (h.der c).2 with d | ⟨a, o, n, _, ev, _, ho, hc⟩
  · rw [d] at e
    subst e
    rcases h with h | ⟨a, ev, _, h⟩
    · unfold VR at h
      obtain ⟨a, vs, ev, _, h1, h2⟩ := h
      exact ⟨a, vs, ev, h1, h2⟩
    · obtain ⟨vs, h1, h2⟩ := h
      exact ⟨a, vs, ev, h1, h2⟩
  · rw [e] at hc
    cases o with
    | lst vs => exact ⟨a, vs, ev, ho, hc⟩
    | _ => exact hc.elim
theorem Pk.dic (c : Cel K mg H et W) {p : PV} {v : V} (h : Pk K mg p v H et W) {xs : List (Key × PV)} (e : Mw.deref et p = .dic xs) : ∃ a vs, v = .ref a ∧ H a = some (.dK vs) ∧ VRk K mg W H xs vs := by
  rcases (h.der c).2 with d | ⟨a, o, n, _, ev, _, ho, hc⟩
  · rw [d] at e
    subst e
    rcases h with h | ⟨a, ev, _, h⟩
    · unfold VR at h
      obtain ⟨a, vs, ev, _, h1, h2⟩ := h
      exact ⟨a, vs, ev, h1, h2⟩
    · obtain ⟨vs, h1, h2⟩ := h
      exact ⟨a, vs, ev, h1, h2⟩
  · rw [e] at hc
    cases o with
    | dK vs => exact ⟨a, vs, ev, ho, hc⟩
    | _ => exact hc.elim
/-- a value that is no list, dict or reference -/
def Plain : PV → Bool
  | .lst _ => false
  | .dic _ => false
  | .ref _ => false
  | _ => true
theorem deref_plain {p q : PV} (e : Mw.deref et p = q) (hq : Plain q = true) : p = q := by
  cases p with
  | ref n =>
    unfold Mw.deref at e
    simp only at e
    split at e <;> (subst e; cases hq)
  | _ => exact e
theorem Pk.val {p : PV} {v : V} (h : Pk K mg p v H et W) {q : PV} (e : Mw.deref et p = q) (hq : Plain q = true) : VR K mg W H q v := by
  have e' := deref_plain e hq
  subst e'
  rcases h with h | ⟨a, _, _, h⟩
  · exact h
  · unfold OwnAt at h
    split at h
    · cases hq
    · cases hq
    · cases h
theorem Pk.tup {p : PV} {v : V} (h : Pk K mg p v H et W) {xs : List PV} (e : Mw.deref et p = .tup xs) : ∃ a vs, v = .ref a ∧ SqT K H a vs ∧ VRs K mg W H xs vs := by
  have q := h.val e rfl
  unfold VR at q; exact q
theorem Pk.int {p : PV} {v : V} (h : Pk K mg p v H et W) {i : Int} (e : Mw.deref et p = .int i) : v = .int i := by
  have q := h.val e rfl
  unfold VR at q; exact q
theorem Pk.str {p : PV} {v : V} (h : Pk K mg p v H et W) {i : Str} (e : Mw.deref et p = .str i) : v = .str i := by
  have q := h.val e rfl
  unfold VR at q; exact q
theorem Pk.bl {p : PV} {v : V} (h : Pk K mg p v H et W) {i : Bool} (e : Mw.deref et p = .bl i) : v = .bl i := by
  have q := h.val e rfl
  unfold VR at q; exact q
theorem Pk.non {p : PV} {v : V} (h : Pk K mg p v H et W) (e : Mw.deref et p = .non) : v = .non := by
  have q := h.val e rfl
  unfold VR at q; exact q
theorem Pk.scr {p : PV} {v : V} (h : Pk K mg p v H et W) {ns : List Int} (e : Mw.deref et p = .scr ns) : ∃ a, v = .ref a ∧ Scr K H a (ns.map V.int) := by
  have q := h.val e rfl
  unfold VR at q; exact q
theorem Scr.sq {a : Addr} {xs : List V} (h : Scr K H a xs) : SqL K H a xs := by
  rcases h with h | h
  · exact .inl (.inr h)
  · exact .inr h
end

/-! ### from one judgement to another -/
section
variable {X : Cx} {ex : Expr} {m : EM PV}
theorem SimE.p (h : SimE X ex m) : SimP X ex m := weakE h fun σ H Q ⟨ep, et, W, R, c, s, e, q⟩ => ⟨ep, et, W, R, c, s, e, fun a et' r v H' W' x c' p => q a et' r v H' W' x c' (.inl p)⟩
theorem SimN.p (h : SimN X ex m) : SimP X ex m := weakE h fun σ H Q ⟨ep, et, W, R, c, s, e, q⟩ => ⟨ep, et, W, R, c, s, e, fun a et' r v H' W' x c' p => by
  obtain ⟨b, e1, _, _, h2, h3⟩ := p
  exact q a et' r v H' W' x c' (.inr ⟨b, e1, h2, h3⟩)⟩
theorem SimN.e (h : SimN X ex m) : SimE X ex m := weakE h fun σ H Q ⟨ep, et, W, R, c, s, e, q⟩ => ⟨ep, et, W, R, c, s, e, fun a et' r v H' W' x c' p => by
  obtain ⟨b, e1, h0, hf, h2, h3⟩ := p
  obtain ⟨c2, _, r2⟩ := c'.freeze h2 hf h3
  subst e1
  refine q a et' r _ H' (W'.add b) ⟨fun a h => .inl (x.fz a h), fun a h => ?_, x.mu, x.live, x.keep, x.there⟩ c2 r2
  rcases h with h | h
  · exact x.nfz a h
  · exact .inr (.inl (h ▸ h0))⟩

/-! ### names and constants -/
def mVar (i : Nat) : EM PV := fun ep et R => ∃ p, ep[i]? = some (.val p) ∧ R p et
def slotV : Option Slot → Option PV
  | some (.val p) => some p
  | some (.own p) => some p
  | _ => none
def mPeek (i : Nat) : EM PV := fun ep et R => ∃ p, slotV ep[i]? = some p ∧ R p et
def mC (p : PV) : EM PV := fun _ et R => R p et
theorem sE_var {i : Nat} (h : PE X ex (tVar i)) : SimE X ex (mVar i) := weakE h fun σ H Q ⟨ep, et, W, R, c, s, ⟨p, e, r⟩, q⟩ => by
  have hl : i < σ.length := by rw [← s.len]; exact (List.getElem?_eq_some_iff.mp e).1
  obtain ⟨v, ev, hv⟩ := s.ok i _ _ e (List.getElem?_eq_getElem hl)
  exact ⟨v, by rw [List.getElem?_eq_getElem hl, ev], q p et r v H W (Ext.refl ..) c hv⟩
theorem sP_var {i : Nat} (h : PE X ex (tVar i)) : SimP X ex (mPeek i) := weakE h fun σ H Q ⟨ep, et, W, R, c, s, ⟨p, e, r⟩, q⟩ => by
  unfold slotV at e
  split at e
  · rename_i t hp
    cases e
    have hl : i < σ.length := by rw [← s.len]; exact (List.getElem?_eq_some_iff.mp hp).1
    obtain ⟨v, ev, hv⟩ := s.ok i _ _ hp (List.getElem?_eq_getElem hl)
    exact ⟨v, by rw [List.getElem?_eq_getElem hl, ev], q p et r v H W (Ext.refl ..) c (.inl hv)⟩
  · rename_i t hp
    cases e
    have hl : i < σ.length := by rw [← s.len]; exact (List.getElem?_eq_some_iff.mp hp).1
    obtain ⟨a, ev, hv⟩ := s.ok i _ _ hp (List.getElem?_eq_getElem hl)
    have hσ : σ[i]? = some (some (.ref a)) := by rw [List.getElem?_eq_getElem hl, ev]
    exact ⟨.ref a, hσ, q p et r _ H W (Ext.refl ..) c (.inr ⟨a, rfl, s.oli a ⟨i, p, hp, hσ⟩, hv⟩)⟩
  · cases e
theorem sE_c {v : V} {p : PV} (h : PE X ex (tC v)) (hv : ∀ W H, VR X.K X.mg W H p v) : SimE X ex (mC p) := weakE h fun σ H Q ⟨ep, et, W, R, c, s, r, q⟩ =>
  q p et r v H W (Ext.refl ..) c (hv W H)
theorem sE_int {i j pos} : SimE X (.Constant (.int i) j pos) (mC (.int i)) := sE_c pe_int fun _ _ => by unfold VR; rfl
theorem sE_bl {i j pos} : SimE X (.Constant (.bool i) j pos) (mC (.bl i)) := sE_c pe_bl fun _ _ => by unfold VR; rfl
theorem sE_str {i j pos} : SimE X (.Constant (.str i) j pos) (mC (.str i)) := sE_c pe_str fun _ _ => by unfold VR; rfl
theorem sE_non {j pos} : SimE X (.Constant .none j pos) (mC .non) := sE_c pe_non fun _ _ => by unfold VR; rfl
/-- a module's constant -/
theorem sE_glob {x : Str} {p : PV} {v : V} {u : Value} {pos : Pos} (hg : Gl X x) (hm : X.mg x = some u) (r : RelV v u) (hv : ∀ W H, VR X.K X.mg W H p v) (hd : (x == ("__debug__" : Str)) = false := by decide) : SimE X (.Name x pos) (mC p) :=
  sE_c (pe_glob hg hm r hd) hv

/-! ### operators by values -/
def Op2 (K : PySem.W.Frag) (mg : Str → Option Value) (R : R2) (g : PV → PV → Option PV) (P : Post PV) : Prop :=
  ∀ (x y : V) (H : Hp) (et : Hi) (W : Wd) (p q z : PV) (Q : VK), Cel K mg H et W → Pk K mg p x H et W → Pk K mg q y H et W → g (deref et p) (deref et q) = some z →
    (∀ v H' W', Ext NoO H et W H' et W' → Cel K mg H' et W' → P z v H et W H' et W' → Q v H') → R x y H Q
def Op1 (K : PySem.W.Frag) (mg : Str → Option Value) (R : V → Hp → VK → Prop) (g : PV → Option PV) (P : Post PV) : Prop :=
  ∀ (x : V) (H : Hp) (et : Hi) (W : Wd) (p z : PV) (Q : VK), Cel K mg H et W → Pk K mg p x H et W → g (deref et p) = some z →
    (∀ v H' W', Ext NoO H et W H' et W' → Cel K mg H' et W' → P z v H et W H' et W' → Q v H') → R x H Q
def OpA (K : PySem.W.Frag) (mg : Str → Option Value) (R : List V → Hp → VK → Prop) (g : List PV → Option PV) (P : Post PV) : Prop :=
  ∀ (xs : List V) (H : Hp) (et : Hi) (W : Wd) (ps : List PV) (z : PV) (Q : VK), Cel K mg H et W → Pks K mg ps xs H et W → g (ps.map (deref et)) = some z →
    (∀ v H' W', Ext NoO H et W H' et W' → Cel K mg H' et W' → P z v H et W H' et W' → Q v H') → R xs H Q
/-- what a post says of the end's state alone, or of new things, stands from an earlier start, too -/
def Early (P : Post PV) : Prop := ∀ p v H0 et0 W0 H et W H' et' W', Ext NoO H0 et0 W0 H et W → P p v H et W H' et' W' → P p v H0 et0 W0 H' et' W'
theorem early_V {K : PySem.W.Frag} {mg : Str → Option Value} : Early (pV K mg) := fun _ _ _ _ _ _ _ _ _ _ _ _ h => h
theorem early_P {K : PySem.W.Frag} {mg : Str → Option Value} : Early (pP K mg) := fun _ _ _ _ _ _ _ _ _ _ _ _ h => h
theorem early_N {K : PySem.W.Frag} {mg : Str → Option Value} : Early (pN K mg) := fun p v H0 et0 W0 H et W H' et' W' x h => by
  obtain ⟨a, e, h0, r⟩ := h
  refine ⟨a, e, ?_, r⟩
  cases q : H0 a with
  | none => rfl
  | some o => exact absurd h0 (x.there a (by rw [q]; simp))
def mBin (g : PV → PV → Option PV) (ma mb : EM PV) : EM PV := fun ep et R => ma ep et fun a et1 => mb ep et1 fun b et2 => ∃ z, g (deref et2 a) (deref et2 b) = some z ∧ R z et2
def mUn (g : PV → Option PV) (ma : EM PV) : EM PV := fun ep et R => ma ep et fun a et1 => ∃ z, g (deref et1 a) = some z ∧ R z et1
def mArg (g : List PV → Option PV) (ma : EM (List PV)) : EM PV := fun ep et R => ma ep et fun a et1 => ∃ z, g (a.map (deref et1)) = some z ∧ R z et1
theorem Ext.NoO_trans {H H1 H2 : Hp} {et et1 et2 : Hi} {W W1 W2 : Wd} (x : Ext NoO H et W H1 et1 W1) (y : Ext NoO H1 et1 W1 H2 et2 W2) : Ext NoO H et W H2 et2 W2 := x.trans y fun _ h => .inl h
theorem bin_weak {a b : Expr} {ma mb : EM PV} {R : R2} {g : PV → PV → Option PV} {P : Post PV} (he : Early P) (h : PE X ex (tOp R (tI X.K X.mg (pP X.K X.mg) ma) (tI X.K X.mg (pP X.K X.mg) mb))) (hg : Op2 X.K X.mg R g P) :
    PE X ex (tI X.K X.mg P (mBin g ma mb)) := weakE h fun σ H Q ⟨ep, et, W, R0, c, s, e, q⟩ => by
  refine ⟨ep, et, W, _, c, s, e, fun p et1 r1 v H1 W1 x1 c1 p1 => ⟨ep, et1, W1, _, c1, s.ext c x1, r1, fun p' et2 r2 u H2 W2 x2 c2 p2 => ?_⟩⟩
  obtain ⟨z, hz, r3⟩ := r2
  refine hg v u H2 et2 W2 p p' z Q c2 (Pk.ext x2 c1 p1) p2 hz fun w H3 W3 x3 c3 p3 => ?_
  have x12 := x1.NoO_trans x2
  exact q z et2 r3 w H3 W3 (x12.NoO_trans x3) c3 (he _ _ _ _ _ _ _ _ _ _ _ x12 p3)
theorem un_weak {ma : EM PV} {R : V → Hp → VK → Prop} {g : PV → Option PV} {P : Post PV} (he : Early P) (h : PE X ex (tUn R (tI X.K X.mg (pP X.K X.mg) ma))) (hg : Op1 X.K X.mg R g P) :
    PE X ex (tI X.K X.mg P (mUn g ma)) := weakE h fun σ H Q ⟨ep, et, W, R0, c, s, e, q⟩ => by
  refine ⟨ep, et, W, _, c, s, e, fun p et1 r1 v H1 W1 x1 c1 p1 => ?_⟩
  obtain ⟨z, hz, r3⟩ := r1
  refine hg v H1 et1 W1 p z Q c1 p1 hz fun w H3 W3 x3 c3 p3 => ?_
  exact q z et1 r3 w H3 W3 (x1.NoO_trans x3) c3 (he _ _ _ _ _ _ _ _ _ _ _ x1 p3)
theorem arg_weak {ma : EM (List PV)} {R : List V → Hp → VK → Prop} {g : List PV → Option PV} {P : Post PV} (he : Early P) (h : PE X ex (tCB R (tLP X.K X.mg ma))) (hg : OpA X.K X.mg R g P) :
    PE X ex (tI X.K X.mg P (mArg g ma)) := weakE h fun σ H Q ⟨ep, et, W, R0, c, s, e, q⟩ => by
  refine ⟨ep, et, W, _, c, s, e, fun p et1 r1 v H1 W1 x1 c1 p1 => ?_⟩
  obtain ⟨z, hz, r3⟩ := r1
  refine hg v H1 et1 W1 p z Q c1 p1 hz fun w H3 W3 x3 c3 p3 => ?_
  exact q z et1 r3 w H3 W3 (x1.NoO_trans x3) c3 (he _ _ _ _ _ _ _ _ _ _ _ x1 p3)
/-- a + b, a in b, a < b and the like -/
theorem sE_op {a b : Expr} {op : Operator} {pos : Pos} {ma mb : EM PV} {R : R2} {g : PV → PV → Option PV} (ho : OpR X (binaryOp op) R) (hg : Op2 X.K X.mg R g (pV X.K X.mg)) (ha : SimP X a ma) (hb : SimP X b mb) : SimE X (.BinOp a op b pos) (mBin g ma mb) :=
  bin_weak (a := a) (b := b) early_V (pe_op ho ha hb) hg
theorem sN_op {a b : Expr} {op : Operator} {pos : Pos} {ma mb : EM PV} {R : R2} {g : PV → PV → Option PV} (ho : OpR X (binaryOp op) R) (hg : Op2 X.K X.mg R g (pN X.K X.mg)) (ha : SimP X a ma) (hb : SimP X b mb) : SimN X (.BinOp a op b pos) (mBin g ma mb) :=
  bin_weak (a := a) (b := b) early_N (pe_op ho ha hb) hg
theorem sE_cmp {a b : Expr} {op : CmpOp} {pos : Pos} {ma mb : EM PV} {R : R2} {g : PV → PV → Option PV} (ho : OpR X (compareOp op) R) (hg : Op2 X.K X.mg R g (pV X.K X.mg)) (ha : SimP X a ma) (hb : SimP X b mb) (hm : behindInMarks op b = false) : SimE X (.Compare a [op] [b] pos) (mBin g ma mb) :=
  bin_weak (a := a) (b := b) early_V (pe_cmpR ho ha hb hm) hg
theorem sE_un {a : Expr} {op : UnaryOp} {pos : Pos} {ma : EM PV} {R : V → Hp → VK → Prop} {g : PV → Option PV} (ho : UnR X (unaryOp op) R) (hg : Op1 X.K X.mg R g (pV X.K X.mg)) (ha : SimP X a ma) : SimE X (.UnaryOp op a pos) (mUn g ma) :=
  un_weak early_V (pe_un ho ha) hg
/-- a test that a comparison is -/
def mBinT (g : PV → PV → Option PV) (ma mb : EM PV) : EM Bool := fun ep et R => ma ep et fun a et1 => mb ep et1 fun b et2 => ∃ z, g (deref et2 a) (deref et2 b) = some (.bl z) ∧ R z et2
theorem sT_cmp {a b : Expr} {op : CmpOp} {pos : Pos} {ma mb : EM PV} {R : R2} {g : PV → PV → Option PV} (ho : OpR X (compareOp op) R) (hg : Op2 X.K X.mg R g (pV X.K X.mg)) (ha : SimP X a ma) (hb : SimP X b mb) (hm : behindInMarks op b = false) : SimT X (.Compare a [op] [b] pos) (mBinT g ma mb) :=
  weakT (pt_cmpR ho ha hb hm) fun σ H Q ⟨ep, et, W, R0, c, s, e, q⟩ => by
  refine ⟨ep, et, W, _, c, s, e, fun p et1 r1 v H1 W1 x1 c1 p1 => ⟨ep, et1, W1, _, c1, s.ext c x1, r1, fun p' et2 r2 u H2 W2 x2 c2 p2 => ?_⟩⟩
  obtain ⟨z, hz, r3⟩ := r2
  refine hg v u H2 et2 W2 p p' _ _ c2 (Pk.ext x2 c1 p1) p2 hz fun w H3 W3 x3 c3 p3 => ?_
  have p4 : VR X.K X.mg W3 H3 (.bl z) w := p3
  unfold VR at p4
  exact ⟨z, p4, q z et2 r3 H3 W3 ((x1.NoO_trans x2).NoO_trans x3) c3⟩
/-- an expression that gives a truth, as a test -/
def mAsT (m : EM PV) : EM Bool := fun ep et R => m ep et fun a et1 => ∃ z, a = .bl z ∧ R z et1
theorem sT_val (h : SimE X ex m) (he : ∀ whole, isTrue ex X.env whole = (do let v ← whole; standAt ex.pos; holding [v] (truthy v)) := by intro _; rfl) : SimT X ex (mAsT m) := weakT (pt_val h he) fun σ H Q ⟨ep, et, W, R0, c, s, e, q⟩ => by
  refine ⟨ep, et, W, _, c, s, e, fun p et1 r1 v H1 W1 x1 c1 p1 => ?_⟩
  obtain ⟨z, hz, r3⟩ := r1
  have p4 : VR X.K X.mg W1 H1 p v := p1
  subst hz
  unfold VR at p4
  exact ⟨z, p4, q z et1 r3 H1 W1 x1 c1⟩
def mNotT (m : EM Bool) : EM Bool := fun ep et R => m ep et fun b et1 => R (!b) et1
def mAndT (m n : EM Bool) : EM Bool := fun ep et R => m ep et fun b et1 => if b = true then n ep et1 R else R false et1
def mOrT (m n : EM Bool) : EM Bool := fun ep et R => m ep et fun b et1 => if b = true then R true et1 else n ep et1 R
theorem sT_not {a : Expr} {pos : Pos} {m : EM Bool} (h : SimT X a m) : SimT X (.UnaryOp .Not a pos) (mNotT m) := weakT (pt_not h) fun σ H Q ⟨ep, et, W, R0, c, s, e, q⟩ =>
  ⟨ep, et, W, _, c, s, e, fun b et1 r1 H1 W1 x1 c1 => q _ et1 r1 H1 W1 x1 c1⟩
theorem sW_and1 {a : Expr} {pos : Pos} {m : EM Bool} (h : SimT X a m) : SimW X (.BoolOp .And [a] pos) m := pw_and1 h
theorem sW_or1 {a : Expr} {pos : Pos} {m : EM Bool} (h : SimT X a m) : SimW X (.BoolOp .Or [a] pos) m := pw_or1 h
theorem sW_and {a b : Expr} {rest : List Expr} {pos : Pos} {m n : EM Bool} (h : SimT X a m) (g : SimW X (.BoolOp .And (b :: rest) pos) n) : SimW X (.BoolOp .And (a :: b :: rest) pos) (mAndT m n) := weakW (pw_and h g) fun σ H Q ⟨ep, et, W, R0, c, s, e, q⟩ => by
  refine ⟨ep, et, W, _, c, s, e, fun b et1 r1 H1 W1 x1 c1 => ?_⟩
  cases b with
  | true => exact ⟨ep, et1, W1, _, c1, s.ext c x1, by simpa using r1, fun b' et2 r2 H2 W2 x2 c2 => q b' et2 r2 H2 W2 (x1.NoO_trans x2) c2⟩
  | false => exact q false et1 (by simpa using r1) H1 W1 x1 c1
theorem sW_or {a b : Expr} {rest : List Expr} {pos : Pos} {m n : EM Bool} (h : SimT X a m) (g : SimW X (.BoolOp .Or (b :: rest) pos) n) : SimW X (.BoolOp .Or (a :: b :: rest) pos) (mOrT m n) := weakW (pw_or h g) fun σ H Q ⟨ep, et, W, R0, c, s, e, q⟩ => by
  refine ⟨ep, et, W, _, c, s, e, fun b et1 r1 H1 W1 x1 c1 => ?_⟩
  cases b with
  | false => exact ⟨ep, et1, W1, _, c1, s.ext c x1, by simpa using r1, fun b' et2 r2 H2 W2 x2 c2 => q b' et2 r2 H2 W2 (x1.NoO_trans x2) c2⟩
  | true => exact q true et1 (by simpa using r1) H1 W1 x1 c1
/-- values: a and b where a is a truth -/
def mAndE (m n : EM PV) : EM PV := fun ep et R => m ep et fun p et1 => ∃ b, p = .bl b ∧ if b = true then n ep et1 R else R (.bl false) et1
def mOrE (m n : EM PV) : EM PV := fun ep et R => m ep et fun p et1 => ∃ b, p = .bl b ∧ if b = true then R (.bl true) et1 else n ep et1 R
def mNotE (m : EM PV) : EM PV := fun ep et R => m ep et fun p et1 => ∃ b, p = .bl b ∧ R (.bl (!b)) et1
theorem VR.bl {K : PySem.W.Frag} {mg : Str → Option Value} {W : Wd} {H : Hp} {b : Bool} : VR K mg W H (.bl b) (.bl b) := by unfold VR; rfl
theorem VR.int {K : PySem.W.Frag} {mg : Str → Option Value} {W : Wd} {H : Hp} {b : Int} : VR K mg W H (.int b) (.int b) := by unfold VR; rfl
theorem VR.str {K : PySem.W.Frag} {mg : Str → Option Value} {W : Wd} {H : Hp} {b : Str} : VR K mg W H (.str b) (.str b) := by unfold VR; rfl
theorem VR.non {K : PySem.W.Frag} {mg : Str → Option Value} {W : Wd} {H : Hp} : VR K mg W H .non .non := by unfold VR; rfl
theorem sE_one {op} {a : Expr} {pos : Pos} (h : SimE X a m) : SimE X (.BoolOp op [a] pos) m := pe_one h
theorem sE_and {a b : Expr} {rest : List Expr} {pos : Pos} {n : EM PV} (h : SimE X a m) (g : SimE X (.BoolOp .And (b :: rest) pos) n) : SimE X (.BoolOp .And (a :: b :: rest) pos) (mAndE m n) := weakE (pe_and h g) fun σ H Q ⟨ep, et, W, R0, c, s, e, q⟩ => by
  refine ⟨ep, et, W, _, c, s, e, fun p et1 r1 v H1 W1 x1 c1 p1 => ?_⟩
  obtain ⟨b, hb, r1⟩ := r1
  have p4 : VR X.K X.mg W1 H1 p v := p1
  subst hb
  unfold VR at p4
  refine ⟨b, p4, ?_⟩
  cases b with
  | true => exact ⟨ep, et1, W1, _, c1, s.ext c x1, by simpa using r1, fun b' et2 r2 v2 H2 W2 x2 c2 p2 => q b' et2 r2 v2 H2 W2 (x1.NoO_trans x2) c2 p2⟩
  | false => exact q _ et1 (by simpa using r1) _ H1 W1 x1 c1 VR.bl
theorem sE_or {a b : Expr} {rest : List Expr} {pos : Pos} {n : EM PV} (h : SimE X a m) (g : SimE X (.BoolOp .Or (b :: rest) pos) n) : SimE X (.BoolOp .Or (a :: b :: rest) pos) (mOrE m n) := weakE (pe_or h g) fun σ H Q ⟨ep, et, W, R0, c, s, e, q⟩ => by
  refine ⟨ep, et, W, _, c, s, e, fun p et1 r1 v H1 W1 x1 c1 p1 => ?_⟩
  obtain ⟨b, hb, r1⟩ := r1
  have p4 : VR X.K X.mg W1 H1 p v := p1
  subst hb
  unfold VR at p4
  refine ⟨b, p4, ?_⟩
  cases b with
  | false => exact ⟨ep, et1, W1, _, c1, s.ext c x1, by simpa using r1, fun b' et2 r2 v2 H2 W2 x2 c2 p2 => q b' et2 r2 v2 H2 W2 (x1.NoO_trans x2) c2 p2⟩
  | true => exact q _ et1 (by simpa using r1) _ H1 W1 x1 c1 VR.bl
theorem sE_not {a : Expr} {pos : Pos} (h : SimE X a m) : SimE X (.UnaryOp .Not a pos) (mNotE m) := weakE (pe_not h) fun σ H Q ⟨ep, et, W, R0, c, s, e, q⟩ => by
  refine ⟨ep, et, W, _, c, s, e, fun p et1 r1 v H1 W1 x1 c1 p1 => ?_⟩
  obtain ⟨b, hb, r1⟩ := r1
  have p4 : VR X.K X.mg W1 H1 p v := p1
  subst hb
  unfold VR at p4
  exact ⟨b, p4, q _ et1 r1 _ H1 W1 x1 c1 VR.bl⟩
def mIfE (t : EM Bool) (m n : EM PV) : EM PV := fun ep et R => t ep et fun b et1 => if b = true then m ep et1 R else n ep et1 R
theorem sE_if {t a b : Expr} {pos : Pos} {mt : EM Bool} {n : EM PV} {P : Post PV} (ep' : Early P) (h : SimT X t mt) (g : PE X a (tI X.K X.mg P m)) (g' : PE X b (tI X.K X.mg P n)) : PE X (.IfExp t a b pos) (tI X.K X.mg P (mIfE mt m n)) := weakE (pe_ifExp h g g') fun σ H Q ⟨ep, et, W, R0, c, s, e, q⟩ => by
  refine ⟨ep, et, W, _, c, s, e, fun b et1 r1 H1 W1 x1 c1 => ?_⟩
  cases b with
  | true => exact ⟨ep, et1, W1, _, c1, s.ext c x1, by simpa using r1, fun b' et2 r2 v2 H2 W2 x2 c2 p2 => q b' et2 r2 v2 H2 W2 (x1.NoO_trans x2) c2 (ep' _ _ _ _ _ _ _ _ _ _ _ x1 p2)⟩
  | false => exact ⟨ep, et1, W1, _, c1, s.ext c x1, by simpa using r1, fun b' et2 r2 v2 H2 W2 x2 c2 p2 => q b' et2 r2 v2 H2 W2 (x1.NoO_trans x2) c2 (ep' _ _ _ _ _ _ _ _ _ _ _ x1 p2)⟩
/-- a < b < c -/
def mChain (g g' : PV → PV → Option PV) (ma mb mc : EM PV) : EM PV := fun ep et R => ma ep et fun a et1 => mb ep et1 fun b et2 => ∃ z, g (deref et2 a) (deref et2 b) = some (.bl z) ∧
  if z = true then mc ep et2 fun d et3 => ∃ y, g' (deref et3 b) (deref et3 d) = some y ∧ R y et3 else R (.bl false) et2
theorem sE_chain {a b d : Expr} {op op' : CmpOp} {pos : Pos} {ma mb mc : EM PV} {R R' : R2} {g g' : PV → PV → Option PV} (ho : OpR X (compareOp op) R) (ho' : OpR X (compareOp op') R') (hg : Op2 X.K X.mg R g (pV X.K X.mg)) (hg' : Op2 X.K X.mg R' g' (pV X.K X.mg))
    (ha : SimP X a ma) (hb : SimP X b mb) (hc : SimP X d mc) (hm : lastMarks [op, op'] [b, d] = false := by with_unfolding_all rfl) : SimE X (.Compare a [op, op'] [b, d] pos) (mChain g g' ma mb mc) := weakE (pe_chain ho ho' ha hb hc hm) fun σ H Q ⟨ep, et, W, R0, c, s, e, q⟩ => by
  refine ⟨ep, et, W, _, c, s, e, fun p et1 r1 v H1 W1 x1 c1 p1 => ⟨ep, et1, W1, _, c1, s.ext c x1, r1, fun p' et2 r2 u H2 W2 x2 c2 p2 => ?_⟩⟩
  obtain ⟨z, hz, r3⟩ := r2
  refine hg v u H2 et2 W2 p p' _ _ c2 (Pk.ext x2 c1 p1) p2 hz fun w H3 W3 x3 c3 p3 => ?_
  have p4 : VR X.K X.mg W3 H3 (.bl z) w := p3
  unfold VR at p4
  refine ⟨z, p4, ?_⟩
  have x13 := (x1.NoO_trans x2).NoO_trans x3
  cases z with
  | false => exact q _ et2 (by simpa using r3) _ H3 W3 x13 c3 VR.bl
  | true =>
    refine ⟨ep, et2, W3, _, c3, s.ext c x13, by simpa using r3, fun p5 et4 r4 v4 H4 W4 x4 c4 p6 => ?_⟩
    obtain ⟨y, hy, r5⟩ := r4
    refine hg' u v4 H4 et4 W4 p' p5 y Q c4 (Pk.ext (x3.NoO_trans x4) c2 p2) p6 hy fun w5 H5 W5 x5 c5 p7 => ?_
    exact q y et4 r5 w5 H5 W5 ((x13.NoO_trans x4).NoO_trans x5) c5 p7
end
end Mw

namespace Mw
open PySem PySem.Spec L2

/-! ### data, for == of any depth -/
mutual
def dat : PV → Option PyData
  | .non => some .none
  | .bl b => some (.bool b)
  | .int i => some (.int i)
  | .str x => some (.str x)
  | .tup xs => (dats xs).map .tuple
  | .lst xs => (dats xs).map .list
  | _ => none
def dats : List PV → Option (List PyData)
  | [] => some []
  | x :: xs => (dat x).bind fun d => (dats xs).map fun ds => d :: ds
end
section
variable {K : PySem.W.Frag} {mg : Str → Option Value} {H : Hp} {et : Hi} {W : Wd}
mutual
theorem VR.dp : ∀ (p : PV) (v : V) (d : PyData), VR K mg W H p v → dat p = some d → Dp K H v d
  | .non, v, d, h, e => by unfold VR at h; unfold dat at e; cases e; subst h; exact .non
  | .bl b, v, d, h, e => by unfold VR at h; unfold dat at e; cases e; subst h; exact .bl b
  | .int b, v, d, h, e => by unfold VR at h; unfold dat at e; cases e; subst h; exact .int b
  | .str b, v, d, h, e => by unfold VR at h; unfold dat at e; cases e; subst h; exact .str b
  | .tup xs, v, d, h, e => by
    unfold VR at h; unfold dat at e
    obtain ⟨a, vs, rfl, h1, h2⟩ := h
    cases q : dats xs with
    | none => rw [q] at e; cases e
    | some ds => rw [q] at e; cases e; exact .tup h1 (VRs.dp xs vs ds h2 q)
  | .lst xs, v, d, h, e => by
    unfold VR at h; unfold dat at e
    obtain ⟨a, vs, rfl, _, h1, h2⟩ := h
    cases q : dats xs with
    | none => rw [q] at e; cases e
    | some ds => rw [q] at e; cases e; exact .lst (SqL.of h1) (VRs.dp xs vs ds h2 q)
  | .dic _, v, d, h, e => by unfold dat at e; cases e
  | .scr _, v, d, h, e => by unfold dat at e; cases e
  | .ref _, v, d, h, e => by unfold dat at e; cases e
  | .glo _, v, d, h, e => by unfold dat at e; cases e
  | .ty _, v, d, h, e => by unfold dat at e; cases e
theorem VRs.dp : ∀ (p : List PV) (v : List V) (d : List PyData), VRs K mg W H p v → dats p = some d → DpAll K H v d
  | [], v, d, h, e => by unfold VRs at h; unfold dats at e; cases e; subst h; exact .nil
  | p :: ps, v, d, h, e => by
    unfold VRs at h; unfold dats at e
    obtain ⟨u, r, rfl, h1, h2⟩ := h
    cases q : dat p with
    | none => rw [q] at e; cases e
    | some d1 =>
      rw [q] at e
      simp only [Option.bind_some] at e
      cases q2 : dats ps with
      | none => rw [q2] at e; cases e
      | some ds => rw [q2] at e; cases e; exact .cons (VR.dp p u d1 h1 q) (VRs.dp ps r ds h2 q2)
end
theorem Pk.dp (c : Cel K mg H et W) {p : PV} {v : V} {d : PyData} (h : Pk K mg p v H et W) (e : dat (deref et p) = some d) : Dp K H v d := by
  cases q : deref et p with
  | lst xs =>
    rw [q] at e
    obtain ⟨a, vs, rfl, h1, h2⟩ := h.lst c q
    unfold dat at e
    cases q2 : dats xs with
    | none => rw [q2] at e; cases e
    | some ds => rw [q2] at e; cases e; exact .lst (SqL.of h1) (VRs.dp xs vs ds h2 q2)
  | dic xs => rw [q] at e; unfold dat at e; cases e
  | ref n => rw [q] at e; unfold dat at e; cases e
  | _ => rw [q] at e; exact VR.dp _ _ _ (h.val q rfl) e
end

/-! ### operators -/
def gAdd : PV → PV → Option PV
  | .int i, .int j => some (.int (i + j))
  | .str x, .str y => if x.length + y.length ≤ sizeLine then some (.str (x ++ y)) else none
  | .tup xs, .tup ys => if xs.length + ys.length ≤ sizeLine then some (.tup (xs ++ ys)) else none
  | .lst xs, .lst ys => if xs.length + ys.length ≤ sizeLine then some (.lst (xs ++ ys)) else none
  | _, _ => none
def gCat : PV → PV → Option PV
  | .lst xs, .lst ys => if xs.length + ys.length ≤ sizeLine then some (.lst (xs ++ ys)) else none
  | _, _ => none
def gSubI : PV → PV → Option PV
  | .int i, .int j => some (.int (i - j))
  | _, _ => none
def gMul : PV → PV → Option PV
  | .int i, .int j => if (-(2 ^ 64) < i ∧ i < 2 ^ 64) ∨ (-(2 ^ 64) < j ∧ j < 2 ^ 64) then some (.int (i * j)) else none
  | _, _ => none
def gRep : PV → PV → Option PV
  | .lst xs, .int k => if 0 ≤ k ∧ k < 2 ^ 63 ∧ xs.length * k.toNat ≤ sizeLine then some (.lst (List.replicate k.toNat xs).flatten) else none
  | _, _ => none
def gDiv : PV → PV → Option PV
  | .int i, .int j => if 0 < j ∧ j < 1073741824 then some (.int (i / j)) else none
  | _, _ => none
def gMod : PV → PV → Option PV
  | .int i, .int j => if 0 < j then some (.int (i % j)) else none
  | _, _ => none
def gPow : PV → PV → Option PV
  | .int i, .int j => if 0 ≤ j ∧ j ≤ 1000000 ∧ i.natAbs < 2 ^ 64 then some (.int (i ^ j.toNat)) else none
  | _, _ => none
section
variable {K : PySem.W.Frag} {mg : Str → Option Value}
def rAdd (K : PySem.W.Frag) : R2 := fun x y H Q => rI0 (fun i j => .int (i + j)) x y H Q ∨ (∃ i j, x = .str i ∧ y = .str j ∧ i.length + j.length ≤ sizeLine ∧ Q (.str (i ++ j)) H) ∨ rCatA K x y H Q ∨ rCat x y H Q
theorem op_addA {X : Cx} : OpR X (binaryOp .Add) (rAdd X.K) := op_add.or (op_add_str.or (op_catA.or op_cat))
theorem VRs.empty_iff {W : Wd} {H : Hp} {ps : List PV} {vs : List V} (h : VRs K mg W H ps vs) : vs = [] ↔ ps = [] := by
  have e := h.len
  constructor
  · intro z; rw [z] at e; exact List.eq_nil_of_length_eq_zero e
  · intro z; rw [z] at e; exact List.eq_nil_of_length_eq_zero e.symm
theorem o2_add : Op2 K mg (rAdd K) gAdd (pV K mg) := by
  intro x y H et W p q z Q c hp hq hz k
  unfold gAdd at hz
  split at hz
  · rename_i i j e1 e2
    cases hz
    exact .inl ⟨i, j, hp.int e1, hq.int e2, k _ H W (Ext.refl ..) c VR.int⟩
  · rename_i i j e1 e2
    split at hz
    · rename_i hl; cases hz
      exact .inr (.inl ⟨i, j, hp.str e1, hq.str e2, hl, k _ H W (Ext.refl ..) c VR.str⟩)
    · cases hz
  · rename_i xs ys e1 e2
    split at hz
    · rename_i hl; cases hz
      obtain ⟨a, vs, rfl, h1, h2⟩ := hp.tup e1
      obtain ⟨b, ws, rfl, h3, h4⟩ := hq.tup e2
      refine .inr (.inr (.inl ⟨a, b, vs, ws, rfl, rfl, h1, h3, by rw [← h2.len, ← h4.len]; exact hl, fun z => ?_, fun z z2 => ?_, fun z z2 t ht => ?_⟩))
      · have := h2.empty_iff.mp z; subst this
        refine k _ H W (Ext.refl ..) c ?_
        show VR K mg W H (.tup ([] ++ ys)) _
        unfold VR; exact ⟨b, ws, rfl, h3, h4⟩
      · have := h4.empty_iff.mp z2; subst this
        refine k _ H W (Ext.refl ..) c ?_
        show VR K mg W H (.tup (xs ++ [])) _
        rw [List.append_nil]
        unfold VR; exact ⟨a, vs, rfl, h1, h2⟩
      · obtain ⟨x1, c1, r1⟩ := new_tup c ht (VRs.append h2 h4)
        exact k _ _ W x1 c1 r1
    · cases hz
  · rename_i xs ys e1 e2
    split at hz
    · rename_i hl; cases hz
      obtain ⟨a, vs, rfl, h1, h2⟩ := hp.lst c e1
      obtain ⟨b, ws, rfl, h3, h4⟩ := hq.lst c e2
      refine .inr (.inr (.inr ⟨a, b, vs, ws, rfl, rfl, h1, h3, by rw [← h2.len, ← h4.len]; exact hl, fun t ht => ?_⟩))
      obtain ⟨x1, c1, r1⟩ := new_lst c ht (VRs.append h2 h4)
      exact k _ _ _ x1 c1 r1
    · cases hz
  · cases hz
theorem o2_cat : Op2 K mg rCat gCat (pN K mg) := by
  intro x y H et W p q z Q c hp hq hz k
  unfold gCat at hz
  split at hz
  · rename_i xs ys e1 e2
    split at hz
    · rename_i hl; cases hz
      obtain ⟨a, vs, rfl, h1, h2⟩ := hp.lst c e1
      obtain ⟨b, ws, rfl, h3, h4⟩ := hq.lst c e2
      refine ⟨a, b, vs, ws, rfl, rfl, h1, h3, by rw [← h2.len, ← h4.len]; exact hl, fun t ht => ?_⟩
      obtain ⟨x1, c1, r1⟩ := new_own c ht (VRs.append h2 h4)
      exact k _ _ _ x1 c1 r1
    · cases hz
  · cases hz
theorem o2_rep : Op2 K mg rRep gRep (pN K mg) := by
  intro x y H et W p q z Q c hp hq hz k
  unfold gRep at hz
  split at hz
  · rename_i xs n e1 e2
    split at hz
    · rename_i hl; cases hz
      obtain ⟨a, vs, rfl, h1, h2⟩ := hp.lst c e1
      refine ⟨a, n, vs, rfl, hq.int e2, h1, by omega, hl.2.1, by rw [← h2.len]; exact hl.2.2, fun t ht => ?_⟩
      obtain ⟨x1, c1, r1⟩ := new_own c ht (VRs.rep h2 n.toNat)
      exact k _ _ _ x1 c1 r1
    · cases hz
  · cases hz
theorem o2_sub : Op2 K mg (rI0 fun i j => .int (i - j)) gSubI (pV K mg) := by
  intro x y H et W p q z Q c hp hq hz k
  unfold gSubI at hz
  split at hz
  · rename_i i j e1 e2
    cases hz
    exact ⟨i, j, hp.int e1, hq.int e2, k _ H W (Ext.refl ..) c VR.int⟩
  · cases hz
theorem o2_mul : Op2 K mg (rI CMul fun i j => .int (i * j)) gMul (pV K mg) := by
  intro x y H et W p q z Q c hp hq hz k
  unfold gMul at hz
  split at hz
  · rename_i i j e1 e2
    split at hz
    · rename_i hl; cases hz
      exact ⟨i, j, hp.int e1, hq.int e2, hl, k _ H W (Ext.refl ..) c VR.int⟩
    · cases hz
  · cases hz
theorem o2_div : Op2 K mg (rI CDiv fun i j => .int (i / j)) gDiv (pV K mg) := by
  intro x y H et W p q z Q c hp hq hz k
  unfold gDiv at hz
  split at hz
  · rename_i i j e1 e2
    split at hz
    · rename_i hl; cases hz
      exact ⟨i, j, hp.int e1, hq.int e2, hl, k _ H W (Ext.refl ..) c VR.int⟩
    · cases hz
  · cases hz
theorem o2_mod : Op2 K mg (rI (fun _ j => 0 < j) fun i j => .int (i % j)) gMod (pV K mg) := by
  intro x y H et W p q z Q c hp hq hz k
  unfold gMod at hz
  split at hz
  · rename_i i j e1 e2
    split at hz
    · rename_i hl; cases hz
      exact ⟨i, j, hp.int e1, hq.int e2, hl, k _ H W (Ext.refl ..) c VR.int⟩
    · cases hz
  · cases hz
theorem o2_pow : Op2 K mg (rI CPow fun i j => .int (i ^ j.toNat)) gPow (pV K mg) := by
  intro x y H et W p q z Q c hp hq hz k
  unfold gPow at hz
  split at hz
  · rename_i i j e1 e2
    split at hz
    · rename_i hl; cases hz
      exact ⟨i, j, hp.int e1, hq.int e2, hl, k _ H W (Ext.refl ..) c VR.int⟩
    · cases hz
  · cases hz

/-! ### comparisons -/
/-- ==, by scalars or by data -/
def eqB : PV → PV → Option Bool
  | .int i, .int j => some (decide (i = j))
  | .str x, .str y => some (decide (x = y))
  | .bl x, .bl y => some (decide (x = y))
  | .non, .non => some true
  | .int _, .str _ => some false
  | .str _, .int _ => some false
  | .int _, .non => some false
  | .non, .int _ => some false
  | .str _, .non => some false
  | .non, .str _ => some false
  | p, q => match dat p, dat q with
    | some d, some e => if SeqAt.shaped d = true ∧ SeqAt.shaped e = true then some (PyData.eqv d e) else none
    | _, _ => none
def gEq (p q : PV) : Option PV := (eqB p q).map .bl
def gNe (p q : PV) : Option PV := (eqB p q).map fun b => .bl (!b)
def rEqA (K : PySem.W.Frag) : R2 := fun x y H Q => rEq x y H Q ∨ rEqD K x y H Q
def rNeA (K : PySem.W.Frag) : R2 := fun x y H Q => rNe x y H Q ∨ rNeD K x y H Q
theorem op_eqA {X : Cx} (hu : X.A.units + 64 < cLine) : OpR X (compareOp .Eq) (rEqA X.K) := op_eq.or (op_eqD hu)
theorem op_neA {X : Cx} (hu : X.A.units + 64 < cLine) : OpR X (compareOp .NotEq) (rNeA X.K) := op_ne.or (op_neD hu)
theorem eqB_ok {x y : V} {H : Hp} {et : Hi} {W : Wd} {p q : PV} {b : Bool} (c : Cel K mg H et W) (hp : Pk K mg p x H et W) (hq : Pk K mg q y H et W) (h : eqB (deref et p) (deref et q) = some b) :
    (scal x y = true ∧ decide (x = y) = b) ∨ ∃ d e, Dp K H x d ∧ Dp K H y e ∧ SeqAt.shaped d = true ∧ SeqAt.shaped e = true ∧ PyData.eqv d e = b := by
  unfold eqB at h
  split at h
  · rename_i i j e1 e2; cases h; rw [hp.int e1, hq.int e2]; exact .inl ⟨rfl, by simp⟩
  · rename_i i j e1 e2; cases h; rw [hp.str e1, hq.str e2]; exact .inl ⟨rfl, by simp⟩
  · rename_i i j e1 e2; cases h; rw [hp.bl e1, hq.bl e2]; exact .inl ⟨rfl, by simp⟩
  · rename_i e1 e2; cases h; rw [hp.non e1, hq.non e2]; exact .inl ⟨rfl, by simp⟩
  · rename_i i j e1 e2; cases h; rw [hp.int e1, hq.str e2]; exact .inl ⟨rfl, by simp⟩
  · rename_i i j e1 e2; cases h; rw [hp.str e1, hq.int e2]; exact .inl ⟨rfl, by simp⟩
  · rename_i i e1 e2; cases h; rw [hp.int e1, hq.non e2]; exact .inl ⟨rfl, by simp⟩
  · rename_i i e1 e2; cases h; rw [hp.non e1, hq.int e2]; exact .inl ⟨rfl, by simp⟩
  · rename_i i e1 e2; cases h; rw [hp.str e1, hq.non e2]; exact .inl ⟨rfl, by simp⟩
  · rename_i i e1 e2; cases h; rw [hp.non e1, hq.str e2]; exact .inl ⟨rfl, by simp⟩
  · split at h
    · rename_i d e hd he
      split at h
      · rename_i hs; cases h
        exact .inr ⟨d, e, hp.dp c hd, hq.dp c he, hs.1, hs.2, rfl⟩
      · cases h
    · cases h
theorem o2_eq : Op2 K mg (rEqA K) gEq (pV K mg) := by
  intro x y H et W p q z Q c hp hq hz k
  unfold gEq at hz
  cases e : eqB (deref et p) (deref et q) with
  | none => rw [e] at hz; cases hz
  | some b =>
    rw [e] at hz; cases hz
    have qd := k _ H W (Ext.refl ..) c VR.bl
    rcases eqB_ok c hp hq e with ⟨h1, h2⟩ | ⟨d, e', h1, h2, h3, h4, h5⟩
    · exact .inl ⟨h1, by rw [h2]; exact qd⟩
    · exact .inr ⟨d, e', h1, h2, h3, h4, by rw [h5]; exact qd⟩
theorem o2_ne : Op2 K mg (rNeA K) gNe (pV K mg) := by
  intro x y H et W p q z Q c hp hq hz k
  unfold gNe at hz
  cases e : eqB (deref et p) (deref et q) with
  | none => rw [e] at hz; cases hz
  | some b =>
    rw [e] at hz; cases hz
    have qd := k _ H W (Ext.refl ..) c VR.bl
    rcases eqB_ok c hp hq e with ⟨h1, h2⟩ | ⟨d, e', h1, h2, h3, h4, h5⟩
    · exact .inl ⟨h1, by rw [h2]; exact qd⟩
    · exact .inr ⟨d, e', h1, h2, h3, h4, by rw [h5]; exact qd⟩
def gLt : PV → PV → Option PV
  | .int i, .int j => some (.bl (decide (i < j)))
  | .str i, .str j => some (.bl (decide (i.cps.toList < j.cps.toList)))
  | _, _ => none
def gLe : PV → PV → Option PV
  | .int i, .int j => some (.bl (decide (i ≤ j)))
  | _, _ => none
def gGt : PV → PV → Option PV
  | .int i, .int j => some (.bl (decide (j < i)))
  | _, _ => none
def gGe : PV → PV → Option PV
  | .int i, .int j => some (.bl (decide (j ≤ i)))
  | _, _ => none
def rLtA : R2 := fun x y H Q => rI0 (fun i j => .bl (decide (i < j))) x y H Q ∨ ∃ i j, x = .str i ∧ y = .str j ∧ Q (.bl (decide (i.cps.toList < j.cps.toList))) H
theorem op_ltA {X : Cx} : OpR X (compareOp .Lt) rLtA := op_lt.or op_lt_str
theorem o2_lt : Op2 K mg rLtA gLt (pV K mg) := by
  intro x y H et W p q z Q c hp hq hz k
  unfold gLt at hz
  split at hz
  · rename_i i j e1 e2
    cases hz
    exact .inl ⟨i, j, hp.int e1, hq.int e2, k _ H W (Ext.refl ..) c VR.bl⟩
  · rename_i i j e1 e2
    cases hz
    exact .inr ⟨i, j, hp.str e1, hq.str e2, k _ H W (Ext.refl ..) c VR.bl⟩
  · cases hz
theorem o2_le : Op2 K mg (rI0 fun i j => .bl (decide (i ≤ j))) gLe (pV K mg) := by
  intro x y H et W p q z Q c hp hq hz k
  unfold gLe at hz
  split at hz
  · rename_i i j e1 e2
    cases hz
    exact ⟨i, j, hp.int e1, hq.int e2, k _ H W (Ext.refl ..) c VR.bl⟩
  · cases hz
theorem o2_gt : Op2 K mg (rI0 fun i j => .bl (decide (j < i))) gGt (pV K mg) := by
  intro x y H et W p q z Q c hp hq hz k
  unfold gGt at hz
  split at hz
  · rename_i i j e1 e2
    cases hz
    exact ⟨i, j, hp.int e1, hq.int e2, k _ H W (Ext.refl ..) c VR.bl⟩
  · cases hz
theorem o2_ge : Op2 K mg (rI0 fun i j => .bl (decide (j ≤ i))) gGe (pV K mg) := by
  intro x y H et W p q z Q c hp hq hz k
  unfold gGe at hz
  split at hz
  · rename_i i j e1 e2
    cases hz
    exact ⟨i, j, hp.int e1, hq.int e2, k _ H W (Ext.refl ..) c VR.bl⟩
  · cases hz
/-- is None, is True and the like -/
def gIs : PV → PV → Option PV
  | .non, .non => some (.bl true)
  | .bl _, .non => some (.bl false)
  | .int _, .non => some (.bl false)
  | .str _, .non => some (.bl false)
  | .tup _, .non => some (.bl false)
  | .lst _, .non => some (.bl false)
  | .dic _, .non => some (.bl false)
  | .scr _, .non => some (.bl false)
  | .ref _, .non => some (.bl false)
  | .bl a, .bl b => some (.bl (decide (a = b)))
  | _, _ => none
def gIsNot (p q : PV) : Option PV := match gIs p q with
  | some (.bl b) => some (.bl (!b))
  | _ => none
def rIsA : R2 := fun x y H Q => (y = .non ∧ Q (.bl (decide (x = .non))) H) ∨ rIsB x y H Q
def rIsNotA : R2 := fun x y H Q => (y = .non ∧ Q (.bl (!decide (x = .non))) H) ∨ rNotB x y H Q
theorem op_isA {X : Cx} : OpR X (compareOp .Is) rIsA := op_isN.or op_isBl
theorem op_isNotA {X : Cx} : OpR X (compareOp .IsNot) rIsNotA := op_notN.or op_notBl
theorem Pk.nn {x : V} {H : Hp} {et : Hi} {W : Wd} {p : PV} (h : Pk K mg p x H et W) (hp : deref et p ≠ .non) (hg : ∀ z, p ≠ .glo z) : x ≠ .non := by
  intro e
  subst e
  rcases h with h | ⟨a, e, _⟩
  · cases p with
    | non => exact hp rfl
    | glo z => exact hg z rfl
    | bl b => unfold VR at h; cases h
    | int b => unfold VR at h; cases h
    | str b => unfold VR at h; cases h
    | tup b => unfold VR at h; obtain ⟨_, _, e, _⟩ := h; cases e
    | lst b => unfold VR at h; obtain ⟨_, _, e, _⟩ := h; cases e
    | dic b => unfold VR at h; obtain ⟨_, _, e, _⟩ := h; cases e
    | scr b => unfold VR at h; obtain ⟨_, e, _⟩ := h; cases e
    | ref b => unfold VR at h; obtain ⟨_, e, _⟩ := h; cases e
    | ty b => unfold VR at h; cases h
  · cases e
theorem deref_glo {et : Hi} {z : Str} : deref et (.glo z) = .glo z := rfl
theorem gIs_ok {x y : V} {H : Hp} {et : Hi} {W : Wd} {p q : PV} {z : PV} (c : Cel K mg H et W) (hp : Pk K mg p x H et W) (hq : Pk K mg q y H et W) (h : gIs (deref et p) (deref et q) = some z) :
    ∃ b, z = .bl b ∧ ((y = .non ∧ decide (x = .non) = b) ∨ ∃ a d : Bool, x = .bl a ∧ y = .bl d ∧ decide (a = d) = b) := by
  unfold gIs at h
  have nn : ∀ {w : PV}, deref et p = w → w ≠ .non → (∀ z, w ≠ .glo z) → decide (x = .non) = false := fun {w} e1 e2 e3 => decide_eq_false (hp.nn (by rw [e1]; exact e2) fun z e => by
    subst e; rw [deref_glo] at e1; exact e3 z e1.symm)
  split at h
  · rename_i e1 e2; cases h; exact ⟨_, rfl, .inl ⟨hq.non e2, by rw [hp.non e1]; rfl⟩⟩
  · rename_i e1 e2; cases h; exact ⟨_, rfl, .inl ⟨hq.non e2, nn e1 (by simp) (by simp)⟩⟩
  · rename_i e1 e2; cases h; exact ⟨_, rfl, .inl ⟨hq.non e2, nn e1 (by simp) (by simp)⟩⟩
  · rename_i e1 e2; cases h; exact ⟨_, rfl, .inl ⟨hq.non e2, nn e1 (by simp) (by simp)⟩⟩
  · rename_i e1 e2; cases h; exact ⟨_, rfl, .inl ⟨hq.non e2, nn e1 (by simp) (by simp)⟩⟩
  · rename_i e1 e2; cases h; exact ⟨_, rfl, .inl ⟨hq.non e2, nn e1 (by simp) (by simp)⟩⟩
  · rename_i e1 e2; cases h; exact ⟨_, rfl, .inl ⟨hq.non e2, nn e1 (by simp) (by simp)⟩⟩
  · rename_i e1 e2; cases h; exact ⟨_, rfl, .inl ⟨hq.non e2, nn e1 (by simp) (by simp)⟩⟩
  · rename_i e1 e2; cases h; exact ⟨_, rfl, .inl ⟨hq.non e2, nn e1 (by simp) (by simp)⟩⟩
  · rename_i a d e1 e2; cases h; exact ⟨_, rfl, .inr ⟨a, d, hp.bl e1, hq.bl e2, rfl⟩⟩
  · cases h
theorem o2_is : Op2 K mg rIsA gIs (pV K mg) := by
  intro x y H et W p q z Q c hp hq hz k
  obtain ⟨b, rfl, h⟩ := gIs_ok c hp hq hz
  have qd := k _ H W (Ext.refl ..) c VR.bl
  rcases h with ⟨h1, h2⟩ | ⟨a, d, h1, h2, h3⟩
  · exact .inl ⟨h1, by rw [h2]; exact qd⟩
  · exact .inr ⟨a, d, h1, h2, by rw [h3]; exact qd⟩
theorem o2_isNot : Op2 K mg rIsNotA gIsNot (pV K mg) := by
  intro x y H et W p q z Q c hp hq hz k
  unfold gIsNot at hz
  cases e : gIs (deref et p) (deref et q) with
  | none => rw [e] at hz; cases hz
  | some w =>
    obtain ⟨b, rfl, h⟩ := gIs_ok c hp hq e
    rw [e] at hz; cases hz
    have qd := k _ H W (Ext.refl ..) c VR.bl
    rcases h with ⟨h1, h2⟩ | ⟨a, d, h1, h2, h3⟩
    · exact .inl ⟨h1, by rw [h2]; exact qd⟩
    · exact .inr ⟨a, d, h1, h2, by rw [h3]; exact qd⟩
end
end Mw

namespace Mw
open PySem PySem.Spec L2

/-! ### argument lists -/
section
variable {X : Cx} {e : Expr} {es : List Expr} {m : EM PV} {ms : EM (List PV)} {pos : Pos}
def mNil : EM (List PV) := fun _ et R => R [] et
def mCons (m : EM PV) (ms : EM (List PV)) : EM (List PV) := fun ep et R => m ep et fun p et1 => ms ep et1 fun ps et2 => R (p :: ps) et2
theorem sA_nil : SimA X [] mNil := weakA pa_nil fun σ H Q ⟨ep, et, W, R, c, s, e, q⟩ => q [] et e [] H W (Ext.refl ..) c VRs.nil
theorem sAP_nil : SimAP X [] mNil := weakA pa_nil fun σ H Q ⟨ep, et, W, R, c, s, e, q⟩ => q [] et e [] H W (Ext.refl ..) c rfl
theorem sA_cons (he : SimE X e m) (hr : SimA X es ms) (hs : starEach (e :: es) X.env = (false, eval e X.env) :: starEach es X.env := by rfl) : SimA X (e :: es) (mCons m ms) :=
  weakA (pa_cons he hr hs) fun σ H Q ⟨ep, et, W, R, c, s, e, q⟩ => by
  refine ⟨ep, et, W, _, c, s, e, fun p et1 r1 v H1 W1 x1 c1 p1 => ⟨ep, et1, W1, _, c1, s.ext c x1, r1, fun ps et2 r2 vs H2 W2 x2 c2 p2 => ?_⟩⟩
  exact q (p :: ps) et2 r2 (v :: vs) H2 W2 (x1.NoO_trans x2) c2 (VRs.cons (VR.ext x2 c1.stays0 _ _ p1) p2)
theorem sAP_cons (he : SimP X e m) (hr : SimAP X es ms) (hs : starEach (e :: es) X.env = (false, eval e X.env) :: starEach es X.env := by rfl) : SimAP X (e :: es) (mCons m ms) :=
  weakA (pa_cons he hr hs) fun σ H Q ⟨ep, et, W, R, c, s, e, q⟩ => by
  refine ⟨ep, et, W, _, c, s, e, fun p et1 r1 v H1 W1 x1 c1 p1 => ⟨ep, et1, W1, _, c1, s.ext c x1, r1, fun ps et2 r2 vs H2 W2 x2 c2 p2 => ?_⟩⟩
  exact q (p :: ps) et2 r2 (v :: vs) H2 W2 (x1.NoO_trans x2) c2 ⟨v, vs, rfl, Pk.ext x2 c1 p1, p2⟩
/-! ### built-in calls -/
section
variable {x : Str} {id T : String} {p : Pos} {R : List V → Hp → VK → Prop} {g : List PV → Option PV}
theorem sE_callB (hc : CallR X (.builtin id) R) (hg : OpA X.K X.mg R g (pV X.K X.mg)) (hx : Gl X x) (hm : X.mg x = none) (hv : bootBuiltins x = some (.builtin id)) (ha : SimAP X (e :: es) ms) (hn : x ≠ "__name__" := by decide) (hdb : (x == ("__debug__" : Str)) = false := by decide)
    (he : starEach (e :: es) X.env = (false, eval e X.env) :: starEach es X.env := by rfl) (hpl : (backTo pos (starEach es X.env)).any (·.1) = false := by rfl) : SimE X (.Call (.Name x p) (e :: es) [] pos) (mArg g ms) :=
  arg_weak early_V (pe_callB hc hx hm hv ha hn hdb he hpl) hg
theorem sN_callB (hc : CallR X (.builtin id) R) (hg : OpA X.K X.mg R g (pN X.K X.mg)) (hx : Gl X x) (hm : X.mg x = none) (hv : bootBuiltins x = some (.builtin id)) (ha : SimAP X (e :: es) ms) (hn : x ≠ "__name__" := by decide) (hdb : (x == ("__debug__" : Str)) = false := by decide)
    (he : starEach (e :: es) X.env = (false, eval e X.env) :: starEach es X.env := by rfl) (hpl : (backTo pos (starEach es X.env)).any (·.1) = false := by rfl) : SimN X (.Call (.Name x p) (e :: es) [] pos) (mArg g ms) :=
  arg_weak early_N (pe_callB hc hx hm hv ha hn hdb he hpl) hg
theorem sE_callTy (hc : CallR X (.type T) R) (hg : OpA X.K X.mg R g (pV X.K X.mg)) (hx : Gl X x) (hm : X.mg x = none) (hv : bootBuiltins x = some (.type T)) (ha : SimAP X (e :: es) ms) (hn : x ≠ "__name__" := by decide) (hdb : (x == ("__debug__" : Str)) = false := by decide)
    (he : starEach (e :: es) X.env = (false, eval e X.env) :: starEach es X.env := by rfl) (hpl : (backTo pos (starEach es X.env)).any (·.1) = false := by rfl) : SimE X (.Call (.Name x p) (e :: es) [] pos) (mArg g ms) :=
  arg_weak early_V (pe_callTy hc hx hm hv ha hn hdb he hpl) hg
theorem sN_callTy (hc : CallR X (.type T) R) (hg : OpA X.K X.mg R g (pN X.K X.mg)) (hx : Gl X x) (hm : X.mg x = none) (hv : bootBuiltins x = some (.type T)) (ha : SimAP X (e :: es) ms) (hn : x ≠ "__name__" := by decide) (hdb : (x == ("__debug__" : Str)) = false := by decide)
    (he : starEach (e :: es) X.env = (false, eval e X.env) :: starEach es X.env := by rfl) (hpl : (backTo pos (starEach es X.env)).any (·.1) = false := by rfl) : SimN X (.Call (.Name x p) (e :: es) [] pos) (mArg g ms) :=
  arg_weak early_N (pe_callTy hc hx hm hv ha hn hdb he hpl) hg
/-- a built-in class as a value -/
theorem sE_ty {t : Ty} (hx : Gl X x) (hm : X.mg x = none) (hv : bootBuiltins x = some (.type t.name)) (hn : x ≠ "__name__" := by decide) (hd : (x == ("__debug__" : Str)) = false := by decide) : SimE X (.Name x pos) (mC (.ty t)) :=
  sE_c (pe_bltn (v := .ty t.name) hx hm hv rfl hn hd) fun _ _ => by unfold VR; rfl
end
end
section
variable {K : PySem.W.Frag} {mg : Str → Option Value}
theorem Pks.one {H : Hp} {et : Hi} {W : Wd} {p : PV} {vs : List V} (h : Pks K mg [p] vs H et W) : ∃ v, vs = [v] ∧ Pk K mg p v H et W := by
  obtain ⟨v, r, e, h1, h2⟩ := h
  have : r = [] := h2
  subst this
  exact ⟨v, e, h1⟩
theorem Pks.two {H : Hp} {et : Hi} {W : Wd} {p q : PV} {vs : List V} (h : Pks K mg [p, q] vs H et W) : ∃ v u, vs = [v, u] ∧ Pk K mg p v H et W ∧ Pk K mg q u H et W := by
  obtain ⟨v, r, e, h1, h2⟩ := h
  obtain ⟨u, rfl, h3⟩ := Pks.one h2
  exact ⟨v, u, e, h1, h3⟩
theorem map1 {f : PV → PV} {ps : List PV} {q : PV} (h : ps.map f = [q]) : ∃ p, ps = [p] ∧ f p = q := by
  match ps, h with
  | [p], h => exact ⟨p, rfl, by simpa using h⟩
theorem map2 {f : PV → PV} {ps : List PV} {q r : PV} (h : ps.map f = [q, r]) : ∃ p p', ps = [p, p'] ∧ f p = q ∧ f p' = r := by
  match ps, h with
  | [p, p'], h => exact ⟨p, p', rfl, by simpa using h⟩

/-! len -/
def gLen : List PV → Option PV
  | [.lst xs] => some (.int xs.length)
  | [.tup xs] => some (.int xs.length)
  | [.scr xs] => some (.int xs.length)
  | [.str x] => if x.length ≤ sizeLine then some (.int x.length) else none
  | _ => none
theorem oA_len : OpA K mg (fun xs H Q => ∃ x n, xs = [x] ∧ LenV K x H n ∧ Q (.int n) H) gLen (pV K mg) := by
  intro xs H et W ps z Q c hp hz k
  unfold gLen at hz
  split at hz
  · rename_i ys e
    cases hz
    obtain ⟨p, rfl, e'⟩ := map1 e
    obtain ⟨v, rfl, h⟩ := hp.one
    obtain ⟨a, vs, rfl, h1, h2⟩ := h.lst c e'
    exact ⟨_, _, rfl, .inl ⟨vs, SqL.of h1, rfl⟩, by rw [← h2.len]; exact k _ H W (Ext.refl ..) c VR.int⟩
  · rename_i ys e
    cases hz
    obtain ⟨p, rfl, e'⟩ := map1 e
    obtain ⟨v, rfl, h⟩ := hp.one
    obtain ⟨a, vs, rfl, h1, h2⟩ := h.tup e'
    exact ⟨_, _, rfl, .inr ⟨vs, h1, rfl⟩, by rw [← h2.len]; exact k _ H W (Ext.refl ..) c VR.int⟩
  · rename_i ys e
    cases hz
    obtain ⟨p, rfl, e'⟩ := map1 e
    obtain ⟨v, rfl, h⟩ := hp.one
    obtain ⟨a, rfl, h1⟩ := h.scr e'
    exact ⟨_, _, rfl, .inl ⟨_, h1.sq, rfl⟩, by rw [List.length_map]; exact k _ H W (Ext.refl ..) c VR.int⟩
  · rename_i ys e
    split at hz
    · rename_i hl
      cases hz
      obtain ⟨p, rfl, e'⟩ := map1 e
      obtain ⟨v, rfl, h⟩ := hp.one
      rw [h.str e']
      exact ⟨_, _, rfl, ⟨hl, rfl⟩, k _ H W (Ext.refl ..) c VR.int⟩
    · cases hz
  · cases hz

/-! isinstance -/
def tyB : PV → Option String
  | .non => some "NoneType"
  | .bl _ => some "bool"
  | .int _ => some "int"
  | .str _ => some "str"
  | .tup _ => some "tuple"
  | .lst _ => some "list"
  | .scr _ => some "list"
  | .dic _ => some "dict"
  | _ => none
/-- a value's class -/
def isiB : PV → Ty → Option Bool
  | .non, _ => some false
  | .bl _, .bool => some true
  | .bl _, .int => some true
  | .bl _, _ => some false
  | .int _, .int => some true
  | .int _, _ => some false
  | .str _, .str => some true
  | .str _, _ => some false
  | .tup _, .tup => some true
  | .tup _, _ => some false
  | .lst _, .lst => some true
  | .lst _, _ => some false
  | .scr _, .lst => some true
  | .scr _, _ => some false
  | .dic _, .dic => some true
  | .dic _, _ => some false
  | _, _ => none
theorem isiB_ok {p : PV} {t : Ty} {b : Bool} (h : isiB p t = some b) : ∃ s, tyB p = some s ∧ kitB s t.name = some b := by
  cases p <;> cases t <;> first | (cases h; done) | (cases h; exact ⟨_, rfl, by decide +kernel⟩)
def gIsi : List PV → Option PV
  | [p, .ty t] => (isiB p t).map .bl
  | _ => none
theorem Pk.tyx {H : Hp} {et : Hi} {W : Wd} {p : PV} {v : V} {s : String} (c : Cel K mg H et W) (h : Pk K mg p v H et W) (e : tyB (deref et p) = some s) : TyX K H v (.type s) := by
  cases q : deref et p with
  | non => rw [q] at e; cases e; rw [h.non q]; exact .base .non
  | bl b => rw [q] at e; cases e; rw [h.bl q]; exact .base (.bl b)
  | int b => rw [q] at e; cases e; rw [h.int q]; exact .base (.int b)
  | str b => rw [q] at e; cases e; rw [h.str q]; exact .base (.str b)
  | tup xs =>
    rw [q] at e; cases e
    obtain ⟨a, vs, rfl, h1, h2⟩ := h.tup q
    rcases h1 with (h1 | ⟨o, h1⟩) | ⟨o, its, n, h1, h3, _⟩
    · exact .base (.tup h1)
    · exact .fTuple h1
    · exact .kTuple h1 h3
  | lst xs =>
    rw [q] at e; cases e
    obtain ⟨a, vs, rfl, h1, h2⟩ := h.lst c q
    exact .base (.lst h1)
  | scr xs =>
    rw [q] at e; cases e
    obtain ⟨a, rfl, h1⟩ := h.scr q
    rcases h1 with ⟨o, h1⟩ | ⟨o, its, n, h1, h3, _⟩
    · exact .base (.frz h1)
    · exact .kList h1 h3
  | dic xs =>
    rw [q] at e; cases e
    obtain ⟨a, vs, rfl, h1, h2⟩ := h.dic c q
    exact .base (.dK h1)
  | ref n => rw [q] at e; cases e
  | glo n => rw [q] at e; cases e
  | ty n => rw [q] at e; cases e
theorem oA_isi : OpA K mg (rIsi K) gIsi (pV K mg) := by
  intro xs H et W ps z Q c hp hz k
  unfold gIsi at hz
  split at hz
  · rename_i q t e
    obtain ⟨p, p', rfl, e1, e2⟩ := map2 e
    obtain ⟨v, u, rfl, h1, h2⟩ := hp.two
    cases e3 : isiB q t with
    | none => rw [e3] at hz; cases hz
    | some b =>
      rw [e3] at hz; cases hz
      obtain ⟨s, h3, h4⟩ := isiB_ok e3
      have h5 := h2.val e2 rfl
      unfold VR at h5
      subst h5
      exact ⟨v, _, _, _, b, rfl, .ty _, h1.tyx c (by rw [e1]; exact h3), kit_ty h4, k _ H W (Ext.refl ..) c VR.bl⟩
  · cases hz

/-! all, any, of a list of truths -/
def bls : List PV → Option (List Bool)
  | [] => some []
  | .bl b :: r => (bls r).map (b :: ·)
  | _ => none
theorem VRs.bls {H : Hp} {W : Wd} : ∀ {ps : List PV} {vs : List V} {bs : List Bool}, VRs K mg W H ps vs → bls ps = some bs → vs = bs.map V.bl
  | [], vs, bs, h, e => by unfold VRs at h; cases e; exact h
  | .bl b :: ps, vs, bs, h, e => by
    unfold VRs at h; unfold Mw.bls at e
    obtain ⟨v, r, rfl, h1, h2⟩ := h
    cases q : Mw.bls ps with
    | none => rw [q] at e; cases e
    | some bs' =>
      rw [q] at e; cases e
      unfold VR at h1
      rw [h1, VRs.bls h2 q]; rfl
  | .non :: ps, vs, bs, h, e => by cases e
  | .int _ :: ps, vs, bs, h, e => by cases e
  | .str _ :: ps, vs, bs, h, e => by cases e
  | .tup _ :: ps, vs, bs, h, e => by cases e
  | .lst _ :: ps, vs, bs, h, e => by cases e
  | .dic _ :: ps, vs, bs, h, e => by cases e
  | .scr _ :: ps, vs, bs, h, e => by cases e
  | .ref _ :: ps, vs, bs, h, e => by cases e
  | .glo _ :: ps, vs, bs, h, e => by cases e
  | .ty _ :: ps, vs, bs, h, e => by cases e
def gAll : List PV → Option PV
  | [.lst xs] => (bls xs).map fun bs => .bl (bs.all id)
  | _ => none
def gAny : List PV → Option PV
  | [.lst xs] => (bls xs).map fun bs => .bl (bs.any id)
  | _ => none
theorem oA_all : OpA K mg (rAll K) gAll (pV K mg) := by
  intro xs H et W ps z Q c hp hz k
  unfold gAll at hz
  split at hz
  · rename_i ys e
    obtain ⟨p, rfl, e'⟩ := map1 e
    obtain ⟨v, rfl, h⟩ := hp.one
    obtain ⟨a, vs, rfl, h1, h2⟩ := h.lst c e'
    cases q : bls ys with
    | none => rw [q] at hz; cases hz
    | some bs => rw [q] at hz; cases hz; rw [h2.bls q] at h1; exact ⟨a, bs, rfl, SqL.of h1, k _ H W (Ext.refl ..) c VR.bl⟩
  · cases hz
theorem oA_any : OpA K mg (rAny K) gAny (pV K mg) := by
  intro xs H et W ps z Q c hp hz k
  unfold gAny at hz
  split at hz
  · rename_i ys e
    obtain ⟨p, rfl, e'⟩ := map1 e
    obtain ⟨v, rfl, h⟩ := hp.one
    obtain ⟨a, vs, rfl, h1, h2⟩ := h.lst c e'
    cases q : bls ys with
    | none => rw [q] at hz; cases hz
    | some bs => rw [q] at hz; cases hz; rw [h2.bls q] at h1; exact ⟨a, bs, rfl, SqL.of h1, k _ H W (Ext.refl ..) c VR.bl⟩
  · cases hz
/-! min, max of two ints; abs, int -/
def gMin2 : List PV → Option PV
  | [.int i, .int j] => some (.int (if j < i then j else i))
  | _ => none
def gMax2 : List PV → Option PV
  | [.int i, .int j] => some (.int (if j > i then j else i))
  | _ => none
def gAbs : List PV → Option PV
  | [.int i] => some (.int (if i < 0 then -i else i))
  | _ => none
def gInt : List PV → Option PV
  | [.int i] => some (.int i)
  | [.bl b] => some (.int (if b then 1 else 0))
  | _ => none
theorem oA_min2 : OpA K mg (fun xs H Q => ∃ i j, xs = [.int i, .int j] ∧ Q (.int (if j < i then j else i)) H) gMin2 (pV K mg) := by
  intro xs H et W ps z Q c hp hz k
  unfold gMin2 at hz
  split at hz
  · rename_i i j e
    cases hz
    obtain ⟨p, p', rfl, e1, e2⟩ := map2 e
    obtain ⟨v, u, rfl, h1, h2⟩ := hp.two
    exact ⟨i, j, by rw [h1.int e1, h2.int e2], k _ H W (Ext.refl ..) c VR.int⟩
  · cases hz
theorem oA_max2 : OpA K mg (fun xs H Q => ∃ i j, xs = [.int i, .int j] ∧ Q (.int (if j > i then j else i)) H) gMax2 (pV K mg) := by
  intro xs H et W ps z Q c hp hz k
  unfold gMax2 at hz
  split at hz
  · rename_i i j e
    cases hz
    obtain ⟨p, p', rfl, e1, e2⟩ := map2 e
    obtain ⟨v, u, rfl, h1, h2⟩ := hp.two
    exact ⟨i, j, by rw [h1.int e1, h2.int e2], k _ H W (Ext.refl ..) c VR.int⟩
  · cases hz
theorem oA_abs : OpA K mg (fun xs H Q => ∃ i, xs = [.int i] ∧ Q (.int (if i < 0 then -i else i)) H) gAbs (pV K mg) := by
  intro xs H et W ps z Q c hp hz k
  unfold gAbs at hz
  split at hz
  · rename_i i e
    cases hz
    obtain ⟨p, rfl, e1⟩ := map1 e
    obtain ⟨v, rfl, h1⟩ := hp.one
    exact ⟨i, by rw [h1.int e1], k _ H W (Ext.refl ..) c VR.int⟩
  · cases hz
theorem oA_int : OpA K mg (fun xs H Q => (∃ i, xs = [.int i] ∧ Q (.int i) H) ∨ ∃ k, xs = [.bl k] ∧ Q (.int (if k then 1 else 0)) H) gInt (pV K mg) := by
  intro xs H et W ps z Q c hp hz k
  unfold gInt at hz
  split at hz
  · rename_i i e
    cases hz
    obtain ⟨p, rfl, e1⟩ := map1 e
    obtain ⟨v, rfl, h1⟩ := hp.one
    exact .inl ⟨i, by rw [h1.int e1], k _ H W (Ext.refl ..) c VR.int⟩
  · rename_i i e
    cases hz
    obtain ⟨p, rfl, e1⟩ := map1 e
    obtain ⟨v, rfl, h1⟩ := hp.one
    exact .inr ⟨i, by rw [h1.bl e1], k _ H W (Ext.refl ..) c VR.int⟩
  · cases hz
/-! list(..), tuple(..) of a list or tuple -/
def gList : List PV → Option PV
  | [.lst xs] => some (.lst xs)
  | [.tup xs] => some (.lst xs)
  | _ => none
def gTuple : List PV → Option PV
  | [.lst xs] => some (.tup xs)
  | [.tup xs] => some (.tup xs)
  | _ => none
theorem oA_list : OpA K mg (fun xs H Q => ∃ p ys, xs = [.ref p] ∧ (SqL K H p ys ∨ SqT K H p ys) ∧ ∀ l, H l = none → Q (.ref l) (upd H l (.lst ys))) gList (pN K mg) := by
  intro xs H et W ps z Q c hp hz k
  unfold gList at hz
  split at hz
  · rename_i ys e
    cases hz
    obtain ⟨p, rfl, e'⟩ := map1 e
    obtain ⟨v, rfl, h⟩ := hp.one
    obtain ⟨a, vs, rfl, h1, h2⟩ := h.lst c e'
    refine ⟨a, vs, rfl, .inl (SqL.of h1), fun l hl => ?_⟩
    obtain ⟨x1, c1, r1⟩ := new_own c hl h2
    exact k _ _ _ x1 c1 r1
  · rename_i ys e
    cases hz
    obtain ⟨p, rfl, e'⟩ := map1 e
    obtain ⟨v, rfl, h⟩ := hp.one
    obtain ⟨a, vs, rfl, h1, h2⟩ := h.tup e'
    refine ⟨a, vs, rfl, .inr h1, fun l hl => ?_⟩
    obtain ⟨x1, c1, r1⟩ := new_own c hl h2
    exact k _ _ _ x1 c1 r1
  · cases hz
theorem oA_tuple : OpA K mg (fun xs H Q => ∃ p ys, xs = [.ref p] ∧ ((SqL K H p ys ∧ ∀ l, H l = none → Q (.ref l) (upd H l (.tup ys))) ∨ (SqT K H p ys ∧ Q (.ref p) H))) gTuple (pV K mg) := by
  intro xs H et W ps z Q c hp hz k
  unfold gTuple at hz
  split at hz
  · rename_i ys e
    cases hz
    obtain ⟨p, rfl, e'⟩ := map1 e
    obtain ⟨v, rfl, h⟩ := hp.one
    obtain ⟨a, vs, rfl, h1, h2⟩ := h.lst c e'
    refine ⟨a, vs, rfl, .inl ⟨SqL.of h1, fun l hl => ?_⟩⟩
    obtain ⟨x1, c1, r1⟩ := new_tup c hl h2
    exact k _ _ _ x1 c1 r1
  · rename_i ys e
    cases hz
    obtain ⟨p, rfl, e'⟩ := map1 e
    obtain ⟨v, rfl, h⟩ := hp.one
    obtain ⟨a, vs, rfl, h1, h2⟩ := h.tup e'
    refine ⟨a, vs, rfl, .inr ⟨h1, k _ H W (Ext.refl ..) c ?_⟩⟩
    show VR K mg W H (.tup ys) _
    unfold VR; exact ⟨a, vs, rfl, h1, h2⟩
  · cases hz
/-! in, not in -/
def eqP : PV → PV → Bool
  | .non, .non => true
  | .bl a, .bl b => a == b
  | .bl a, .int b => (if a then 1 else 0) == b
  | .int a, .bl b => a == (if b then 1 else 0)
  | .int a, .int b => a == b
  | .str a, .str b => decide (a = b)
  | _, _ => false
def flatP : PV → Bool
  | .non => true
  | .bl _ => true
  | .int _ => true
  | .str _ => true
  | _ => false
theorem VR.flat {W : Wd} {H : Hp} {p : PV} {v : V} (h : VR K mg W H p v) (f : flatP p = true) : flatV v = true := by
  cases p <;> first | (cases f; done) | (unfold VR at h; subst h; rfl)
theorem VR.eqP {W : Wd} {H : Hp} {p q : PV} {v u : V} (h : VR K mg W H p v) (h' : VR K mg W H q u) (f : flatP p = true) (f' : flatP q = true) : eqV v u = eqP p q := by
  cases p <;> first | (cases f; done) | (cases q <;> first | (cases f'; done) | (unfold VR at h h'; subst h; subst h'; first | rfl | (unfold eqV Mw.eqP; rw [Bool.eq_iff_iff]; simp)))
theorem VRs.flat {W : Wd} {H : Hp} : ∀ {ps : List PV} {vs : List V}, VRs K mg W H ps vs → ps.all flatP = true → vs.all flatV = true
  | [], vs, h, f => by unfold VRs at h; rw [h]; rfl
  | p :: ps, vs, h, f => by
    unfold VRs at h
    obtain ⟨v, r, rfl, h1, h2⟩ := h
    simp only [List.all_cons, Bool.and_eq_true] at f ⊢
    exact ⟨h1.flat f.1, VRs.flat h2 f.2⟩
theorem VRs.inV {W : Wd} {H : Hp} {q : PV} {u : V} (h' : VR K mg W H q u) (f' : flatP q = true) : ∀ {ps : List PV} {vs : List V}, VRs K mg W H ps vs → ps.all flatP = true → L2.inV u vs = ps.any fun y => eqP y q
  | [], vs, h, f => by unfold VRs at h; rw [h]; rfl
  | p :: ps, vs, h, f => by
    unfold VRs at h
    obtain ⟨v, r, rfl, h1, h2⟩ := h
    simp only [List.all_cons, Bool.and_eq_true] at f
    have ih := VRs.inV h' f' h2 f.2
    unfold L2.inV at ih ⊢
    rw [List.any_cons, List.any_cons, ih, h1.eqP h' f.1 f']
def inB : PV → PV → Option Bool
  | x, .lst xs => if flatP x = true ∧ xs.all flatP = true then some (xs.any fun y => eqP y x) else
    match dat x, dats xs with
    | some d, some ds => if SeqAt.shaped d = true ∧ SeqAt.shaped (.list ds) = true then some (ds.any fun z => PyData.eqv z d) else none
    | _, _ => none
  | x, .tup xs => if flatP x = true ∧ xs.all flatP = true then some (xs.any fun y => eqP y x) else none
  | .str x, .str y => if x.cps.size = 1 then some (decide (x.cps.getD 0 0 ∈ y.cps.toList)) else none
  | _, _ => none
def gIn (p q : PV) : Option PV := (inB p q).map .bl
def gNotIn (p q : PV) : Option PV := (inB p q).map fun b => .bl (!b)
def rInA (K : PySem.W.Frag) : R2 := fun x y H Q => rIn K false x y H Q ∨ rInD K x y H Q ∨ ∃ (c : Nat) (z : Str), x = .str ⟨#[c]⟩ ∧ y = .str z ∧ Q (.bl (decide (c ∈ z.cps.toList))) H
def rNotInA (K : PySem.W.Frag) : R2 := fun x y H Q => rIn K true x y H Q ∨ rNotInD K x y H Q ∨ ∃ (c : Nat) (z : Str), x = .str ⟨#[c]⟩ ∧ y = .str z ∧ Q (.bl (!decide (c ∈ z.cps.toList))) H
theorem op_inA {X : Cx} (hu : X.A.units + 65 < cLine) : OpR X (compareOp .In) (rInA X.K) := op_in_seq.or ((op_inD hu).or op_in_sign)
theorem op_notInA {X : Cx} (hu : X.A.units + 65 < cLine) : OpR X (compareOp .NotIn) (rNotInA X.K) := op_notIn_seq.or ((op_notInD hu).or op_notIn_sign)
theorem inB_ok {x y : V} {H : Hp} {et : Hi} {W : Wd} {p q : PV} {b : Bool} (c : Cel K mg H et W) (hp : Pk K mg p x H et W) (hq : Pk K mg q y H et W) (h : inB (deref et p) (deref et q) = some b) :
    (∃ p xs, y = .ref p ∧ (SqL K H p xs ∨ SqT K H p xs) ∧ flatV x = true ∧ xs.all flatV = true ∧ L2.inV x xs = b) ∨ (∃ d ds, Dp K H x d ∧ Dp K H y (.list ds) ∧ SeqAt.shaped d = true ∧ SeqAt.shaped (.list ds) = true ∧ (ds.any fun z => PyData.eqv z d) = b) ∨
    ∃ (c : Nat) (z : Str), x = .str ⟨#[c]⟩ ∧ y = .str z ∧ decide (c ∈ z.cps.toList) = b := by
  have vx : flatP (deref et p) = true → VR K mg W H (deref et p) x := fun f => hp.val rfl (by cases e : deref et p <;> rw [e] at f <;> first | rfl | (cases f; done))
  unfold inB at h
  split at h
  · rename_i w xs e
    obtain ⟨a, vs, rfl, h1, h2⟩ := hq.lst c e
    split at h
    · rename_i hf
      cases h
      have hx := vx hf.1
      exact .inl ⟨a, vs, rfl, .inl (SqL.of h1), hx.flat hf.1, h2.flat hf.2, VRs.inV hx hf.1 h2 hf.2⟩
    · split at h
      · rename_i d ds hd hds
        split at h
        · rename_i hs; cases h
          exact .inr (.inl ⟨d, ds, hp.dp c hd, .lst (SqL.of h1) (VRs.dp _ _ _ h2 hds), hs.1, hs.2, rfl⟩)
        · cases h
      · cases h
  · rename_i w xs e
    obtain ⟨a, vs, rfl, h1, h2⟩ := hq.tup e
    split at h
    · rename_i hf
      cases h
      have hx := vx hf.1
      exact .inl ⟨a, vs, rfl, .inr h1, hx.flat hf.1, h2.flat hf.2, VRs.inV hx hf.1 h2 hf.2⟩
    · cases h
  · rename_i s t e1 e2
    split at h
    · rename_i hs
      cases h
      refine .inr (.inr ⟨s.cps.getD 0 0, t, ?_, hq.str e2, rfl⟩)
      rw [hp.str e1]
      obtain ⟨⟨l⟩⟩ := s
      match l, hs with
      | [c], _ => rfl
    · cases h
  · cases h
theorem o2_in : Op2 K mg (rInA K) gIn (pV K mg) := by
  intro x y H et W p q z Q c hp hq hz k
  unfold gIn at hz
  cases e : inB (deref et p) (deref et q) with
  | none => rw [e] at hz; cases hz
  | some b =>
    rw [e] at hz; cases hz
    have qd := k _ H W (Ext.refl ..) c VR.bl
    rcases inB_ok c hp hq e with ⟨a, vs, h1, h2, h3, h4, h5⟩ | ⟨d, ds, h1, h2, h3, h4, h5⟩ | ⟨n, s, h1, h2, h3⟩
    · exact .inl ⟨a, vs, h1, h2, h3, h4, by rw [h5]; exact qd⟩
    · exact .inr (.inl ⟨d, ds, h1, h2, h3, h4, by rw [h5]; exact qd⟩)
    · exact .inr (.inr ⟨n, s, h1, h2, by rw [h3]; exact qd⟩)
theorem o2_notIn : Op2 K mg (rNotInA K) gNotIn (pV K mg) := by
  intro x y H et W p q z Q c hp hq hz k
  unfold gNotIn at hz
  cases e : inB (deref et p) (deref et q) with
  | none => rw [e] at hz; cases hz
  | some b =>
    rw [e] at hz; cases hz
    have qd := k _ H W (Ext.refl ..) c VR.bl
    rcases inB_ok c hp hq e with ⟨a, vs, h1, h2, h3, h4, h5⟩ | ⟨d, ds, h1, h2, h3, h4, h5⟩ | ⟨n, s, h1, h2, h3⟩
    · exact .inl ⟨a, vs, h1, h2, h3, h4, by rw [h5]; exact qd⟩
    · exact .inr (.inl ⟨d, ds, h1, h2, h3, h4, by rw [h5]; exact qd⟩)
    · exact .inr (.inr ⟨n, s, h1, h2, by rw [h3]; exact qd⟩)
end
end Mw

namespace Mw
open PySem PySem.Spec L2

/-! ### subscripts -/
def gIx : PV → PV → Option PV
  | .lst xs, .int i => atI xs i
  | .tup xs, .int i => atI xs i
  | .scr xs, .int i => (atI xs i).map .int
  | .str x, .int i => if x.length ≤ sizeLine then (atI x.cps.toList i).map fun c => .str ⟨#[c]⟩ else none
  | _, _ => none
section
variable {K : PySem.W.Frag} {mg : Str → Option Value} {X : Cx}
theorem VRs.at {H : Hp} {W : Wd} {ps : List PV} {vs : List V} {i : Int} {p : PV} (h : VRs K mg W H ps vs) (e : atI ps i = some p) : ∃ v, atI vs i = some v ∧ VR K mg W H p v := by
  unfold atI at e ⊢
  rw [← h.len]
  cases q : ixN ps.length i with
  | none => rw [q] at e; cases e
  | some j => rw [q] at e; exact VRs.get h e
theorem o2_ix : Op2 K mg (rIx K) gIx (pV K mg) := by
  intro x y H et W p q z Q c hp hq hz k
  unfold gIx at hz
  split at hz
  · rename_i xs i e1 e2
    obtain ⟨a, vs, rfl, h1, h2⟩ := hp.lst c e1
    obtain ⟨v, h3, h4⟩ := h2.at hz
    exact .inl ⟨a, vs, i, v, rfl, hq.int e2, SqL.of h1, h3, k _ H W (Ext.refl ..) c h4⟩
  · rename_i xs i e1 e2
    obtain ⟨a, vs, rfl, h1, h2⟩ := hp.tup e1
    obtain ⟨v, h3, h4⟩ := h2.at hz
    exact .inr (.inl ⟨a, vs, i, v, rfl, hq.int e2, h1, h3, k _ H W (Ext.refl ..) c h4⟩)
  · rename_i xs i e1 e2
    obtain ⟨a, rfl, h1⟩ := hp.scr e1
    cases e3 : atI xs i with
    | none => rw [e3] at hz; cases hz
    | some n =>
      rw [e3] at hz; cases hz
      refine .inl ⟨a, _, i, .int n, rfl, hq.int e2, h1.sq, ?_, k _ H W (Ext.refl ..) c VR.int⟩
      unfold atI at e3 ⊢
      rw [List.length_map]
      cases e4 : ixN xs.length i with
      | none => rw [e4] at e3; cases e3
      | some j => rw [e4] at e3; simp only [Option.bind_some] at e3 ⊢; rw [List.getElem?_map, e3]; rfl
  · rename_i s i e1 e2
    split at hz
    · rename_i hl
      cases e3 : atI s.cps.toList i with
      | none => rw [e3] at hz; cases hz
      | some n => rw [e3] at hz; cases hz; exact .inr (.inr ⟨s, i, n, hp.str e1, hq.int e2, hl, e3, k _ H W (Ext.refl ..) c VR.str⟩)
    · cases hz
  · cases hz
theorem sE_ix {a b : Expr} {pos : Pos} {ma mb : EM PV} (ha : SimP X a ma) (hb : SimP X b mb) (hs : PlainIx b := by exact fun _ _ => rfl) : SimE X (.Subscript a b pos) (mBin gIx ma mb) :=
  bin_weak (a := a) (b := b) early_V (pe_ix ix_seq ha hb hs) o2_ix

/-! ### slices -/
def tO (K : PySem.W.Frag) (mg : Str → Option Value) (m : EM (Option Int)) : TO := fun sg H Q => ∃ ep et W R, Cel K mg H et W ∧ Slt K mg sg ep H et W ∧ m ep et R ∧
  ∀ b et', R b et' → ∀ H' W', Ext NoO H et W H' et' W' → Cel K mg H' et' W' → Q b H'
abbrev SimO (X : Cx) (e : Option Expr) (m : EM (Option Int)) : Prop := PO X e (tO X.K X.mg m)
theorem weakO {X : Cx} {e : Option Expr} {t u : TO} (h : PO X e t) (w : ∀ σ H Q, u σ H Q → t σ H Q) : PO X e u := ⟨fun pins s σ H Q I q => h.run pins s σ H Q I (w σ H Q q)⟩
def mO0 : EM (Option Int) := fun _ et R => R none et
def mO1 (m : EM PV) : EM (Option Int) := fun ep et R => m ep et fun p et1 => ∃ i, p = .int i ∧ R (some i) et1
theorem sO_none : SimO X none mO0 := weakO po_none fun σ H Q ⟨ep, et, W, R, c, s, e, q⟩ => q none et e H W (Ext.refl ..) c
theorem sO_some {e : Expr} {m : EM PV} (h : SimE X e m) : SimO X (some e) (mO1 m) := weakO (po_some h) fun σ H Q ⟨ep, et, W, R, c, s, e, q⟩ => by
  refine ⟨ep, et, W, _, c, s, e, fun p et1 r1 v H1 W1 x1 c1 p1 => ?_⟩
  obtain ⟨i, hi, r2⟩ := r1
  subst hi
  have p2 : VR X.K X.mg W1 H1 (.int i) v := p1
  unfold VR at p2
  exact ⟨i, p2, q _ et1 r2 H1 W1 x1 c1⟩
def cutP {α : Type} (xs : List α) (lo hi : Option Int) : List α := (xs.drop (HT.sIx xs.length 0 lo)).take (HT.sIx xs.length xs.length hi - HT.sIx xs.length 0 lo)
theorem VRs.cut {H : Hp} {W : Wd} {ps : List PV} {vs : List V} (h : VRs K mg W H ps vs) (lo hi : Option Int) : VRs K mg W H (cutP ps lo hi) (cutV vs lo hi) := by
  unfold cutP cutV
  rw [← h.len]
  exact VRs.take _ (VRs.drop _ h)
def gSl (p : PV) (lo hi : Option Int) : Option PV := match p with
  | .tup xs => some (.tup (cutP xs lo hi))
  | .str x => if x.length ≤ sizeLine then some (.str (cutS x lo hi)) else none
  | _ => none
def gSlL (p : PV) (lo hi : Option Int) : Option PV := match p with
  | .lst xs => some (.lst (cutP xs lo hi))
  | .scr xs => some (.lst ((cutP xs lo hi).map .int))
  | _ => none
def mSl (g : PV → Option Int → Option Int → Option PV) (m : EM PV) (l h : EM (Option Int)) : EM PV := fun ep et R => m ep et fun p et1 => l ep et1 fun lo et2 => h ep et2 fun hi et3 => ∃ z, g (deref et3 p) lo hi = some z ∧ R z et3
def OpSl (K : PySem.W.Frag) (mg : Str → Option Value) (R : V → Option Int → Option Int → Hp → VK → Prop) (g : PV → Option Int → Option Int → Option PV) (P : Post PV) : Prop :=
  ∀ (x : V) (lo hi : Option Int) (H : Hp) (et : Hi) (W : Wd) (p z : PV) (Q : VK), Cel K mg H et W → Pk K mg p x H et W → g (deref et p) lo hi = some z →
    (∀ v H' W', Ext NoO H et W H' et W' → Cel K mg H' et W' → P z v H et W H' et W' → Q v H') → R x lo hi H Q
theorem sl_weak {a : Expr} {lo hi : Option Expr} {p2 pos : Pos} {ma : EM PV} {ml mh : EM (Option Int)} {R : V → Option Int → Option Int → Hp → VK → Prop} {g : PV → Option Int → Option Int → Option PV} {P : Post PV} (he : Early P) (hr : SlR X R) (hg : OpSl X.K X.mg R g P) (ha : SimP X a ma) (hl : SimO X lo ml) (hh : SimO X hi mh) :
    PE X (.Subscript a (.Slice lo hi none p2) pos) (tI X.K X.mg P (mSl g ma ml mh)) := weakE (pe_slice hr ha hl hh) fun σ H Q ⟨ep, et, W, R0, c, s, e, q⟩ => by
  refine ⟨ep, et, W, _, c, s, e, fun p et1 r1 v H1 W1 x1 c1 p1 => ⟨ep, et1, W1, _, c1, s.ext c x1, r1, fun lo et2 r2 H2 W2 x2 c2 => ⟨ep, et2, W2, _, c2, s.ext c (x1.NoO_trans x2), r2, fun hi et3 r3 H3 W3 x3 c3 => ?_⟩⟩⟩
  obtain ⟨z, hz, r4⟩ := r3
  have x13 := (x1.NoO_trans x2).NoO_trans x3
  refine hg v lo hi H3 et3 W3 p z Q c3 (Pk.ext (x2.NoO_trans x3) c1 p1) hz fun w H4 W4 x4 c4 p4 => ?_
  exact q z et3 r4 w H4 W4 (x13.NoO_trans x4) c4 (he _ _ _ _ _ _ _ _ _ _ _ x13 p4)
def rSlTS (K : PySem.W.Frag) : V → Option Int → Option Int → Hp → VK → Prop := fun x lo hi H Q => rSlA K x lo hi H Q ∨ rSlS x lo hi H Q
theorem cutP_whole {α : Type} {xs : List α} {lo hi : Option Int} (h : HT.sIx xs.length 0 lo = 0 ∧ HT.sIx xs.length xs.length hi = xs.length) : cutP xs lo hi = xs := by
  unfold cutP
  rw [h.1, h.2, List.drop_zero, Nat.sub_zero, List.take_length]
theorem oS_ts : OpSl K mg (rSlTS K) gSl (pV K mg) := by
  intro x lo hi H et W p z Q c hp hz k
  unfold gSl at hz
  split at hz
  · rename_i xs e
    cases hz
    obtain ⟨a, vs, rfl, h1, h2⟩ := hp.tup e
    refine .inl ⟨a, vs, rfl, h1, fun hw => ?_, fun _ t ht => ?_⟩
    · rw [← h2.len] at hw
      refine k _ H W (Ext.refl ..) c ?_
      show VR K mg W H (.tup (cutP xs lo hi)) _
      rw [cutP_whole hw]
      unfold VR; exact ⟨a, vs, rfl, h1, h2⟩
    · obtain ⟨x1, c1, r1⟩ := new_tup c ht (h2.cut lo hi)
      exact k _ _ W x1 c1 r1
  · rename_i s e
    split at hz
    · rename_i hl; cases hz
      exact .inr ⟨s, hp.str e, hl, k _ H W (Ext.refl ..) c VR.str⟩
    · cases hz
  · cases hz
theorem VRs.ints {W : Wd} {H : Hp} : ∀ ns : List Int, VRs K mg W H (ns.map .int) (ns.map .int)
  | [] => VRs.nil
  | n :: ns => VRs.cons VR.int (VRs.ints ns)
theorem cutV_map (ns : List Int) (lo hi : Option Int) : cutV (ns.map V.int) lo hi = (cutP ns lo hi).map V.int := by
  unfold cutV cutP
  rw [List.length_map, List.map_take, List.map_drop]
theorem oS_l : OpSl K mg (rSlL K) gSlL (pN K mg) := by
  intro x lo hi H et W p z Q c hp hz k
  unfold gSlL at hz
  split at hz
  · rename_i xs e
    cases hz
    obtain ⟨a, vs, rfl, h1, h2⟩ := hp.lst c e
    refine ⟨a, vs, rfl, SqL.of h1, fun t ht => ?_⟩
    obtain ⟨x1, c1, r1⟩ := new_own c ht (h2.cut lo hi)
    exact k _ _ _ x1 c1 r1
  · rename_i xs e
    cases hz
    obtain ⟨a, rfl, h1⟩ := hp.scr e
    refine ⟨a, _, rfl, h1.sq, fun t ht => ?_⟩
    rw [cutV_map]
    obtain ⟨x1, c1, r1⟩ := new_own c ht (VRs.ints (cutP xs lo hi))
    exact k _ _ _ x1 c1 r1
  · cases hz
theorem sE_sl {a : Expr} {lo hi : Option Expr} {p2 pos : Pos} {ma : EM PV} {ml mh : EM (Option Int)} (ha : SimP X a ma) (hl : SimO X lo ml) (hh : SimO X hi mh) : SimE X (.Subscript a (.Slice lo hi none p2) pos) (mSl gSl ma ml mh) :=
  sl_weak early_V (sl_tupA.or sl_str) oS_ts ha hl hh
theorem sN_sl {a : Expr} {lo hi : Option Expr} {p2 pos : Pos} {ma : EM PV} {ml mh : EM (Option Int)} (ha : SimP X a ma) (hl : SimO X lo ml) (hh : SimO X hi mh) : SimN X (.Subscript a (.Slice lo hi none p2) pos) (mSl gSlL ma ml mh) :=
  sl_weak early_N sl_list oS_l ha hl hh
/-- xs[::-1] -/
def gRevL : PV → Option PV
  | .lst xs => some (.lst xs.reverse)
  | _ => none
theorem sN_revL {a : Expr} {k : Nat} {p1 p2 p3 pos : Pos} {ma : EM PV} (ha : SimP X a ma) : SimN X (.Subscript a (.Slice none none (some (.UnaryOp .USub (.Constant (.int 1) k p1) p2)) p3) pos) (mUn gRevL ma) :=
  un_weak (R := fun x H Q => ∃ a xs, x = .ref a ∧ SqL X.K H a xs ∧ ∀ p, H p = none → Q (.ref p) (upd H p (.lst xs.reverse))) early_N (pe_revL ha) (by
    intro x H et W p z Q c hp hz k
    unfold gRevL at hz
    split at hz
    · rename_i xs e
      cases hz
      obtain ⟨a, vs, rfl, h1, h2⟩ := hp.lst c e
      refine ⟨a, vs, rfl, SqL.of h1, fun t ht => ?_⟩
      obtain ⟨x1, c1, r1⟩ := new_own c ht (VRs.reverse h2)
      exact k _ _ _ x1 c1 r1
    · cases hz)

/-! ### displays -/
def mTup (ms : EM (List PV)) : EM PV := fun ep et R => ms ep et fun ps et1 => ps.length ≤ sizeLine ∧ R (.tup ps) et1
def mLst (ms : EM (List PV)) : EM PV := fun ep et R => ms ep et fun ps et1 => ps.length ≤ sizeLine ∧ R (.lst ps) et1
theorem sE_tup {es : List Expr} {ms : EM (List PV)} {x1 pos} (h : SimA X es ms) : SimE X (.Tuple es x1 pos) (mTup ms) := weakE (pe_tup h) fun σ H Q ⟨ep, et, W, R, c, s, e, q⟩ => by
  refine ⟨ep, et, W, _, c, s, e, fun ps et1 r1 vs H1 W1 x1 c1 p1 => ⟨by rw [← p1.len]; exact r1.1, fun t ht => ?_⟩⟩
  obtain ⟨x2, c2, r2⟩ := new_tup c1 ht p1
  exact q _ et1 r1.2 _ _ W1 (x1.NoO_trans x2) c2 r2
theorem sN_lst {es : List Expr} {ms : EM (List PV)} {pos} (h : SimA X es ms) : SimN X (.List es pos) (mLst ms) := weakE (pe_lst h) fun σ H Q ⟨ep, et, W, R, c, s, e, q⟩ => by
  refine ⟨ep, et, W, _, c, s, e, fun ps et1 r1 vs H1 W1 x1 c1 p1 => ⟨by rw [← p1.len]; exact r1.1, fun t ht => ?_⟩⟩
  obtain ⟨x2, c2, r2⟩ := new_own c1 ht p1
  exact q _ et1 r1.2 _ _ W1 (x1.NoO_trans x2) c2 (early_N _ _ _ _ _ _ _ _ _ _ _ x1 r2)

/-! ### dicts -/
def keyP : PV → Option Key
  | .int i => some (.inl i)
  | .str x => some (.inr x)
  | _ => none
def valP (ks : List (Key × PV)) (k : Key) : Option PV := (ks.find? fun kv => decide (kv.1 = k)).map (·.2)
def putP (ks : List (Key × PV)) (k : Key) (p : PV) : List (Key × PV) :=
  if (ks.any fun kv => decide (kv.1 = k)) = true then ks.map (fun kv => if kv.1 = k then (kv.1, p) else kv) else ks ++ [(k, p)]
def mergeP (ks more : List (Key × PV)) : List (Key × PV) := more.foldl (fun acc kv => putP acc kv.1 kv.2) ks
theorem VR.key {W : Wd} {H : Hp} {p : PV} {v : V} {k : Key} (h : VR K mg W H p v) (e : keyP p = some k) : v = kV k := by
  cases p <;> first | (cases e; done) | (cases e; unfold VR at h; exact h)
theorem VRk.len {W : Wd} {H : Hp} : ∀ {ks : List (Key × PV)} {vs : List (Key × V)}, VRk K mg W H ks vs → ks.length = vs.length
  | [], vs, h => by unfold VRk at h; rw [h]; rfl
  | (k, p) :: r, vs, h => by
    unfold VRk at h
    obtain ⟨v, t, e, _, h2⟩ := h
    rw [e, List.length_cons, List.length_cons, VRk.len h2]
theorem VRk.val {W : Wd} {H : Hp} {k : Key} : ∀ {ks : List (Key × PV)} {vs : List (Key × V)}, VRk K mg W H ks vs → (∀ p, valP ks k = some p → ∃ v, valV vs k = some v ∧ VR K mg W H p v) ∧ (valP ks k = none → valV vs k = none)
  | [], vs, h => by
    unfold VRk at h; subst h
    exact ⟨fun p e => by simp [valP] at e, fun _ => rfl⟩
  | (k', p) :: r, vs, h => by
    unfold VRk at h
    obtain ⟨v, t, rfl, h1, h2⟩ := h
    obtain ⟨i1, i2⟩ := VRk.val (k := k) h2
    by_cases e : k' = k
    · refine ⟨fun q hq => ⟨v, valV_pos e, ?_⟩, fun hq => ?_⟩
      · have : valP ((k', p) :: r) k = some p := by simp [valP, List.find?_cons, e]
        rw [this] at hq; cases hq; exact h1
      · have : valP ((k', p) :: r) k = some p := by simp [valP, List.find?_cons, e]
        rw [this] at hq; cases hq
    · have e1 : valP ((k', p) :: r) k = valP r k := by simp [valP, List.find?_cons, e]
      have e2 : valV ((k', v) :: t) k = valV t k := valV_neg e
      rw [e1, e2]
      exact ⟨i1, i2⟩
theorem VRk.app {W : Wd} {H : Hp} {k : Key} {p : PV} {v : V} (hv : VR K mg W H p v) : ∀ {ks : List (Key × PV)} {vs : List (Key × V)}, VRk K mg W H ks vs → VRk K mg W H (ks ++ [(k, p)]) (vs ++ [(k, v)])
  | [], vs, h => by unfold VRk at h; subst h; show VRk K mg W H [(k, p)] [(k, v)]; unfold VRk; exact ⟨v, [], rfl, hv, by unfold VRk; rfl⟩
  | (k', q) :: r, vs, h => by
    unfold VRk at h
    obtain ⟨u, t, rfl, h1, h2⟩ := h
    show VRk K mg W H ((k', q) :: (r ++ [(k, p)])) _
    unfold VRk
    exact ⟨u, t ++ [(k, v)], rfl, h1, VRk.app hv h2⟩
theorem VRk.any {W : Wd} {H : Hp} {k : Key} : ∀ {ks : List (Key × PV)} {vs : List (Key × V)}, VRk K mg W H ks vs → (ks.any fun kv => decide (kv.1 = k)) = vs.any fun kv => decide (kv.1 = k)
  | [], vs, h => by unfold VRk at h; subst h; rfl
  | (k', q) :: r, vs, h => by
    unfold VRk at h
    obtain ⟨u, t, rfl, h1, h2⟩ := h
    rw [List.any_cons, List.any_cons, VRk.any h2]
theorem VRk.over {W : Wd} {H : Hp} {k : Key} {p : PV} {v : V} (hv : VR K mg W H p v) : ∀ {ks : List (Key × PV)} {vs : List (Key × V)}, VRk K mg W H ks vs →
    VRk K mg W H (ks.map fun kv => if kv.1 = k then (kv.1, p) else kv) (vs.map fun kv => if kv.1 = k then (kv.1, v) else kv)
  | [], vs, h => by unfold VRk at h; subst h; show VRk K mg W H [] []; unfold VRk; rfl
  | (k', q) :: r, vs, h => by
    unfold VRk at h
    obtain ⟨u, t, rfl, h1, h2⟩ := h
    have ih := VRk.over (k := k) hv h2
    rw [List.map_cons, List.map_cons]
    by_cases e : k' = k
    · simp only [e, if_true]; unfold VRk; exact ⟨v, _, rfl, hv, ih⟩
    · simp only [e, if_false]; unfold VRk; exact ⟨u, _, rfl, h1, ih⟩
theorem VRk.put {W : Wd} {H : Hp} {k : Key} {p : PV} {v : V} (hv : VR K mg W H p v) {ks : List (Key × PV)} {vs : List (Key × V)} (h : VRk K mg W H ks vs) : VRk K mg W H (putP ks k p) (putK vs k v) := by
  unfold putP putK
  rw [h.any]
  split
  · exact VRk.over hv h
  · exact VRk.app hv h
theorem VRk.merge {W : Wd} {H : Hp} : ∀ {more : List (Key × PV)} {ws : List (Key × V)} {ks : List (Key × PV)} {vs : List (Key × V)}, VRk K mg W H more ws → VRk K mg W H ks vs → VRk K mg W H (mergeP ks more) (mergeK vs ws)
  | [], ws, ks, vs, h, h' => by unfold VRk at h; subst h; exact h'
  | (k, p) :: r, ws, ks, vs, h, h' => by
    unfold VRk at h
    obtain ⟨u, t, rfl, h1, h2⟩ := h
    show VRk K mg W H (mergeP (putP ks k p) r) (mergeK (putK vs k u) t)
    exact VRk.merge h2 (VRk.put h1 h')
theorem new_ownD {H : Hp} {et : Hi} {W : Wd} (c : Cel K mg H et W) {p : Addr} (hp : H p = none) {ps : List (Key × PV)} {vs : List (Key × V)} (h : VRk K mg W H ps vs) :
    Ext NoO H et W (upd H p (.dK vs)) et W ∧ Cel K mg (upd H p (.dK vs)) et W ∧ pN K mg (.dic ps) (.ref p) H et W (upd H p (.dK vs)) et W := by
  have x : Ext NoO H et W (upd H p (.dK vs)) et W := Ext.new hp W rfl (fun _ h => h) fun _ h => .inl h
  refine ⟨x, c.new hp W rfl (fun _ h => h) fun _ h => .inl h, p, rfl, hp, fun z => c.fzh p z hp, ?_, ?_⟩
  · exact c.not_live hp
  · exact ⟨vs, upd_same, VRk.ext x c.stays0 _ _ h⟩
/-- {} -/
def mDic0 : EM PV := fun _ et R => R (.dic []) et
theorem sN_dic0 {pos} : SimN X (.Dict [] [] pos) mDic0 := weakE pe_dnewK fun σ H Q ⟨ep, et, W, R, c, s, e, q⟩ => fun p hp => by
  obtain ⟨x1, c1, r1⟩ := new_ownD c hp (show VRk X.K X.mg W H [] [] by unfold VRk; rfl)
  exact q _ et e _ _ W x1 c1 r1
/-- d[k] -/
def gDGet : PV → PV → Option PV
  | .dic ks, k => (keyP k).bind fun k => valP ks k
  | _, _ => none
theorem plain_key {p : PV} {k : Key} (e : keyP p = some k) : Plain p = true := by cases p <;> first | (cases e; done) | rfl
theorem sE_dget {a b : Expr} {pos : Pos} {ma mb : EM PV} (hu : X.A.units + 1 < cLine) (ha : SimP X a ma) (hb : SimP X b mb) (hs : NoSl b := by exact fun _ _ => rfl) : SimE X (.Subscript a b pos) (mBin gDGet ma mb) :=
  weakE (pe_dget hu ha hb hs) fun σ H Q ⟨ep, et, W, R0, c, s, e, q⟩ => by
  refine ⟨ep, et, W, _, c, s, e, fun p et1 r1 v H1 W1 x1 c1 p1 => ⟨ep, et1, W1, _, c1, s.ext c x1, r1, fun p' et2 r2 u H2 W2 x2 c2 p2 => ?_⟩⟩
  obtain ⟨z, hz, r3⟩ := r2
  have p1' : Pk X.K X.mg p v H2 et2 W2 := Pk.ext x2 c1 p1
  have p2' : Pk X.K X.mg p' u H2 et2 W2 := p2
  unfold gDGet at hz
  split at hz
  · rename_i ks e1
    cases e2 : keyP (deref et2 p') with
    | none => rw [e2] at hz; cases hz
    | some k =>
      rw [e2] at hz
      obtain ⟨a, vs, rfl, h1, h2⟩ := p1'.dic c2 e1
      obtain ⟨v', h3, h4⟩ := (VRk.val (k := k) h2).1 z hz
      have hk := (p2'.val rfl (plain_key e2)).key e2
      subst hk
      exact ⟨a, v', rfl, by rw [← h3]; exact DGet.k h1, q z et2 r3 v' H2 W2 (x1.NoO_trans x2) c2 h4⟩
  · cases hz
/-- k in d, k not in d -/
def dinB : PV → PV → Option Bool
  | k, .dic ks => (keyP k).map fun k => (valP ks k).isSome
  | _, _ => none
theorem dinB_ok {H : Hp} {et : Hi} {W : Wd} {p p' : PV} {v u : V} {b : Bool} (c : Cel K mg H et W) (hp : Pk K mg p v H et W) (hq : Pk K mg p' u H et W) (h : dinB (deref et p) (deref et p') = some b) : ∃ a o, u = .ref a ∧ DGet H a v o ∧ o.isSome = b := by
  unfold dinB at h
  split at h
  · rename_i ks e1
    cases e2 : keyP (deref et p) with
    | none => rw [e2] at h; cases h
    | some k =>
      rw [e2] at h; cases h
      obtain ⟨a, vs, rfl, h1, h2⟩ := hq.dic c e1
      have hk := (hp.val rfl (plain_key e2)).key e2
      subst hk
      refine ⟨a, _, rfl, DGet.k h1, ?_⟩
      obtain ⟨i1, i2⟩ := VRk.val (k := k) h2
      cases e3 : valP ks k with
      | none => simp only [i2 e3, e3]; rfl
      | some z => obtain ⟨v', e4, _⟩ := i1 z e3; simp only [e4, e3]; rfl
  · cases h
def gDIn (k d : PV) : Option PV := (dinB k d).map .bl
def gDNotIn (k d : PV) : Option PV := (dinB k d).map fun b => .bl (!b)
section
variable {a b : Expr} {pos : Pos} {ma mb : EM PV}
theorem tDIn_weak (ha : SimP X a ma) (hb : SimP X b mb) : ∀ σ H Q, tI X.K X.mg (pV X.K X.mg) (mBin gDIn ma mb) σ H Q → tDIn (tI X.K X.mg (pP X.K X.mg) ma) (tI X.K X.mg (pP X.K X.mg) mb) σ H Q := fun σ H Q ⟨ep, et, W, R0, c, s, e, q⟩ => by
  refine ⟨ep, et, W, _, c, s, e, fun p et1 r1 v H1 W1 x1 c1 p1 => ⟨ep, et1, W1, _, c1, s.ext c x1, r1, fun p' et2 r2 u H2 W2 x2 c2 p2 => ?_⟩⟩
  obtain ⟨z, hz, r3⟩ := r2
  unfold gDIn at hz
  cases e1 : dinB (deref et2 p) (deref et2 p') with
  | none => rw [e1] at hz; cases hz
  | some d =>
    rw [e1] at hz; cases hz
    obtain ⟨a', o, h1, h2, h3⟩ := dinB_ok c2 (Pk.ext x2 c1 p1) p2 e1
    exact ⟨a', o, h1, h2, by rw [h3]; exact q _ et2 r3 _ H2 W2 (x1.NoO_trans x2) c2 VR.bl⟩
theorem tDNotIn_weak (ha : SimP X a ma) (hb : SimP X b mb) : ∀ σ H Q, tI X.K X.mg (pV X.K X.mg) (mBin gDNotIn ma mb) σ H Q → tDNotIn (tI X.K X.mg (pP X.K X.mg) ma) (tI X.K X.mg (pP X.K X.mg) mb) σ H Q := fun σ H Q ⟨ep, et, W, R0, c, s, e, q⟩ => by
  refine ⟨ep, et, W, _, c, s, e, fun p et1 r1 v H1 W1 x1 c1 p1 => ⟨ep, et1, W1, _, c1, s.ext c x1, r1, fun p' et2 r2 u H2 W2 x2 c2 p2 => ?_⟩⟩
  obtain ⟨z, hz, r3⟩ := r2
  unfold gDNotIn at hz
  cases e1 : dinB (deref et2 p) (deref et2 p') with
  | none => rw [e1] at hz; cases hz
  | some d =>
    rw [e1] at hz; cases hz
    obtain ⟨a', o, h1, h2, h3⟩ := dinB_ok c2 (Pk.ext x2 c1 p1) p2 e1
    exact ⟨a', o, h1, h2, by rw [h3]; exact q _ et2 r3 _ H2 W2 (x1.NoO_trans x2) c2 VR.bl⟩
theorem sE_din (hu : X.A.units + 1 < cLine) (ha : SimP X a ma) (hb : SimP X b mb) (h1 : behindInMarks .In b = false := by rfl) : SimE X (.Compare a [.In] [b] pos) (mBin gDIn ma mb) := weakE (pe_cmp (pc_din hu ha hb) h1) (tDIn_weak ha hb)
theorem sE_dnotin (hu : X.A.units + 1 < cLine) (ha : SimP X a ma) (hb : SimP X b mb) (h1 : behindInMarks .NotIn b = false := by rfl) : SimE X (.Compare a [.NotIn] [b] pos) (mBin gDNotIn ma mb) := weakE (pe_cmp (pc_dnotin hu ha hb) h1) (tDNotIn_weak ha hb)
end
/-- d.get(k, x) -/
def gDGet2 : PV → PV → PV → Option PV
  | .dic ks, k, x => (keyP k).map fun k => (valP ks k).getD x
  | _, _, _ => none
def mDGet2 (ma mb mc : EM PV) : EM PV := fun ep et R => ma ep et fun a et1 => (∃ ks, deref et1 a = .dic ks) ∧ mb ep et1 fun b et2 => mc ep et2 fun d et3 => ∃ z, gDGet2 (deref et3 a) (deref et3 b) d = some z ∧ R z et3
theorem sE_dget2 {o k x : Expr} {apos cpos : Pos} {ma mb mc : EM PV} (hu : X.A.units + 1 < cLine) (ho : SimP X o ma) (hk : SimP X k mb) (hx : SimE X x mc) (m : M2 X o "get" apos k x cpos) : SimE X (.Call (.Attribute o "get" apos) [k, x] [] cpos) (mDGet2 ma mb mc) :=
  weakE (pe_dget2 hu ho hk hx m) fun σ H Q ⟨ep, et, W, R0, c, s, e, q⟩ => by
  refine ⟨ep, et, W, _, c, s, e, fun p et1 r1 v H1 W1 x1 c1 p1 => ?_⟩
  obtain ⟨⟨ks, hks⟩, r1⟩ := r1
  have p1' : Pk X.K X.mg p v H1 et1 W1 := p1
  obtain ⟨a, vs, rfl, h1, h2⟩ := p1'.dic c1 hks
  refine ⟨a, rfl, .inl ⟨vs, .inl h1⟩, ep, et1, W1, _, c1, s.ext c x1, r1, fun p' et2 r2 u H2 W2 x2 c2 p2 => ⟨ep, et2, W2, _, c2, s.ext c (x1.NoO_trans x2), r2, fun p3 et3 r3 w H3 W3 x3 c3 p4 => ?_⟩⟩
  obtain ⟨z, hz, r4⟩ := r3
  have q1 : Pk X.K X.mg p _ H3 et3 W3 := Pk.ext (x2.NoO_trans x3) c1 p1
  have q2 : Pk X.K X.mg p' u H3 et3 W3 := Pk.ext x3 c2 p2
  unfold gDGet2 at hz
  split at hz
  · rename_i ks' e1
    cases e2 : keyP (deref et3 p') with
    | none => rw [e2] at hz; cases hz
    | some k =>
      rw [e2] at hz; cases hz
      obtain ⟨a', vs', e4, h3, h4⟩ := q1.dic c3 e1
      cases e4
      have hk := (q2.val rfl (plain_key e2)).key e2
      subst hk
      refine ⟨_, DGet.k h3, ?_⟩
      have x13 := (x1.NoO_trans x2).NoO_trans x3
      obtain ⟨i1, i2⟩ := VRk.val (k := k) h4
      cases e3 : valP ks' k with
      | none => rw [i2 e3]; simp only [e3, Option.getD_none] at r4; exact q _ et3 r4 _ H3 W3 x13 c3 p4
      | some z => obtain ⟨v', e5, e6⟩ := i1 z e3; rw [e5]; simp only [e3, Option.getD_some] at r4; exact q _ et3 r4 _ H3 W3 x13 c3 e6
  · cases hz
end
end Mw

namespace Mw
open PySem PySem.Spec L2

/-! ### the local names behind a store -/
section
variable {K : PySem.W.Frag} {mg : Str → Option Value} {H H1 : Hp} {et et1 : Hi} {W W1 : Wd} {sg : L2.St} {ep : En}
theorem getset {α : Type} {l : List α} {i j : Nat} {a b : α} (h : (l.set i a)[j]? = some b) : (j = i ∧ b = a ∧ i < l.length) ∨ (j ≠ i ∧ l[j]? = some b) := by
  by_cases e : j = i
  · subst e
    have hl : j < l.length := by
      have := (List.getElem?_eq_some_iff.mp h).1
      rwa [List.length_set] at this
    rw [List.getElem?_set_self hl] at h
    cases h
    exact .inl ⟨rfl, rfl, hl⟩
  · rw [List.getElem?_set_ne (Ne.symm e)] at h
    exact .inr ⟨e, h⟩
theorem own_set_sub {i : Nat} {p : PV} {v : V} {a : Addr} (h : Own (ep.set i (.val p)) (sg.set i (some v)) a) : Own ep sg a := by
  obtain ⟨j, q, h1, h2⟩ := h
  rcases getset h1 with ⟨_, e, _⟩ | ⟨hj, h1⟩
  · cases e
  · rcases getset h2 with ⟨e, _⟩ | ⟨_, h2⟩
    · exact absurd e hj
    · exact ⟨j, q, h1, h2⟩
theorem Slt.set_val (s : Slt K mg sg ep H et W) {i : Nat} {p : PV} {v : V} (hv : VR K mg W H p v) : Slt K mg (sg.set i (some v)) (ep.set i (.val p)) H et W where
  len := by rw [List.length_set, List.length_set, s.len]
  ok := fun j t o h1 h2 => by
    rcases getset h1 with ⟨rfl, rfl, _⟩ | ⟨hj, h1⟩
    · rcases getset h2 with ⟨_, rfl, _⟩ | ⟨e, _⟩
      · exact ⟨v, rfl, hv⟩
      · exact absurd rfl e
    · rcases getset h2 with ⟨e, _⟩ | ⟨_, h2⟩
      · exact absurd e hj
      · exact s.ok j t o h1 h2
  inj := fun a b p q x h1 h2 h3 h4 => by
    rcases getset h1 with ⟨_, e, _⟩ | ⟨ha, h1⟩
    · cases e
    · rcases getset h2 with ⟨_, e, _⟩ | ⟨hb, h2⟩
      · cases e
      · rcases getset h3 with ⟨e, _⟩ | ⟨_, h3⟩
        · exact absurd e ha
        · rcases getset h4 with ⟨e, _⟩ | ⟨_, h4⟩
          · exact absurd e hb
          · exact s.inj a b p q x h1 h2 h3 h4
  ofz := fun a h => s.ofz a (own_set_sub h)
  oli := fun a h => s.oli a (own_set_sub h)
theorem own_set_own {i : Nat} {p : PV} {b a : Addr} (h : Own (ep.set i (.own p)) (sg.set i (some (.ref b))) a) : Own ep sg a ∨ a = b := by
  obtain ⟨j, q, h1, h2⟩ := h
  rcases getset h1 with ⟨e, _, _⟩ | ⟨hj, h1⟩
  · subst e
    rcases getset h2 with ⟨_, e, _⟩ | ⟨e, _⟩
    · cases e; exact .inr rfl
    · exact absurd rfl e
  · rcases getset h2 with ⟨e, _⟩ | ⟨_, h2⟩
    · exact absurd e hj
    · exact .inl ⟨j, q, h1, h2⟩
/-- a new list or dict is stored -/
theorem Slt.set_own (s : Slt K mg sg ep H et W) {i : Nat} {p : PV} {b : Addr} (hn : ¬ Own ep sg b) (hf : ¬ W.fz b) (hl : ¬ Live et W b) (ho : OwnAt K mg W H p b) : Slt K mg (sg.set i (some (.ref b))) (ep.set i (.own p)) H et W where
  len := by rw [List.length_set, List.length_set, s.len]
  ok := fun j t o h1 h2 => by
    rcases getset h1 with ⟨rfl, rfl, _⟩ | ⟨hj, h1⟩
    · rcases getset h2 with ⟨_, rfl, _⟩ | ⟨e, _⟩
      · exact ⟨b, rfl, ho⟩
      · exact absurd rfl e
    · rcases getset h2 with ⟨e, _⟩ | ⟨_, h2⟩
      · exact absurd e hj
      · exact s.ok j t o h1 h2
  inj := fun a c p' q x h1 h2 h3 h4 => by
    rcases getset h1 with ⟨ea, _, _⟩ | ⟨ha, g1⟩
    · rcases getset h3 with ⟨_, e, _⟩ | ⟨e, _⟩
      · rcases getset h2 with ⟨ec, _, _⟩ | ⟨hc, g2⟩
        · exact ea.trans ec.symm
        · rcases getset h4 with ⟨e, _⟩ | ⟨_, g4⟩
          · exact absurd e hc
          · cases e; exact absurd ⟨c, q, g2, g4⟩ hn
      · exact absurd ea e
    · rcases getset h3 with ⟨e, _⟩ | ⟨_, g3⟩
      · exact absurd e ha
      · rcases getset h2 with ⟨ec, _, _⟩ | ⟨hc, g2⟩
        · rcases getset h4 with ⟨_, e, _⟩ | ⟨e, _⟩
          · cases e; exact absurd ⟨a, p', g1, g3⟩ hn
          · exact absurd ec e
        · rcases getset h4 with ⟨e, _⟩ | ⟨_, g4⟩
          · exact absurd e hc
          · exact s.inj a c p' q x g1 g2 g3 g4
  ofz := fun a h => by
    rcases own_set_own h with h | rfl
    · exact s.ofz a h
    · exact hf
  oli := fun a h => by
    rcases own_set_own h with h | rfl
    · exact s.oli a h
    · exact hl
/-- a name forgets its value, and what it held -/
theorem Slt.set_no (s : Slt K mg sg ep H et W) {i : Nat} {o : Option V} : Slt K mg (sg.set i o) (ep.set i .no) H et W := by
  have sub : ∀ {a}, Own (ep.set i .no) (sg.set i o) a → Own ep sg a := fun {a} h => by
    obtain ⟨j, q, h1, h2⟩ := h
    rcases getset h1 with ⟨_, e, _⟩ | ⟨hj, h1⟩
    · cases e
    · rcases getset h2 with ⟨e, _⟩ | ⟨_, h2⟩
      · exact absurd e hj
      · exact ⟨j, q, h1, h2⟩
  refine ⟨by rw [List.length_set, List.length_set, s.len], fun j t o' h1 h2 => ?_, fun a b p q x h1 h2 h3 h4 => ?_, fun a h => s.ofz a (sub h), fun a h => s.oli a (sub h)⟩
  · rcases getset h1 with ⟨rfl, rfl, _⟩ | ⟨hj, h1⟩
    · trivial
    · rcases getset h2 with ⟨e, _⟩ | ⟨_, h2⟩
      · exact absurd e hj
      · exact s.ok j t o' h1 h2
  · rcases getset h1 with ⟨_, e, _⟩ | ⟨ha, h1⟩
    · cases e
    · rcases getset h2 with ⟨_, e, _⟩ | ⟨hb, h2⟩
      · cases e
      · rcases getset h3 with ⟨e, _⟩ | ⟨_, h3⟩
        · exact absurd e ha
        · rcases getset h4 with ⟨e, _⟩ | ⟨_, h4⟩
          · exact absurd e hb
          · exact s.inj a b p q x h1 h2 h3 h4
/-- a list or dict that a name alone holds is given away: frozen, and the name holds the value -/
def frzS (ep : En) (i : Nat) : En := match ep[i]? with
  | some (.own p) => ep.set i (.val p)
  | _ => ep
theorem Slt.frz (s : Slt K mg sg ep H et W) (c : Cel K mg H et W) (i : Nat) : ∃ W', Ext (Own ep sg) H et W H et W' ∧ Cel K mg H et W' ∧ Slt K mg sg (frzS ep i) H et W' ∧ ∀ a, Own (frzS ep i) sg a → Own ep sg a := by
  unfold frzS
  split
  · rename_i p hp
    have hl : i < sg.length := by rw [← s.len]; exact (List.getElem?_eq_some_iff.mp hp).1
    obtain ⟨a, ev, hv⟩ := s.ok i _ _ hp (List.getElem?_eq_getElem hl)
    have hσ : sg[i]? = some (some (.ref a)) := by rw [List.getElem?_eq_getElem hl, ev]
    have ow : Own ep sg a := ⟨i, p, hp, hσ⟩
    obtain ⟨c2, st, vr⟩ := c.freeze (s.oli a ow) (s.ofz a ow) hv
    have sub : ∀ {b}, Own (ep.set i (.val p)) sg b → Own ep sg b ∧ b ≠ a := fun {b} h => by
      obtain ⟨j, q, h1, h2⟩ := h
      rcases getset h1 with ⟨_, e, _⟩ | ⟨hj, h1⟩
      · cases e
      · refine ⟨⟨j, q, h1, h2⟩, fun e => ?_⟩
        subst e
        exact hj (s.inj j i q p b h1 hp h2 hσ)
    refine ⟨W.add a, ⟨fun b h => .inl h, fun b h => h.imp_right fun e => .inr (by rw [e]; exact ow), ⟨[], by simp⟩, fun b h => .inl h, fun b o h _ _ => h, fun b h => h⟩, c2, ⟨by rw [List.length_set]; exact s.len, fun j t o h1 h2 => ?_, fun x y q r z h1 h2 h3 h4 => ?_, fun b h z => ?_, fun b h => s.oli b (sub h).1⟩, fun b h => (sub h).1⟩
    · rcases getset h1 with ⟨rfl, rfl, _⟩ | ⟨hj, h1⟩
      · rw [hσ] at h2; cases h2; exact ⟨_, rfl, vr⟩
      · have k := s.ok j t o h1 h2
        cases t with
        | no => trivial
        | val q => obtain ⟨v, e, h⟩ := k; exact ⟨v, e, st q v h⟩
        | own q =>
          obtain ⟨b, e, h⟩ := k
          refine ⟨b, e, ?_⟩
          have x : Ext (fun b => b = a) H et W H et (W.add a) := ⟨fun _ h => .inl h, fun b h => h.imp_right fun h => .inr h, ⟨[], by simp⟩, fun _ h => .inl h, fun _ _ h _ _ => h, fun _ h => h⟩
          have sy : Stays (fun b => b = a) H et W := ⟨fun b h => ⟨c.fzl b h, fun e => s.ofz a ow (e ▸ h)⟩, fun b xs h => ⟨(c.stays0.tup b xs h).1, fun e => by
            rcases hv.kind with ⟨_, k⟩ | ⟨_, k⟩ <;> (rw [← e, h] at k; cases k)⟩, fun b o u h => ⟨(c.stays0.frz b o u h).1, fun e => by
            rcases hv.kind with ⟨_, k⟩ | ⟨_, k⟩ <;> (rw [← e, h] at k; cases k)⟩⟩
          unfold OwnAt at h ⊢
          split at h
          · obtain ⟨vs, h1, h2⟩ := h; exact ⟨vs, h1, VRs.ext x sy _ _ h2⟩
          · obtain ⟨vs, h1, h2⟩ := h; exact ⟨vs, h1, VRk.ext x sy _ _ h2⟩
          · cases h
    · rcases getset h1 with ⟨_, e, _⟩ | ⟨_, h1⟩
      · cases e
      · rcases getset h2 with ⟨_, e, _⟩ | ⟨_, h2⟩
        · cases e
        · exact s.inj x y q r z h1 h2 h3 h4
    · obtain ⟨o1, o2⟩ := sub h
      rcases z with z | z
      · exact s.ofz b o1 z
      · exact o2 z
  · exact ⟨W, Ext.refl .., c, s, fun a h => h⟩
/-- what a name alone holds is changed -/
theorem own_write (c : Cel K mg H et W) (s : Slt K mg sg ep H et W) {i : Nat} {p p' : PV} {a : Addr} {o : HO} (hi : ep[i]? = some (.own p)) (hσ : sg[i]? = some (some (.ref a))) (ho : Cont K mg W H p' o) :
    Ext (Own ep sg) H et W (upd H a o) et W ∧ Cel K mg (upd H a o) et W ∧ Slt K mg sg (ep.set i (.own p')) (upd H a o) et W ∧ (∀ b, Own (ep.set i (.own p')) sg b → Own ep sg b) ∧ (∀ q v, VR K mg W H q v → VR K mg W (upd H a o) q v) := by
  have ow : Own ep sg a := ⟨i, p, hi, hσ⟩
  have x : Ext (Own ep sg) H et W (upd H a o) et W := ⟨fun _ h => h, fun _ h => .inl h, ⟨[], by simp⟩, fun _ h => .inl h, fun b u h _ hO => by
    have ne : b ≠ a := fun e => hO (by rw [e]; exact ow)
    rw [upd_ne ne]; exact h, fun b h => by
      by_cases e : b = a
      · rw [e, upd_same]; simp
      · rw [upd_ne e]; exact h⟩
  have sy : Stays (Own ep sg) H et W := Slt.stays c s
  have hat : OwnAt K mg W (upd H a o) p' a := by
    unfold Cont at ho
    split at ho
    · exact ⟨_, upd_same, VRs.ext x sy _ _ ho⟩
    · exact ⟨_, upd_same, VRk.ext x sy _ _ ho⟩
    · cases ho
  have sub : ∀ b, Own (ep.set i (.own p')) sg b → Own ep sg b := fun b ⟨j, q, h1, h2⟩ => by
    rcases getset h1 with ⟨e, _, _⟩ | ⟨_, h1⟩
    · subst e; rw [hσ] at h2; cases h2; exact ow
    · exact ⟨j, q, h1, h2⟩
  refine ⟨x, ⟨c.len, fun j d b h1 h2 => ?_, c.inj, c.fzl, fun b h => x.there b (c.fzh b h)⟩, ⟨by rw [List.length_set]; exact s.len, fun j t u h1 h2 => ?_, fun j l q r b h1 h2 h3 h4 => ?_, fun b h => s.ofz b (sub b h), fun b h => s.oli b (sub b h)⟩, sub, fun q v h => VR.ext x sy q v h⟩
  · have k := c.ok j d b h1 h2
    have keep : d ≠ .dead → upd H a o b = H b := fun hd => upd_ne fun e => s.oli a ow ⟨j, d, h1, hd, e ▸ h2⟩
    cases d with
    | dead => trivial
    | lst xs => obtain ⟨vs, k1, k2⟩ := k; exact ⟨vs, by rw [keep (by simp)]; exact k1, VRs.ext x sy _ _ k2⟩
    | dic xs => obtain ⟨vs, k1, k2⟩ := k; exact ⟨vs, by rw [keep (by simp)]; exact k1, VRk.ext x sy _ _ k2⟩
    | potO t n => obtain ⟨b', sd, ct, k0, k1, k2⟩ := k; exact ⟨b', sd, ct, k0, by rw [keep (by simp)]; exact k1, k2⟩
    | potI => obtain ⟨is, k1, k2⟩ := k; exact ⟨is, by rw [keep (by simp)]; exact k1, k2⟩
    | inv P => obtain ⟨is, k1, k2⟩ := k; exact ⟨is, by rw [keep (by simp)]; exact k1, k2⟩
    | ins t fs => obtain ⟨C, dx, gs, k0, k1, k2⟩ := k; exact ⟨C, dx, gs, k0, by rw [keep (by simp)]; exact k1, VRf.ext x sy _ _ k2⟩
  · rcases getset h1 with ⟨rfl, rfl, _⟩ | ⟨hj, h1⟩
    · rw [hσ] at h2; cases h2; exact ⟨a, rfl, hat⟩
    · have k := s.ok j t u h1 h2
      cases t with
      | no => trivial
      | val q => obtain ⟨v, e, h⟩ := k; exact ⟨v, e, VR.ext x sy q v h⟩
      | own q =>
        obtain ⟨b, e, h⟩ := k
        subst e
        have ne : b ≠ a := fun e => hj (s.inj j i q p a h1 hi (e ▸ h2) hσ)
        refine ⟨b, rfl, ?_⟩
        unfold OwnAt at h ⊢
        split at h
        · obtain ⟨vs, k1, k2⟩ := h; exact ⟨vs, by rw [upd_ne ne]; exact k1, VRs.ext x sy _ _ k2⟩
        · obtain ⟨vs, k1, k2⟩ := h; exact ⟨vs, by rw [upd_ne ne]; exact k1, VRk.ext x sy _ _ k2⟩
        · cases h
  · rcases getset h1 with ⟨ej, eq, _⟩ | ⟨hj, g1⟩
    · have h3' : sg[i]? = some (some (.ref b)) := by rw [← ej]; exact h3
      rcases getset h2 with ⟨el, _, _⟩ | ⟨hl, g2⟩
      · exact ej.trans el.symm
      · exact ej.trans (s.inj i l p r b hi g2 h3' h4)
    · rcases getset h2 with ⟨el, _, _⟩ | ⟨hl, g2⟩
      · have h4' : sg[i]? = some (some (.ref b)) := by rw [← el]; exact h4
        exact (s.inj j i q p b g1 hi h3 h4').trans el.symm
      · exact s.inj j l q r b g1 g2 h3 h4
/-- a shared list or dict is changed -/
def cellP : PV → Option Cell
  | .lst xs => some (.lst xs)
  | .dic ks => some (.dic ks)
  | _ => none
theorem cell_write (c : Cel K mg H et W) {n : Nat} {d d' : Cell} {a : Addr} {o : HO} (hn : et[n]? = some d) (hd : d ≠ .dead) (hd' : d' ≠ .dead) (hm : W.mu[n]? = some a)
    (ho : ∀ H1 et1, Ext NoO H et W H1 et1 W → H1 a = some o → CellOk K mg W H1 d' a) :
    Ext NoO H et W (upd H a o) (et.set n d') W ∧ Cel K mg (upd H a o) (et.set n d') W ∧ (∀ q v, VR K mg W H q v → VR K mg W (upd H a o) q v) := by
  have lv : Live et W a := ⟨n, d, hn, hd, hm⟩
  have hl : ∀ b, Live (et.set n d') W b → Live et W b := fun b ⟨j, u, h1, h2, h3⟩ => by
    rcases getset h1 with ⟨e, _, _⟩ | ⟨_, h1⟩
    · subst e; exact ⟨j, d, hn, hd, h3⟩
    · exact ⟨j, u, h1, h2, h3⟩
  have x : Ext NoO H et W (upd H a o) (et.set n d') W := ⟨fun _ h => h, fun _ h => .inl h, ⟨[], by simp⟩, fun b h => .inl (hl b h), fun b u h hb _ => by
    have ne : b ≠ a := fun e => hb (by rw [e]; exact lv)
    rw [upd_ne ne]; exact h, fun b h => by
      by_cases e : b = a
      · rw [e, upd_same]; simp
      · rw [upd_ne e]; exact h⟩
  refine ⟨x, ⟨by rw [List.length_set]; exact c.len, fun j u b h1 h2 => ?_, fun i j u w b h1 h2 h3 h4 h5 h6 => ?_, fun b h z => c.fzl b h (hl b z), fun b h => x.there b (c.fzh b h)⟩, fun q v h => VR.ext x c.stays0 q v h⟩
  · rcases getset h1 with ⟨rfl, rfl, _⟩ | ⟨hj, h1⟩
    · rw [hm] at h2; cases h2; exact ho _ _ x upd_same
    · refine CellOk.ext x c.stays0 (c.ok j u b h1 h2) fun hu => upd_ne fun e => ?_
      subst e
      exact hj (c.inj j n u d b h1 hn hu hd h2 hm)
  · have g : ∀ {k : Nat} {u : Cell}, (et.set n d')[k]? = some u → u ≠ .dead → ∃ u', et[k]? = some u' ∧ u' ≠ .dead := fun {k u} h hu => by
      rcases getset h with ⟨e, _, _⟩ | ⟨_, h⟩
      · exact ⟨d, e ▸ hn, hd⟩
      · exact ⟨u, h, hu⟩
    obtain ⟨u1, g1, g2⟩ := g h1 h3
    obtain ⟨u2, g3, g4⟩ := g h2 h4
    exact c.inj i j u1 u2 b g1 g3 g2 g4 h5 h6
end
end Mw

namespace Mw
open PySem PySem.Spec L2

section
variable {X : Cx} {st : Stmt} {rest : List Stmt} {m n : SM} {e : Expr} {me : EM PV} {pos : Pos}
theorem Ext.to {O : Addr → Prop} {H H1 : Hp} {et et1 : Hi} {W W1 : Wd} (x : Ext NoO H et W H1 et1 W1) : Ext O H et W H1 et1 W1 := x.mono fun _ h => h.elim
theorem Ext.pre {O : Addr → Prop} {H H1 H2 : Hp} {et et1 et2 : Hi} {W W1 W2 : Wd} (x : Ext NoO H et W H1 et1 W1) (y : Ext O H1 et1 W1 H2 et2 W2) : Ext O H et W H2 et2 W2 := (Ext.to x).trans y fun _ h => .inl h
theorem Ext.back {O : Addr → Prop} {H H1 : Hp} {et et1 : Hi} {W W1 : Wd} (x : Ext O H et W H1 et1 W1) {a : Addr} (h : H1 a = none) : H a = none := by
  cases q : H a with
  | none => rfl
  | some o => exact absurd h (x.there a (by rw [q]; simp))

/-! ### blocks -/
def mNext : SM := fun ep et R => R .nx ep et
def mSeq (m n : SM) : SM := fun ep et R => m ep et fun f ep1 et1 => match f with
  | .nx => n ep1 et1 R
  | f => R f ep1 et1
theorem FlEnd.pre {K : PySem.W.Frag} {mg : Str → Option Value} {D : Ends} {ep ep0 : En} {sg sg0 : L2.St} {H H0 : Hp} {f : Fl} {ep' : En} {sg' : L2.St} {H' : Hp} {et' : Hi} {W' : Wd} (h : FlEnd K mg D ep0 sg0 H0 f ep' sg' H' et' W')
    (g : ∀ a, Own ep sg a ∨ H a = none → Own ep0 sg0 a ∨ H0 a = none) : FlEnd K mg D ep sg H f ep' sg' H' et' W' := by
  cases f with
  | nx => exact fun s o => h s fun a z => g a (o a z)
  | bk => exact fun s o => h s fun a z => g a (o a z)
  | ct => exact fun s o => h s fun a z => g a (o a z)
  | rt p => exact h
theorem ss_nil : SimSs X [] mNext := weakSs pss_nil fun D σ H ⟨ep, et, W, R, c, s, e, q⟩ => q .nx ep et e σ H W (Ext.refl ..) c s fun a h => .inl h
theorem ss_one (h : SimS X st m) : SimSs X [st] m := pss_one h
theorem ss_cons (h : SimS X st m) (g : SimSs X rest n) : SimSs X (st :: rest) (mSeq m n) := weakSs (pss_cons h g) fun D σ H ⟨ep, et, W, R, c, s, e, q⟩ => by
  refine ⟨ep, et, W, _, c, s, e, fun f ep1 et1 r1 σ1 H1 W1 x1 c1 => ?_⟩
  cases f with
  | nx =>
    intro s1 o1
    refine ⟨ep1, et1, W1, R, c1, s1, r1, fun f2 ep2 et2 r2 σ2 H2 W2 x2 c2 => ?_⟩
    have k := q f2 ep2 et2 r2 σ2 H2 W2 (x1.trans x2 o1) c2
    exact k.pre fun a h => h.elim (o1 a) fun z => .inr (x1.back z)
  | bk => exact q .bk ep1 et1 r1 σ1 H1 W1 x1 c1
  | ct => exact q .ct ep1 et1 r1 σ1 H1 W1 x1 c1
  | rt p => exact q (.rt p) ep1 et1 r1 σ1 H1 W1 x1 c1
def mPass : SM := fun ep et R => R .nx ep et
def mBrk : SM := fun ep et R => R .bk ep et
def mCnt : SM := fun ep et R => R .ct ep et
theorem s_pass : SimS X (.Pass pos) mPass := weakS ps_pass fun D σ H ⟨ep, et, W, R, c, s, e, q⟩ => q .nx ep et e σ H W (Ext.refl ..) c s fun a h => .inl h
theorem s_break : SimS X (.Break pos) mBrk := weakS ps_break fun D σ H ⟨ep, et, W, R, c, s, e, q⟩ => q .bk ep et e σ H W (Ext.refl ..) c s fun a h => .inl h
theorem s_continue : SimS X (.Continue pos) mCnt := weakS ps_continue fun D σ H ⟨ep, et, W, R, c, s, e, q⟩ => q .ct ep et e σ H W (Ext.refl ..) c s fun a h => .inl h
/-- a step that is never come to -/
def mNever : SM := fun _ _ _ => False
theorem s_never : SimS X st mNever := weakS ps_never fun D σ H ⟨ep, et, W, R, c, s, e, q⟩ => e
def mExpr (me : EM PV) : SM := fun ep et R => me ep et fun _ et1 => R .nx ep et1
theorem s_expr (h : SimE X e me) (hs : swapsWith e none pos.line X.env = pure false := by rfl) : SimS X (.Expr e pos) (mExpr me) := weakS (ps_expr h hs) fun D σ H ⟨ep, et, W, R, c, s, e, q⟩ =>
  ⟨ep, et, W, _, c, s, e, fun p et1 r1 v H1 W1 x1 c1 p1 => q .nx ep et1 r1 σ H1 W1 (Ext.to x1) c1 (s.ext c x1) fun a h => .inl h⟩
def mRet (me : EM PV) : SM := fun ep et R => me ep et fun p et1 => R (.rt p) ep et1
theorem s_ret (h : SimE X e me) : SimS X (.Return (some e) pos) (mRet me) := weakS (ps_ret h) fun D σ H ⟨ep, et, W, R, c, s, e, q⟩ =>
  ⟨ep, et, W, _, c, s, e, fun p et1 r1 v H1 W1 x1 c1 p1 => q (.rt p) ep et1 r1 σ H1 W1 (Ext.to x1) c1 v p1⟩
def mRetN : SM := fun ep et R => R (.rt .non) ep et
theorem s_retN : SimS X (.Return none pos) mRetN := weakS ps_retN fun D σ H ⟨ep, et, W, R, c, s, e, q⟩ => q (.rt .non) ep et e σ H W (Ext.refl ..) c .non VR.non
def mIf (t : EM Bool) (m n : SM) : SM := fun ep et R => t ep et fun b et1 => if b = true then m ep et1 R else n ep et1 R
theorem s_if {a b : List Stmt} {t : EM Bool} (h : SimT X e t) (ha : SimSs X a m) (hb : SimSs X b n) : SimS X (.If e a b pos) (mIf t m n) := weakS (ps_if h ha hb) fun D σ H ⟨ep, et, W, R, c, s, e, q⟩ => by
  refine ⟨ep, et, W, _, c, s, e, fun b et1 r1 H1 W1 x1 c1 => ?_⟩
  have fin : ∀ {m : SM}, m ep et1 R → tS X.K X.mg m D σ H1 := fun {m} r => ⟨ep, et1, W1, R, c1, s.ext c x1, r, fun f ep2 et2 r2 σ2 H2 W2 x2 c2 => by
    have k := q f ep2 et2 r2 σ2 H2 W2 (x1.pre x2) c2
    exact k.pre fun a h => h.imp_right fun z => x1.back z⟩
  cases b with
  | true => exact fin (by simpa using r1)
  | false => exact fin (by simpa using r1)
/-- ahead of a step: the names in is give away what they alone hold -/
def mFrz (is : List Nat) (m : SM) : SM := fun ep et R => m (is.foldl frzS ep) et R
theorem s_frz1 {t : TS} {i : Nat} {D : Ends} {σ : L2.St} {H : Hp} {m : SM} (h : tS X.K X.mg (fun ep et R => m (frzS ep i) et R) D σ H) : tS X.K X.mg m D σ H := by
  obtain ⟨ep, et, W, R, c, s, e, q⟩ := h
  obtain ⟨W', x1, c1, s1, o1⟩ := s.frz c i
  exact ⟨frzS ep i, et, W', R, c1, s1, e, fun f ep2 et2 r2 σ2 H2 W2 x2 c2 => by
    have k := q f ep2 et2 r2 σ2 H2 W2 (x1.trans x2 fun a h => .inl (o1 a h)) c2
    exact k.pre fun a h => h.imp_left (o1 a)⟩
theorem frz_all {D : Ends} {σ : L2.St} {H : Hp} : ∀ (is : List Nat) (m : SM), tS X.K X.mg (mFrz is m) D σ H → tS X.K X.mg m D σ H
  | [], _, h => h
  | i :: is, m, h => frz_all is m (s_frz1 (t := fun _ _ _ => True) (i := i) (m := mFrz is m) h)
theorem s_frz (is : List Nat) (h : SimS X st m) : SimS X st (mFrz is m) := weakS h fun D σ H => frz_all is m

/-! ### stores to names -/
def mSet (i : Nat) (me : EM PV) : SM := fun ep et R => me ep et fun p et1 => R .nx (ep.set i (.val p)) et1
def mSetN (i : Nat) (me : EM PV) : SM := fun ep et R => me ep et fun p et1 => R .nx (ep.set i (.own p)) et1
/-- how a value goes to a target -/
def GOk (K : PySem.W.Frag) (mg : Str → Option Value) (is : List Nat) (g : TG) (tg : PV → En → Option En) : Prop :=
  ∀ (v : V) (p : PV) (σ : L2.St) (H : Hp) (ep ep' : En) (et : Hi) (W : Wd) (Q : L2.St → Hp → Prop), Cel K mg H et W → Slt K mg σ ep H et W → VR K mg W H p v → tg p ep = some ep' →
    (∀ σ', Slt K mg σ' ep' H et W → (∀ a, Own ep' σ' a → Own ep σ a) → (σ'.length = σ.length ∧ ∀ j, j ∉ is → σ'[j]? = σ[j]?) → Q σ' H) → g v σ H Q
def tgN (i : Nat) (p : PV) (ep : En) : Option En := some (ep.set i (.val p))
def tgNs : List (PV → En → Option En) → List PV → En → Option En
  | [], [], ep => some ep
  | t :: ts, p :: ps, ep => (t p ep).bind fun ep1 => tgNs ts ps ep1
  | _, _, _ => none
def tgT (ts : List (PV → En → Option En)) (p : PV) (ep : En) : Option En := match p with
  | .tup ps => tgNs ts ps ep
  | _ => none
def GsOk (K : PySem.W.Frag) (mg : Str → Option Value) (is : List Nat) (g : TGs) (ts : List (PV → En → Option En)) : Prop :=
  ∀ (vs : List V) (ps : List PV) (σ : L2.St) (H : Hp) (ep ep' : En) (et : Hi) (W : Wd) (Q : L2.St → Hp → Prop), Cel K mg H et W → Slt K mg σ ep H et W → VRs K mg W H ps vs → tgNs ts ps ep = some ep' →
    (∀ σ', Slt K mg σ' ep' H et W → (∀ a, Own ep' σ' a → Own ep σ a) → (σ'.length = σ.length ∧ ∀ j, j ∉ is → σ'[j]? = σ[j]?) → Q σ' H) → g vs σ H Q
theorem g_name {K : PySem.W.Frag} {mg : Str → Option Value} (i : Nat) : GOk K mg [i] (gName i) (tgN i) := fun v p σ H ep ep' et W Q c s hv e q => by
  cases e
  exact q _ (s.set_val hv) (fun a h => own_set_sub h) ⟨List.length_set, fun j hj => List.getElem?_set_ne (fun e => hj (by rw [e]; exact List.mem_singleton.mpr rfl))⟩
theorem g_nil {K : PySem.W.Frag} {mg : Str → Option Value} : GsOk K mg [] gNil [] := fun vs ps σ H ep ep' et W Q c s hv e q => by
  cases ps with
  | nil => cases e; unfold VRs at hv; exact ⟨hv, q σ s (fun a h => h) ⟨rfl, fun j hj => rfl⟩⟩
  | cons p ps => cases e
theorem g_cons {K : PySem.W.Frag} {mg : Str → Option Value} {t : TG} {u : TGs} {tg : PV → En → Option En} {ts : List (PV → En → Option En)} {is js : List Nat} (h : GOk K mg is t tg) (hs : GsOk K mg js u ts) : GsOk K mg (is ++ js) (gCons t u) (tg :: ts) := fun vs ps σ H ep ep' et W Q c s hv e q => by
  cases ps with
  | nil => cases e
  | cons p ps =>
    unfold VRs at hv
    obtain ⟨v, r, rfl, h1, h2⟩ := hv
    unfold tgNs at e
    cases e1 : tg p ep with
    | none => rw [e1] at e; cases e
    | some ep1 =>
      rw [e1] at e
      exact ⟨v, r, rfl, h v p σ H ep ep1 et W _ c s h1 e1 fun σ1 s1 o1 k1 => hs r ps σ1 H ep1 ep' et W Q c s1 h2 e fun σ2 s2 o2 k2 => q σ2 s2 (fun a h => o1 a (o2 a h)) ⟨k2.1.trans k1.1, fun j hj => (k2.2 j fun z => hj (List.mem_append_right _ z)).trans (k1.2 j fun z => hj (List.mem_append_left _ z))⟩⟩
theorem tgNs_len : ∀ {ts : List (PV → En → Option En)} {ps : List PV} {ep ep' : En}, tgNs ts ps ep = some ep' → ps.length = ts.length
  | [], [], _, _, _ => rfl
  | t :: ts, p :: ps, ep, ep', h => by
    unfold tgNs at h
    cases e : t p ep with
    | none => rw [e] at h; cases h
    | some ep1 => rw [e] at h; rw [List.length_cons, List.length_cons, tgNs_len h]
  | [], _ :: _, _, _, h => by cases h
  | _ :: _, [], _, _, h => by cases h
theorem g_tup {K : PySem.W.Frag} {mg : Str → Option Value} {u : TGs} {ts : List (PV → En → Option En)} {k : Nat} {is : List Nat} (hk : ts.length = k) (hs : GsOk K mg is u ts) : GOk K mg is (gTup K k u) (tgT ts) := fun v p σ H ep ep' et W Q c s hv e q => by
  unfold tgT at e
  split at e
  · rename_i ps
    unfold VR at hv
    obtain ⟨a, vs, rfl, h1, h2⟩ := hv
    exact ⟨a, vs, rfl, h1, by rw [← h2.len, tgNs_len e, hk], hs vs ps σ H ep ep' et W Q c s h2 e q⟩
  · cases e
def mAsg (tg : PV → En → Option En) (me : EM PV) : SM := fun ep et R => me ep et fun p et1 => ∃ ep', tg p ep = some ep' ∧ R .nx ep' et1
theorem asg_weak {g : TG} {is : List Nat} {tg : PV → En → Option En} (hg : GOk X.K X.mg is g tg) : ∀ D σ H, tS X.K X.mg (mAsg tg me) D σ H → tAsg (tI X.K X.mg (pV X.K X.mg) me) g D σ H := fun D σ H ⟨ep, et, W, R, c, s, e, q⟩ => by
  refine ⟨ep, et, W, _, c, s, e, fun p et1 r1 v H1 W1 x1 c1 p1 => ?_⟩
  obtain ⟨ep', h1, r2⟩ := r1
  exact hg v p σ H1 ep ep' et1 W1 _ c1 (s.ext c x1) p1 h1 fun σ' s' o' _ => q .nx ep' et1 r2 σ' H1 W1 (Ext.to x1) c1 s' fun a h => .inl (o' a h)
theorem s_asg {t : Expr} {g : TG} {is : List Nat} {tg : PV → En → Option En} (h : SimE X e me) (hp : PG X t g) (hg : GOk X.K X.mg is g tg) (hs : swapsWithSole [t] e pos.line X.env = pure false := by rfl) (hw : swappedStores [t] e X.env = pure none := by rfl) (h1 : (assignEach [t] X.env).map (·.2) = [assign t X.env] := by rfl) : SimS X (.Assign [t] e pos) (mAsg tg me) :=
  weakS (ps_asg h hp hs hw h1) (asg_weak hg)
theorem set_weak {i : Nat} : ∀ D σ H, tS X.K X.mg (mSet i me) D σ H → tAsg (tI X.K X.mg (pV X.K X.mg) me) (gName i) D σ H := fun D σ H ⟨ep, et, W, R, c, s, e, q⟩ =>
  ⟨ep, et, W, _, c, s, e, fun p et1 r1 v H1 W1 x1 c1 p1 => q .nx _ et1 r1 _ H1 W1 (Ext.to x1) c1 ((s.ext c x1).set_val p1) fun a h => .inl (own_set_sub h)⟩
theorem setN_weak {i : Nat} : ∀ D σ H, tS X.K X.mg (mSetN i me) D σ H → tAsg (tI X.K X.mg (pN X.K X.mg) me) (gName i) D σ H := fun D σ H ⟨ep, et, W, R, c, s, e, q⟩ => by
  refine ⟨ep, et, W, _, c, s, e, fun p et1 r1 v H1 W1 x1 c1 p1 => ?_⟩
  obtain ⟨b, rfl, h0, hf, hl, ho⟩ := p1
  refine q .nx _ et1 r1 _ H1 W1 (Ext.to x1) c1 ((s.ext c x1).set_own (fun z => s.own_there z h0) hf hl ho) fun a h => ?_
  rcases own_set_own h with h | rfl
  · exact .inl h
  · exact .inr h0
section
variable {i : Nat} {x : Str} {pos' : Pos}
theorem s_set (hN : X.N.Nodup) (hi : X.N[i]? = some x) (hx : Loc X.env.scope x) (he : SimE X e me) (hs : swapsWith e (some (.Name x pos')) pos.line X.env = pure false := by rfl) (hf : X.fn x = true ∨ X.env.scope.names.lookup x = some .local := by first | exact .inl rfl | exact .inr rfl | assumption) :
    SimS X (.Assign [.Name x pos'] e pos) (mSet i me) := weakS (ps_set hN hi hx he hs hf) set_weak
theorem s_setN (hN : X.N.Nodup) (hi : X.N[i]? = some x) (hx : Loc X.env.scope x) (he : SimN X e me) (hs : swapsWith e (some (.Name x pos')) pos.line X.env = pure false := by rfl) (hf : X.fn x = true ∨ X.env.scope.names.lookup x = some .local := by first | exact .inl rfl | exact .inr rfl | assumption) :
    SimS X (.Assign [.Name x pos'] e pos) (mSetN i me) := weakS (ps_set hN hi hx he hs hf) setN_weak
/-- x += e on ints -/
def mAug (i : Nat) (f : Int → Int → Int) (me : EM PV) : SM := fun ep et R => ∃ a, ep[i]? = some (.val (.int a)) ∧ me ep et fun p et1 => ∃ b, p = .int b ∧ R .nx (ep.set i (.val (.int (f a b)))) et1
theorem s_aug {op : Operator} {f : Int → Int → Int} (ho : PIp X op (ipI f)) (hN : X.N.Nodup) (hi : X.N[i]? = some x) (hx : Loc X.env.scope x) (he : SimE X e me) (hf : X.fn x = true ∨ X.env.scope.names.lookup x = some .local := by first | exact .inl rfl | exact .inr rfl | assumption) :
    SimS X (.AugAssign (.Name x pos') op e pos) (mAug i f me) := weakS (ps_aug hN hi hx he ho hf) fun D σ H ⟨ep, et, W, R, c, s, e, q⟩ => by
  obtain ⟨a, h1, e⟩ := e
  have hl : i < σ.length := by rw [← s.len]; exact (List.getElem?_eq_some_iff.mp h1).1
  obtain ⟨v, ev, hv⟩ := s.ok i _ _ h1 (List.getElem?_eq_getElem hl)
  unfold VR at hv
  subst hv
  refine ⟨_, by rw [List.getElem?_eq_getElem hl, ev], ep, et, W, _, c, s, e, fun p et1 r1 v H1 W1 x1 c1 p1 => ?_⟩
  obtain ⟨b, rfl, r2⟩ := r1
  have p2 : VR X.K X.mg W1 H1 (.int b) v := p1
  unfold VR at p2
  exact ⟨a, b, rfl, p2, q .nx _ et1 r2 _ H1 W1 (Ext.to x1) c1 ((s.ext c x1).set_val VR.int) fun a h => .inl (own_set_sub h)⟩
end
/-- a, b = e1, e2 -/
def mPar (i j : Nat) (ms : EM (List PV)) : SM := fun ep et R => ms ep et fun ps et1 => ∃ p q, ps = [p, q] ∧ R .nx ((ep.set i (.val p)).set j (.val q)) et1
theorem s_par {i j : Nat} {x y : Str} {a b : Expr} {ms : EM (List PV)} {px py pt : Pos} {kt k2 pt2} (hc : X.calm = true) (hN : X.N.Nodup) (hi : X.N[i]? = some x) (hj : X.N[j]? = some y) (hij : i ≠ j)
    (h : PA X [a, b] (tL X.K X.mg ms)) (hp : ∀ {ta : TA}, PA X [a, b] ta → PS X (.Assign [.Tuple [.Name x px, .Name y py] kt pt] (.Tuple [a, b] k2 pt2) pos) (tPar i j ta)) :
    SimS X (.Assign [.Tuple [.Name x px, .Name y py] kt pt] (.Tuple [a, b] k2 pt2) pos) (mPar i j ms) := weakS (hp h) fun D σ H ⟨ep, et, W, R, c, s, e, q⟩ => by
  refine ⟨ep, et, W, _, c, s, e, fun ps et1 r1 vs H1 W1 x1 c1 p1 => ?_⟩
  obtain ⟨p, r, rfl, r2⟩ := r1
  unfold VRs at p1
  obtain ⟨v, t, rfl, h1, p1⟩ := p1
  unfold VRs at p1
  obtain ⟨w, t', rfl, h2, p1⟩ := p1
  unfold VRs at p1
  subst p1
  exact ⟨v, w, rfl, q .nx _ et1 r2 _ H1 W1 (Ext.to x1) c1 (((s.ext c x1).set_val h1).set_val h2) fun a h => .inl (own_set_sub (own_set_sub h))⟩

/-! ### while -/
/-- W: what holds ahead of each turn, with a number that falls -/
def mWhile (t : EM Bool) (m : SM) : SM := fun ep et R => ∃ W : Nat → En → Hi → Prop, (∃ k, W k ep et) ∧ ∀ k ep et, W k ep et → t ep et fun b et1 => if b = true then m ep et1 fun f ep2 et2 => match f with
      | .nx => ∃ j, j < k ∧ W j ep2 et2
      | .ct => ∃ j, j < k ∧ W j ep2 et2
      | .bk => R .nx ep2 et2
      | .rt p => R (.rt p) ep2 et2
    else R .nx ep et1
theorem s_while {body : List Stmt} {t : EM Bool} (hp : PassesOwn (model X.prog X.w) X.A X.env X.xe) (h : SimT X e t) (hb : SimSs X body m) : SimS X (.While e body [] pos) (mWhile t m) := weakS (ps_while hp h hb) fun D σ0 H0 ⟨ep0, et0, W0, R, c0, s0, ⟨V, ⟨k, hk⟩, hV⟩, q⟩ => by
  refine ⟨fun k σ H => ∃ ep et W, Cel X.K X.mg H et W ∧ Slt X.K X.mg σ ep H et W ∧ Ext (Own ep0 σ0) H0 et0 W0 H et W ∧ (∀ a, Own ep σ a → Own ep0 σ0 a ∨ H0 a = none) ∧ V k ep et, ⟨k, ep0, et0, W0, c0, s0, Ext.refl .., fun a h => .inl h, hk⟩, ?_⟩
  rintro k σ H ⟨ep, et, W, c, s, x, o, hk⟩
  refine ⟨ep, et, W, _, c, s, hV k ep et hk, fun b et1 r1 H1 W1 x1 c1 => ?_⟩
  have x01 : Ext (Own ep0 σ0) H0 et0 W0 H1 et1 W1 := x.trans x1 fun _ h => h.elim
  have s1 := s.ext c x1
  cases b with
  | false =>
    have r1 : R .nx ep et1 := by simpa using r1
    exact q .nx ep et1 r1 σ H1 W1 x01 c1 s1 o
  | true =>
    rw [if_pos rfl] at r1
    refine ⟨fun σ' H' => ∃ ep et W, Cel X.K X.mg H' et W ∧ Slt X.K X.mg σ' ep H' et W ∧ Ext (Own ep0 σ0) H0 et0 W0 H' et W ∧ (∀ a, Own ep σ' a → Own ep0 σ0 a ∨ H0 a = none) ∧ ∃ j, j < k ∧ V j ep et, fun σ' H' ⟨ep', et', W', i1, i2, i3, i4, j, hj, i5⟩ => ⟨j, hj, ep', et', W', i1, i2, i3, i4, i5⟩, ?_⟩
    refine ⟨ep, et1, W1, _, c1, s1, r1, fun f ep2 et2 r2 σ2 H2 W2 x2 c2 => ?_⟩
    have x02 : Ext (Own ep0 σ0) H0 et0 W0 H2 et2 W2 := x01.trans x2 fun a h => o a h
    have oo : ∀ a, (Own ep σ a ∨ H1 a = none) → Own ep0 σ0 a ∨ H0 a = none := fun a h => h.elim (o a) fun z => .inr (x01.back z)
    cases f with
    | nx => exact fun s2 o2 => ⟨ep2, et2, W2, c2, s2, x02, fun a h => oo a (o2 a h), r2⟩
    | ct => exact fun s2 o2 => ⟨ep2, et2, W2, c2, s2, x02, fun a h => oo a (o2 a h), r2⟩
    | bk => exact fun s2 o2 => q .nx ep2 et2 r2 σ2 H2 W2 x02 c2 s2 fun a h => oo a (o2 a h)
    | rt p => exact fun v hv => q (.rt p) ep2 et2 r2 σ2 H2 W2 x02 c2 v hv

/-! ### what a for walks -/
/-- from a state on, as long as the things in src hold what they hold, J gives the items ps -/
def Walks (K : PySem.W.Frag) (mg : Str → Option Value) (J : It) (ps src : List PV) (et0 : Hi) (H0 : Hp) (W0 : Wd) : Prop :=
  ∀ (O : Addr → Prop) (H1 : Hp) (et1 : Hi) (W1 : Wd), Ext O H0 et0 W0 H1 et1 W1 → Stays O H0 et0 W0 → Cel K mg H1 et1 W1 → src.map (deref et1) = src.map (deref et0) → ∀ i : Nat,
    (ps.length ≤ i → J.stop i H1) ∧ ∀ p, ps[i]? = some p → J.go i H1 ∧ ∀ v H2, J.yld i H1 v H2 → ∃ W2, Ext NoO H1 et1 W1 H2 et1 W2 ∧ Cel K mg H2 et1 W2 ∧ VR K mg W2 H2 p v
abbrev IM := En → Hi → (List PV → List PV → Hi → Prop) → Prop
def tIt (K : PySem.W.Frag) (mg : Str → Option Value) (m : IM) : TI := fun sg H Q => ∃ ep et W R, Cel K mg H et W ∧ Slt K mg sg ep H et W ∧ m ep et R ∧
  ∀ ps src et', R ps src et' → ∀ J H' W', Ext NoO H et W H' et' W' → Cel K mg H' et' W' → Walks K mg J ps src et' H' W' → Q J H'
abbrev SimI (X : Cx) (tg iter : Expr) (m : IM) : Prop := PI X tg iter (tIt X.K X.mg m)
theorem weakI {X : Cx} {tg iter : Expr} {t u : TI} (h : PI X tg iter t) (w : ∀ σ H Q, u σ H Q → t σ H Q) : PI X tg iter u := ⟨fun pins s σ H Q I q => h.run pins s σ H Q I (w σ H Q q)⟩
/-- V: what holds ahead of each turn, by its number -/
def forGo (src : List PV) (want : List PV) (tg : PV → En → Option En) (m : SM) (ps : List PV) : SM := fun ep et R => ∃ V : Nat → En → Hi → Prop, V 0 ep et ∧ ∀ i ep et, V i ep et → src.map (deref et) = want ∧
  (∀ p, ps[i]? = some p → ∃ ep1, tg p ep = some ep1 ∧ m ep1 et fun f ep2 et2 => match f with
      | .nx => V (i + 1) ep2 et2
      | .ct => V (i + 1) ep2 et2
      | .bk => R .nx ep2 et2
      | .rt q => R (.rt q) ep2 et2) ∧ (i = ps.length → R .nx ep et)
def mFor (mi : IM) (tg : PV → En → Option En) (m : SM) : SM := fun ep et R => mi ep et fun ps src et1 => forGo src (src.map (deref et1)) tg m ps ep et1 R
theorem s_for {t iter : Expr} {body : List Stmt} {mi : IM} {g : TG} {is : List Nat} {tg : PV → En → Option En} (hp : PassesOwn (model X.prog X.w) X.A X.env X.xe) (hc : X.calm = true) (hi : SimI X t iter mi) (hg : PG X t g) (gk : GOk X.K X.mg is g tg) (hb : SimSs X body m)
    (hs : ∀ x, foldedSetIterable iter X.env x = pure x := by intro _; rfl) : SimS X (.For t iter body [] pos) (mFor mi tg m) := weakS (ps_for hp hc hi hg hb hs) fun D σ H ⟨ep, et, W, R, c, s, e, q⟩ => by
  refine ⟨ep, et, W, _, c, s, e, fun ps src et0 r0 J H0 W0 x0 c0 wk => ?_⟩
  obtain ⟨V, hV0, hV⟩ := r0
  have s0 := s.ext c x0
  have sy : Stays (Own ep σ) H0 et0 W0 := Slt.stays c0 s0
  refine ⟨fun i k σ' H' => k = ps.length - i ∧ i ≤ ps.length ∧ ∃ ep' et' W', Cel X.K X.mg H' et' W' ∧ Slt X.K X.mg σ' ep' H' et' W' ∧ Ext (Own ep σ) H0 et0 W0 H' et' W' ∧ (∀ a, Own ep' σ' a → Own ep σ a ∨ H0 a = none) ∧ V i ep' et',
    ⟨ps.length, by simp, Nat.zero_le _, ep, et0, W0, c0, s0, Ext.refl .., fun a h => .inl h, hV0⟩, ?_⟩
  rintro i k σ' H' ⟨rfl, hi, ep', et', W', c', s', x', o', r'⟩
  have back : ∀ {f : Fl} {ep2 : En} {et2 : Hi}, R f ep2 et2 → ∀ {σ2 : L2.St} {H2 : Hp} {W2 : Wd}, Ext (Own ep σ) H0 et0 W0 H2 et2 W2 → Cel X.K X.mg H2 et2 W2 → FlEnd X.K X.mg D ep σ H0 f ep2 σ2 H2 et2 W2 := fun {f ep2 et2} r {σ2 H2 W2} x cc => by
    have k := q f ep2 et2 r σ2 H2 W2 (x0.pre x) cc
    exact k.pre fun a h => h.imp_right fun z => x0.back z
  by_cases hlt : i < ps.length
  · obtain ⟨hsrc, r2, _⟩ := hV i ep' et' r'
    obtain ⟨ep1, ht, r1⟩ := r2 ps[i] (List.getElem?_eq_getElem hlt)
    obtain ⟨go, yl⟩ := (wk _ H' et' W' x' sy c' hsrc i).2 ps[i] (List.getElem?_eq_getElem hlt)
    refine .inr ⟨go, fun σ' H' => ∃ ep' et' W', Cel X.K X.mg H' et' W' ∧ Slt X.K X.mg σ' ep' H' et' W' ∧ Ext (Own ep σ) H0 et0 W0 H' et' W' ∧ (∀ a, Own ep' σ' a → Own ep σ a ∨ H0 a = none) ∧ V (i + 1) ep' et',
      fun σ1 H1 h => ⟨ps.length - (i + 1), by omega, rfl, hlt, h⟩, fun v H2 hy => ?_⟩
    obtain ⟨W2, x2, c2, v2⟩ := yl v H2 hy
    refine gk v ps[i] σ' H2 ep' ep1 et' W2 _ c2 (s'.ext c' x2) v2 ht fun σ1 s1 o1 _ => ?_
    have x02 : Ext (Own ep σ) H0 et0 W0 H2 et' W2 := x'.trans x2 fun _ h => h.elim
    refine ⟨ep1, et', W2, _, c2, s1, r1, fun f ep3 et3 r3 σ3 H3 W3 x3 c3 => ?_⟩
    have oo1 : ∀ a, Own ep1 σ1 a → Own ep σ a ∨ H0 a = none := fun a h => o' a (o1 a h)
    have x03 : Ext (Own ep σ) H0 et0 W0 H3 et3 W3 := x02.trans x3 oo1
    have oo : ∀ a, (Own ep1 σ1 a ∨ H2 a = none) → Own ep σ a ∨ H0 a = none := fun a h => h.elim (oo1 a) fun z => .inr (x02.back z)
    cases f with
    | nx => exact fun s3 o3 => ⟨ep3, et3, W3, c3, s3, x03, fun a h => oo a (o3 a h), r3⟩
    | ct => exact fun s3 o3 => ⟨ep3, et3, W3, c3, s3, x03, fun a h => oo a (o3 a h), r3⟩
    | bk => exact fun s3 o3 => back (f := .nx) r3 x03 c3 s3 fun a h => oo a (o3 a h)
    | rt p => exact fun v hv => back (f := .rt p) r3 (σ2 := σ3) x03 c3 v hv
  · obtain ⟨hsrc, _, r1⟩ := hV i ep' et' r'
    exact .inl ⟨(wk _ H' et' W' x' sy c' hsrc i).1 (by omega), back (f := .nx) (r1 (by omega)) x' c' s' o'⟩
end
end Mw

namespace Mw
open PySem PySem.Spec L2

section
variable {X : Cx} {tg e : Expr} {me : EM PV} {ms : EM (List PV)} {pos : Pos}
/-! ### iterators -/
def signs (x : Str) : List PV := x.cps.toList.map fun c => .str ⟨#[c]⟩
/-- the items of a list, a tuple, a text -/
def itemsP : PV → Option (List PV)
  | .lst xs => some xs
  | .tup xs => some xs
  | .scr xs => some (xs.map .int)
  | .str x => some (signs x)
  | _ => none
def mIter (m : EM PV) : IM := fun ep et R => m ep et fun p et1 => ∃ ps, itemsP (deref et1 p) = some ps ∧ R ps [p] et1
theorem pi_any {t : TE} (hl : PE X e t) : PI X tg e (fun σ H R => t σ H fun x H1 => (∃ a, x = .ref a ∧ (∃ xs, SqL X.K H1 a xs) ∧ R (Itl X.K a) H1) ∨ (∃ a, x = .ref a ∧ (∃ xs, SqT X.K H1 a xs) ∧ R (Itt X.K a) H1) ∨ ∃ z, x = .str z ∧ R (Its z) H1) := by
  refine ⟨fun pins s σ H R I h => ?_⟩
  refine thn (hl.run pins s σ H _ I h) fun v s1 ⟨x, H1, I1, r1, q1⟩ => ?_
  rcases q1 with ⟨a, e, ⟨xs, hq⟩, q⟩ | ⟨a, e, ⟨xs, hq⟩, q⟩ | ⟨x, ex, q⟩
  · subst e
    cases r1
    obtain ⟨its, rv, p, hz⟩ := I1.list hq
    refine wpAny_pyIter_list p.isList ?_
    refine ⟨s1.heap.objs.size, [s1.heap.objs.size], _, _, H1, rfl, I1.kept (t' := s1.toks) fun b o e => Heap.get?_push_of_some _ e, turn_list a _, ⟨_, Heap.get?_push_size _ rfl, rfl, rfl⟩, fun b hb => ?_, q⟩
    have e : b = s1.heap.objs.size := by simpa using hb
    subst e
    exact I1.fpOk (Nat.le_refl _) (I1.hok.fresh (Nat.le_refl _))
  · subst e
    cases r1
    obtain ⟨its, rv, p, hz⟩ := I1.tuple hq
    refine wpAny_pyIter_tuple (show s1.heap.IsTuple a its.toArray from p) ?_
    refine ⟨s1.heap.objs.size, [s1.heap.objs.size], _, _, H1, rfl, I1.kept (t' := s1.toks) fun b o e => Heap.get?_push_of_some _ e, turn_tuple a _, ⟨_, Heap.get?_push_size _ rfl, rfl, rfl⟩, fun b hb => ?_, q⟩
    have e : b = s1.heap.objs.size := by simpa using hb
    subst e
    exact I1.fpOk (Nat.le_refl _) (I1.hok.fresh (Nat.le_refl _))
  · subst ex
    obtain ⟨t, rfl⟩ := r1
    cases ha : x.cps.all (· < 128)
    · exact wpAny_pyIter_wide ha (pi_one (tk := s1.toks) I1 _ (turn_str _ x t "str_iterator" (.inr rfl)) ⟨_, Heap.get?_push_size _ rfl, rfl, rfl⟩ q)
    · exact wpAny_pyIter_ascii ha (pi_one (tk := s1.toks) I1 _ (turn_str _ x t "str_ascii_iterator" (.inl rfl)) ⟨_, Heap.get?_push_size _ rfl, rfl, rfl⟩ q)
theorem walks_list {H : Hp} {et : Hi} {W : Wd} {p : PV} {a : Addr} {ps : List PV} (h : VR X.K X.mg W H p (.ref a)) (e : deref et p = .lst ps) : Walks X.K X.mg (Itl X.K a) ps [p] et H W := by
  intro O H1 et1 W1 x sy c hsrc i
  have h1 : VR X.K X.mg W1 H1 p (.ref a) := VR.ext x sy _ _ h
  have e1 : deref et1 p = .lst ps := by
    have := hsrc
    simp only [List.map_cons, List.map_nil, List.cons.injEq, and_true] at this
    rw [this, e]
  obtain ⟨b, vs, eb, k1, k2⟩ := Pk.lst c (.inl h1) e1
  cases eb
  refine ⟨fun hl => ⟨vs, SqL.of k1, by rw [← k2.len]; exact hl⟩, fun q hq => ?_⟩
  obtain ⟨v, k3, k4⟩ := VRs.get k2 hq
  refine ⟨⟨vs, v, SqL.of k1, k3⟩, fun u H2 hy => ?_⟩
  obtain ⟨rfl, hy⟩ := hy
  have := hy vs (SqL.of k1)
  rw [k3] at this; cases this
  exact ⟨W1, Ext.refl .., c, k4⟩
theorem walks_scr {H : Hp} {et : Hi} {W : Wd} {ns : List Int} {a : Addr} (h : VR X.K X.mg W H (.scr ns) (.ref a)) : Walks X.K X.mg (Itl X.K a) (ns.map .int) [.scr ns] et H W := by
  intro O H1 et1 W1 x sy c hsrc i
  have h1 : VR X.K X.mg W1 H1 (.scr ns) (.ref a) := VR.ext x sy _ _ h
  unfold VR at h1
  obtain ⟨b, eb, k1⟩ := h1
  cases eb
  have k1 := k1.sq
  refine ⟨fun hl => ⟨_, k1, by simpa using hl⟩, fun q hq => ?_⟩
  rw [List.getElem?_map] at hq
  cases hn : ns[i]? with
  | none => rw [hn] at hq; cases hq
  | some n =>
    rw [hn] at hq; cases hq
    have k3 : (ns.map V.int)[i]? = some (.int n) := by rw [List.getElem?_map, hn]; rfl
    refine ⟨⟨_, _, k1, k3⟩, fun u H2 hy => ?_⟩
    obtain ⟨rfl, hy⟩ := hy
    have := hy _ k1
    rw [k3] at this; cases this
    exact ⟨W1, Ext.refl .., c, VR.int⟩
theorem walks_tup {H : Hp} {et : Hi} {W : Wd} {ps : List PV} {a : Addr} (h : VR X.K X.mg W H (.tup ps) (.ref a)) : Walks X.K X.mg (Itt X.K a) ps [.tup ps] et H W := by
  intro O H1 et1 W1 x sy c hsrc i
  have h1 : VR X.K X.mg W1 H1 (.tup ps) (.ref a) := VR.ext x sy _ _ h
  unfold VR at h1
  obtain ⟨b, vs, eb, k1, k2⟩ := h1
  cases eb
  refine ⟨fun hl => ⟨vs, k1, by rw [← k2.len]; exact hl⟩, fun q hq => ?_⟩
  obtain ⟨v, k3, k4⟩ := VRs.get k2 hq
  refine ⟨⟨vs, v, k1, k3⟩, fun u H2 hy => ?_⟩
  obtain ⟨rfl, hy⟩ := hy
  have := hy vs k1
  rw [k3] at this; cases this
  exact ⟨W1, Ext.refl .., c, k4⟩
theorem walks_str {H : Hp} {et : Hi} {W : Wd} {src : List PV} (x : Str) : Walks X.K X.mg (Its x) (signs x) src et H W := by
  intro O H1 et1 W1 _ sy c hsrc i
  refine ⟨fun hl => ?_, fun q hq => ?_⟩
  · unfold signs at hl; rw [List.length_map, Array.length_toList] at hl; exact hl
  · unfold signs at hq
    rw [List.getElem?_map] at hq
    cases hn : x.cps.toList[i]? with
    | none => rw [hn] at hq; cases hq
    | some n =>
      rw [hn] at hq; cases hq
      have hi : i < x.cps.size := by
        have := (List.getElem?_eq_some_iff.mp hn).1
        rwa [Array.length_toList] at this
      refine ⟨hi, fun u H2 hy => ?_⟩
      obtain ⟨rfl, d, hd, rfl⟩ := hy
      have : d = n := by
        rw [← Array.getElem?_toList, hn] at hd
        exact (Option.some.inj hd).symm
      subst this
      exact ⟨W1, Ext.refl .., c, VR.str⟩
theorem sI_any (h : SimE X e me) : SimI X tg e (mIter me) := weakI (pi_any h) fun σ H Q ⟨ep, et, W, R, c, s, hm, q⟩ => by
  refine ⟨ep, et, W, _, c, s, hm, fun p et1 r0 v H1 W1 x1 c1 p1 => ?_⟩
  have p1 : VR X.K X.mg W1 H1 p v := p1
  obtain ⟨ps, hp, r1⟩ := r0
  unfold itemsP at hp
  split at hp
  · rename_i xs e1
    cases hp
    obtain ⟨a, vs, rfl, k1, k2⟩ := Pk.lst c1 (.inl p1) e1
    exact .inl ⟨a, rfl, ⟨vs, SqL.of k1⟩, q _ _ et1 r1 _ H1 W1 x1 c1 (walks_list p1 e1)⟩
  · rename_i xs e1
    cases hp
    have e2 := deref_plain e1 rfl
    subst e2
    have p2 := p1
    unfold VR at p2
    obtain ⟨a, vs, rfl, k1, k2⟩ := p2
    exact .inr (.inl ⟨a, rfl, ⟨vs, k1⟩, q _ _ et1 r1 _ H1 W1 x1 c1 (walks_tup p1)⟩)
  · rename_i xs e1
    cases hp
    have e2 := deref_plain e1 rfl
    subst e2
    have p2 := p1
    unfold VR at p2
    obtain ⟨a, rfl, k1⟩ := p2
    exact .inl ⟨a, rfl, ⟨_, k1.sq⟩, q _ _ et1 r1 _ H1 W1 x1 c1 (walks_scr p1)⟩
  · rename_i x e1
    cases hp
    have e2 := deref_plain e1 rfl
    subst e2
    unfold VR at p1
    exact .inr (.inr ⟨x, p1, q _ _ et1 r1 _ H1 W1 x1 c1 (walks_str x)⟩)
  · cases hp
/-- range(n), range(a, b) -/
def rng (i : Int) (n : Nat) : List PV := (List.range n).map fun (k : Nat) => .int (i + k)
def mRng1 (ms : EM (List PV)) : IM := fun ep et R => ms ep et fun ps et1 => ∃ j : Int, ps = [.int j] ∧ -(2 ^ 62) ≤ j ∧ j < 2 ^ 62 ∧ R (rng 0 j.toNat) [] et1
def mRng2 (ms : EM (List PV)) : IM := fun ep et R => ms ep et fun ps et1 => ∃ i j : Int, ps = [.int i, .int j] ∧ (-(2 ^ 62) ≤ i ∧ i < 2 ^ 62 ∧ -(2 ^ 62) ≤ j ∧ j < 2 ^ 62) ∧ R (rng i (j - i).toNat) [] et1
theorem walks_rng {H : Hp} {et : Hi} {W : Wd} (i : Int) (n : Nat) : Walks X.K X.mg (Itr i n) (rng i n) [] et H W := by
  intro O H1 et1 W1 _ sy c hsrc j
  refine ⟨fun hl => ?_, fun q hq => ?_⟩
  · unfold rng at hl; rw [List.length_map, List.length_range] at hl; exact hl
  · unfold rng at hq
    rw [List.getElem?_map] at hq
    by_cases hj : j < n
    · rw [List.getElem?_range hj] at hq
      cases hq
      refine ⟨hj, fun v H2 hy => ?_⟩
      obtain ⟨rfl, rfl⟩ := hy
      exact ⟨W1, Ext.refl .., c, VR.int⟩
    · rw [List.getElem?_eq_none (by simpa using hj)] at hq; cases hq
theorem sI_rng1 {a : Expr} {p : Pos} (hg : Gl X "range") (hm : X.mg "range" = none) (ha : SimA X [a] ms) (hs : starEach [a] X.env = [(false, eval a X.env)] := by rfl) : SimI X tg (.Call (.Name "range" p) [a] [] pos) (mRng1 ms) :=
  weakI (pi_range1 hg hm ha hs) fun σ H Q ⟨ep, et, W, R, c, s, hm, q⟩ => by
  refine ⟨ep, et, W, _, c, s, hm, fun ps et1 r0 vs H1 W1 x1 c1 p1 => ?_⟩
  obtain ⟨j, rfl, h1, h2, r1⟩ := r0
  unfold VRs at p1
  obtain ⟨v, r, rfl, p2, p3⟩ := p1
  unfold VRs at p3; subst p3
  unfold VR at p2; subst p2
  exact ⟨j, rfl, h1, h2, q _ _ et1 r1 _ H1 W1 x1 c1 (walks_rng 0 _)⟩
theorem sI_rng2 {a b : Expr} {p : Pos} (hg : Gl X "range") (hm : X.mg "range" = none) (ha : SimA X [a, b] ms) (hs : starEach [a, b] X.env = [(false, eval a X.env), (false, eval b X.env)] := by rfl) (hs2 : starEach [b] X.env = [(false, eval b X.env)] := by rfl) :
    SimI X tg (.Call (.Name "range" p) [a, b] [] pos) (mRng2 ms) :=
  weakI (pi_range2 hg hm ha hs hs2) fun σ H Q ⟨ep, et, W, R, c, s, hm, q⟩ => by
  refine ⟨ep, et, W, _, c, s, hm, fun ps et1 r0 vs H1 W1 x1 c1 p1 => ?_⟩
  obtain ⟨i, j, rfl, h1, r1⟩ := r0
  unfold VRs at p1
  obtain ⟨v, r, rfl, p2, p3⟩ := p1
  unfold VRs at p3
  obtain ⟨v', r', rfl, p4, p5⟩ := p3
  unfold VRs at p5; subst p5
  unfold VR at p2 p4; subst p2; subst p4
  exact ⟨i, j, rfl, h1, q _ _ et1 r1 _ H1 W1 x1 c1 (walks_rng i _)⟩
/-- zip of two lists, or of two tuples -/
def zipP (xs ys : List PV) : List PV := (xs.zip ys).map fun p => .tup [p.1, p.2]
def mZip (ms : EM (List PV)) : IM := fun ep et R => ms ep et fun ps et1 => ∃ p q xs ys, ps = [p, q] ∧ ((deref et1 p = .lst xs ∧ deref et1 q = .lst ys) ∨ (p = .tup xs ∧ q = .tup ys)) ∧ R (zipP xs ys) [p, q] et1
theorem zipP_get {xs ys : List PV} {i : Nat} {q : PV} (h : (zipP xs ys)[i]? = some q) : ∃ x y, xs[i]? = some x ∧ ys[i]? = some y ∧ q = .tup [x, y] := by
  unfold zipP at h
  rw [List.getElem?_map] at h
  cases e : (xs.zip ys)[i]? with
  | none => rw [e] at h; cases h
  | some p =>
    rw [e] at h; cases h
    rw [List.getElem?_zip_eq_some] at e
    exact ⟨p.1, p.2, e.1, e.2, rfl⟩
theorem walks_zipL {H : Hp} {et : Hi} {W : Wd} {p q : PV} {a b : Addr} {xs ys : List PV} (h : VR X.K X.mg W H p (.ref a)) (h' : VR X.K X.mg W H q (.ref b)) (e : deref et p = .lst xs) (e' : deref et q = .lst ys) : Walks X.K X.mg (Itz X.K a b) (zipP xs ys) [p, q] et H W := by
  intro O H1 et1 W1 x sy c hsrc i
  have h1 : VR X.K X.mg W1 H1 p (.ref a) := VR.ext x sy _ _ h
  have h2 : VR X.K X.mg W1 H1 q (.ref b) := VR.ext x sy _ _ h'
  simp only [List.map_cons, List.map_nil, List.cons.injEq, and_true] at hsrc
  obtain ⟨a', vs, ea, k1, k2⟩ := Pk.lst c (.inl h1) (hsrc.1.trans e)
  cases ea
  obtain ⟨b', ws, eb, k3, k4⟩ := Pk.lst c (.inl h2) (hsrc.2.trans e')
  cases eb
  refine ⟨fun hl => ⟨vs, ws, SqL.of k1, SqL.of k3, ?_⟩, fun z hz => ?_⟩
  · rw [← k2.len, ← k4.len]
    unfold zipP at hl
    rw [List.length_map, List.length_zip] at hl
    omega
  · obtain ⟨x, y, z1, z2, rfl⟩ := zipP_get hz
    obtain ⟨v, k5, k6⟩ := VRs.get k2 z1
    obtain ⟨w, k7, k8⟩ := VRs.get k4 z2
    refine ⟨⟨vs, ws, v, w, SqL.of k1, SqL.of k3, k5, k7⟩, fun u H2 hy => ?_⟩
    obtain ⟨T, v', w', rfl, hT, rfl, g1, g2⟩ := hy
    have := g1 vs (SqL.of k1)
    rw [k5] at this; cases this
    have := g2 ws (SqL.of k3)
    rw [k7] at this; cases this
    obtain ⟨x3, c3, r3⟩ := new_tup c hT (VRs.cons k6 (VRs.cons k8 VRs.nil))
    exact ⟨W1, x3, c3, r3⟩
theorem walks_zipT {H : Hp} {et : Hi} {W : Wd} {a b : Addr} {xs ys : List PV} (h : VR X.K X.mg W H (.tup xs) (.ref a)) (h' : VR X.K X.mg W H (.tup ys) (.ref b)) : Walks X.K X.mg (RZ.ItzT X.K a b) (zipP xs ys) [.tup xs, .tup ys] et H W := by
  intro O H1 et1 W1 x sy c hsrc i
  have h1 : VR X.K X.mg W1 H1 (.tup xs) (.ref a) := VR.ext x sy _ _ h
  have h2 : VR X.K X.mg W1 H1 (.tup ys) (.ref b) := VR.ext x sy _ _ h'
  unfold VR at h1 h2
  obtain ⟨a', vs, ea, k1, k2⟩ := h1
  cases ea
  obtain ⟨b', ws, eb, k3, k4⟩ := h2
  cases eb
  refine ⟨fun hl => ⟨vs, ws, k1, k3, ?_⟩, fun z hz => ?_⟩
  · rw [← k2.len, ← k4.len]
    unfold zipP at hl
    rw [List.length_map, List.length_zip] at hl
    omega
  · obtain ⟨x, y, z1, z2, rfl⟩ := zipP_get hz
    obtain ⟨v, k5, k6⟩ := VRs.get k2 z1
    obtain ⟨w, k7, k8⟩ := VRs.get k4 z2
    refine ⟨⟨vs, ws, v, w, k1, k3, k5, k7⟩, fun u H2 hy => ?_⟩
    obtain ⟨T, v', w', rfl, hT, rfl, g1, g2⟩ := hy
    have := g1 vs k1
    rw [k5] at this; cases this
    have := g2 ws k3
    rw [k7] at this; cases this
    obtain ⟨x3, c3, r3⟩ := new_tup c hT (VRs.cons k6 (VRs.cons k8 VRs.nil))
    exact ⟨W1, x3, c3, r3⟩
theorem sI_zip {a b : Expr} {p tpos : Pos} {elts : List Expr} {kk : Nat} (hg : Gl X "zip") (hm : X.mg "zip" = none) (ha : SimA X [a, b] ms) (hs : starEach [a, b] X.env = (false, eval a X.env) :: starEach [b] X.env := by rfl) (hpl : (backTo pos (starEach [b] X.env)).any (·.1) = false := by rfl) :
    SimI X (.Tuple elts kk tpos) (.Call (.Name "zip" p) [a, b] [] pos) (mZip ms) :=
  weakI (RZ.pi_zipA hg hm ha hs hpl) fun σ H Q ⟨ep, et, W, R, c, s, hm, q⟩ => by
  refine ⟨ep, et, W, _, c, s, hm, fun ps et1 r0 vs H1 W1 x1 c1 p1 => ?_⟩
  obtain ⟨p, p', xs, ys, rfl, hd, r1⟩ := r0
  unfold VRs at p1
  obtain ⟨v, r, rfl, p2, p3⟩ := p1
  unfold VRs at p3
  obtain ⟨v', r', rfl, p4, p5⟩ := p3
  unfold VRs at p5; subst p5
  rcases hd with ⟨d1, d2⟩ | ⟨rfl, rfl⟩
  · obtain ⟨a', vs, rfl, k1, k2⟩ := Pk.lst c1 (.inl p2) d1
    obtain ⟨b', ws, rfl, k3, k4⟩ := Pk.lst c1 (.inl p4) d2
    exact ⟨a', b', vs, ws, rfl, .inl ⟨SqL.of k1, SqL.of k3, q _ _ et1 r1 _ H1 W1 x1 c1 (walks_zipL p2 p4 d1 d2)⟩⟩
  · have q2 := p2
    have q4 := p4
    unfold VR at q2 q4
    obtain ⟨a', vs, rfl, k1, k2⟩ := q2
    obtain ⟨b', ws, rfl, k3, k4⟩ := q4
    exact ⟨a', b', vs, ws, rfl, .inr ⟨k1, k3, q _ _ et1 r1 _ H1 W1 x1 c1 (walks_zipT p2 p4)⟩⟩
/-- enumerate of a list -/
def enumP (xs : List PV) : List PV := (xs.zipIdx).map fun p => .tup [.int p.2, p.1]
def mEnum (ms : EM (List PV)) : IM := fun ep et R => ms ep et fun ps et1 => ∃ p xs, ps = [p] ∧ deref et1 p = .lst xs ∧ R (enumP xs) [p] et1
theorem enumP_get {xs : List PV} {i : Nat} {q : PV} (h : (enumP xs)[i]? = some q) : ∃ x, xs[i]? = some x ∧ q = .tup [.int i, x] := by
  unfold enumP at h
  rw [List.getElem?_map, List.getElem?_zipIdx] at h
  cases e : xs[i]? with
  | none => rw [e] at h; cases h
  | some x => rw [e] at h; cases h; exact ⟨x, rfl, by simp⟩
theorem walks_enum {H : Hp} {et : Hi} {W : Wd} {p : PV} {a : Addr} {xs : List PV} (h : VR X.K X.mg W H p (.ref a)) (e : deref et p = .lst xs) : Walks X.K X.mg (Ite X.K a) (enumP xs) [p] et H W := by
  intro O H1 et1 W1 x sy c hsrc i
  have h1 : VR X.K X.mg W1 H1 p (.ref a) := VR.ext x sy _ _ h
  simp only [List.map_cons, List.map_nil, List.cons.injEq, and_true] at hsrc
  obtain ⟨a', vs, ea, k1, k2⟩ := Pk.lst c (.inl h1) (hsrc.trans e)
  cases ea
  refine ⟨fun hl => ⟨vs, SqL.of k1, ?_⟩, fun z hz => ?_⟩
  · rw [← k2.len]
    unfold enumP at hl
    rw [List.length_map, List.length_zipIdx] at hl
    exact hl
  · obtain ⟨x, z1, rfl⟩ := enumP_get hz
    obtain ⟨v, k5, k6⟩ := VRs.get k2 z1
    refine ⟨⟨vs, v, SqL.of k1, k5⟩, fun u H2 hy => ?_⟩
    obtain ⟨T, v', rfl, hT, rfl, g1⟩ := hy
    have := g1 vs (SqL.of k1)
    rw [k5] at this; cases this
    obtain ⟨x3, c3, r3⟩ := new_tup c hT (VRs.cons VR.int (VRs.cons k6 VRs.nil))
    exact ⟨W1, x3, c3, r3⟩
theorem sI_enum {a : Expr} {p tpos : Pos} {elts : List Expr} {kk : Nat} (hg : Gl X "enumerate") (hm : X.mg "enumerate" = none) (ha : SimA X [a] ms) (hs : starEach [a] X.env = [(false, eval a X.env)] := by rfl) :
    SimI X (.Tuple elts kk tpos) (.Call (.Name "enumerate" p) [a] [] pos) (mEnum ms) :=
  weakI (pi_enum hg hm ha hs) fun σ H Q ⟨ep, et, W, R, c, s, hm, q⟩ => by
  refine ⟨ep, et, W, _, c, s, hm, fun ps et1 r0 vs H1 W1 x1 c1 p1 => ?_⟩
  obtain ⟨p, xs, rfl, d1, r1⟩ := r0
  unfold VRs at p1
  obtain ⟨v, r, rfl, p2, p3⟩ := p1
  unfold VRs at p3; subst p3
  obtain ⟨a', vs, rfl, k1, k2⟩ := Pk.lst c1 (.inl p2) d1
  exact ⟨a', vs, rfl, SqL.of k1, q _ _ et1 r1 _ H1 W1 x1 c1 (walks_enum p2 d1)⟩

/-! ### list comprehensions -/
theorem priv_write {K : PySem.W.Frag} {mg : Str → Option Value} {H : Hp} {et : Hi} {W : Wd} (c : Cel K mg H et W) {D : Addr} {vs vs' : List V} (hD : H D = some (.lst vs)) (hf : ¬ W.fz D) (hl : ¬ Live et W D) :
    Cel K mg (upd H D (.lst vs')) et W ∧ (∀ q v, VR K mg W H q v → VR K mg W (upd H D (.lst vs')) q v) ∧ (∀ ps us, VRs K mg W H ps us → VRs K mg W (upd H D (.lst vs')) ps us) := by
  have x : Ext (fun a => a = D) H et W (upd H D (.lst vs')) et W := ⟨fun _ h => h, fun _ h => .inl h, ⟨[], by simp⟩, fun _ h => .inl h, fun b u h _ hO => by rw [upd_ne hO]; exact h, fun b h => by
    by_cases e : b = D
    · rw [e, upd_same]; simp
    · rw [upd_ne e]; exact h⟩
  have sy : Stays (fun a => a = D) H et W := ⟨fun a h => ⟨c.fzl a h, fun e => hf (e ▸ h)⟩, fun a xs h => ⟨(c.stays0.tup a xs h).1, fun e => by rw [e, hD] at h; cases h⟩, fun a o u h => ⟨(c.stays0.frz a o u h).1, fun e => by rw [e, hD] at h; cases h⟩⟩
  refine ⟨⟨c.len, fun j d b h1 h2 => ?_, c.inj, c.fzl, fun b h => x.there b (c.fzh b h)⟩, fun q v h => VR.ext x sy q v h, fun q v h => VRs.ext x sy q v h⟩
  have k := c.ok j d b h1 h2
  have keep : d ≠ .dead → upd H D (.lst vs') b = H b := fun hd => upd_ne fun e => hl ⟨j, d, h1, hd, e ▸ h2⟩
  cases d with
  | dead => trivial
  | lst xs => obtain ⟨vs, k1, k2⟩ := k; exact ⟨vs, by rw [keep (by simp)]; exact k1, VRs.ext x sy _ _ k2⟩
  | dic xs => obtain ⟨vs, k1, k2⟩ := k; exact ⟨vs, by rw [keep (by simp)]; exact k1, VRk.ext x sy _ _ k2⟩
  | potO t n => obtain ⟨b', sd, ct, k0, k1, k2⟩ := k; exact ⟨b', sd, ct, k0, by rw [keep (by simp)]; exact k1, k2⟩
  | potI => obtain ⟨is, k1, k2⟩ := k; exact ⟨is, by rw [keep (by simp)]; exact k1, k2⟩
  | inv P => obtain ⟨is, k1, k2⟩ := k; exact ⟨is, by rw [keep (by simp)]; exact k1, k2⟩
  | ins t fs => obtain ⟨C, dx, gs, k0, k1, k2⟩ := k; exact ⟨C, dx, gs, k0, by rw [keep (by simp)]; exact k1, VRf.ext x sy _ _ k2⟩
def wipeE (ep : En) : List Nat → En
  | [] => ep
  | v :: vs => (wipeE ep vs).set v .no
theorem Slt.wipe {K : PySem.W.Frag} {mg : Str → Option Value} {H : Hp} {et : Hi} {W : Wd} {σ : L2.St} {ep : En} (s : Slt K mg σ ep H et W) : ∀ vs : List Nat, Slt K mg (L2.wipe σ vs) (wipeE ep vs) H et W
  | [] => s
  | v :: vs => by
    unfold L2.wipe wipeE
    exact (Slt.wipe s vs).set_no
theorem wipe_get (σ : L2.St) : ∀ (vs : List Nat) (j : Nat), (L2.wipe σ vs)[j]? = if j ∈ vs then (if j < σ.length then some none else none) else σ[j]?
  | [], j => by simp [L2.wipe]
  | v :: vs, j => by
    unfold L2.wipe
    by_cases e : j = v
    · subst e
      by_cases hl : j < σ.length
      · rw [List.getElem?_set_self (by rw [wipe_length]; exact hl)]; simp [hl]
      · rw [List.getElem?_eq_none (by rw [List.length_set, wipe_length]; omega)]; simp [hl]
    · rw [List.getElem?_set_ne (Ne.symm e), wipe_get σ vs j]; simp [e]
theorem wipe_same {σ σ' : L2.St} {vs : List Nat} (hl : σ'.length = σ.length) (h : ∀ j, j ∉ vs → σ'[j]? = σ[j]?) : L2.wipe σ' vs = L2.wipe σ vs := by
  apply List.ext_getElem?
  intro j
  rw [wipe_get, wipe_get, hl]
  by_cases e : j ∈ vs
  · simp [e]
  · simp [e, h j e]
theorem wipe_wipe (σ : L2.St) (vs : List Nat) : L2.wipe (L2.wipe σ vs) vs = L2.wipe σ vs := wipe_same (wipe_length σ vs) fun j hj => by rw [wipe_get]; simp [hj]
def mYes : EM Bool := fun _ et R => R true et
/-- V: what holds ahead of each turn, by its number and what was gathered -/
def lcGo (src want : List PV) (tg : PV → En → Option En) (mt : EM Bool) (me : EM PV) (epw : En) (ps : List PV) (et : Hi) (R : PV → Hi → Prop) : Prop := ∃ V : Nat → List PV → Hi → Prop, V 0 [] et ∧ ∀ i acc et, V i acc et → src.map (deref et) = want ∧
  (∀ p, ps[i]? = some p → ∃ ep1, tg p epw = some ep1 ∧ mt ep1 et fun b et1 => if b = true then me ep1 et1 fun y et2 => acc.length < sizeLine ∧ V (i + 1) (acc ++ [y]) et2 else V (i + 1) acc et1) ∧ (i = ps.length → R (.lst acc) et)
def mLc (mi : IM) (vs : List Nat) (tg : PV → En → Option En) (mt : EM Bool) (me : EM PV) : EM PV := fun ep et R => mi ep et fun ps src et1 => lcGo src (src.map (deref et1)) tg mt me (wipeE ep vs) ps et1 R
theorem lc_weak {mi : IM} {g : TG} {is vs : List Nat} {tgP : PV → En → Option En} {mt : EM Bool} {me : EM PV} (gk : GOk X.K X.mg is g tgP) (hsub : ∀ i ∈ is, i ∈ vs) :
    ∀ σ H Q, tI X.K X.mg (pN X.K X.mg) (mLc mi vs tgP mt me) σ H Q → tLc (tIt X.K X.mg mi) g (tT X.K X.mg mt) (tI X.K X.mg (pV X.K X.mg) me) vs σ H Q := fun σ H Q ⟨ep, et, W, R, c, s, e, q⟩ => by
  refine ⟨ep, et, W, _, c, s, e, fun ps src et0 r0 J H0 W0 x0 c0 wk => fun D hD => ?_⟩
  obtain ⟨Vi, hV0, hV⟩ := r0
  have s0 := s.ext c x0
  have sw := Slt.wipe s0 vs
  obtain ⟨x1, c1, r1⟩ := new_own c0 hD (VRs.nil (K := X.K) (mg := X.mg) (W := W0) (H := H0))
  refine ⟨fun i k H' => k = ps.length - i ∧ i ≤ ps.length ∧ ∃ acc us et' W', Cel X.K X.mg H' et' W' ∧ Ext NoO H0 et0 W0 H' et' W' ∧ H' D = some (.lst us) ∧ VRs X.K X.mg W' H' acc us ∧ ¬ W'.fz D ∧ ¬ Live et' W' D ∧ Vi i acc et',
    ⟨ps.length, by simp, Nat.zero_le _, [], [], et0, W0, c1, x1, upd_same, VRs.nil, fun z => c0.fzh D z hD, c0.not_live hD, hV0⟩, ?_⟩
  rintro i k H' ⟨rfl, hi, acc, us, et', W', c', x', hD', va, hf, hl, r'⟩
  have st0 : Stays NoO H0 et0 W0 := c0.stays0
  by_cases hlt : i < ps.length
  · obtain ⟨hsrc, r2, _⟩ := hV i acc et' r'
    obtain ⟨ep1, ht, r2⟩ := r2 ps[i] (List.getElem?_eq_getElem hlt)
    obtain ⟨go, yl⟩ := (wk _ H' et' W' x' st0 c' hsrc i).2 ps[i] (List.getElem?_eq_getElem hlt)
    refine .inr ⟨go, fun H' => ∃ acc us et' W', Cel X.K X.mg H' et' W' ∧ Ext NoO H0 et0 W0 H' et' W' ∧ H' D = some (.lst us) ∧ VRs X.K X.mg W' H' acc us ∧ ¬ W'.fz D ∧ ¬ Live et' W' D ∧ Vi (i + 1) acc et',
      fun H1 h => ⟨ps.length - (i + 1), by omega, rfl, hlt, h⟩, fun v H2 hy => ?_⟩
    obtain ⟨W2, x2, c2, v2⟩ := yl v H2 hy
    have x02 := x'.NoO_trans x2
    have swx : Slt X.K X.mg (L2.wipe σ vs) (wipeE ep vs) H2 et' W2 := sw.ext c0 x02
    -- the new list stands through a step
    have step : ∀ {Ha Hb : Hp} {ea eb : Hi} {Wa Wb : Wd} {us : List V} {acc : List PV}, Cel X.K X.mg Ha ea Wa → Ext NoO Ha ea Wa Hb eb Wb → Ha D = some (.lst us) → VRs X.K X.mg Wa Ha acc us → ¬ Wa.fz D → ¬ Live ea Wa D → Hb D = some (.lst us) ∧ VRs X.K X.mg Wb Hb acc us ∧ ¬ Wb.fz D ∧ ¬ Live eb Wb D :=
      fun {Ha Hb ea eb Wa Wb us acc} cc xx h1 h2 h3 h4 => ⟨xx.keep D _ h1 h4 id, VRs.ext xx cc.stays0 _ _ h2, fun z => by
        rcases xx.nfz D z with z | z | z
        · exact h3 z
        · rw [h1] at z; cases z
        · exact z, fun z => by
        rcases xx.live D z with z | z
        · exact h4 z
        · rw [h1] at z; cases z⟩
    obtain ⟨d2, va2, f2, l2⟩ := step c' x2 hD' va hf hl
    refine gk v ps[i] (L2.wipe σ vs) H2 (wipeE ep vs) ep1 et' W2 _ c2 swx v2 ht fun σ1 s1 _ k1 => ⟨?_, ?_⟩
    · rw [wipe_same (σ := L2.wipe σ vs) k1.1 fun j hj => k1.2 j fun z => hj (hsub j z), wipe_wipe]
    · refine ⟨ep1, et', W2, _, c2, s1, r2, fun b et3 r3 H3 W3 x3 c3 => ?_⟩
      obtain ⟨d3, va3, f3, l3⟩ := step c2 x3 d2 va2 f2 l2
      have x03 := x02.NoO_trans x3
      cases b with
      | false => exact ⟨acc, us, et3, W3, c3, x03, d3, va3, f3, l3, by simpa using r3⟩
      | true =>
        refine ⟨ep1, et3, W3, _, c3, s1.ext c2 x3, (by simpa using r3), fun y et4 r4 u H4 W4 x4 c4 p4 => ?_⟩
        obtain ⟨d4, va4, f4, l4⟩ := step c3 x4 d3 va3 f3 l3
        have x04 := x03.NoO_trans x4
        obtain ⟨c5, vr5, vrs5⟩ := priv_write (vs' := us ++ [u]) c4 d4 f4 l4
        refine ⟨us, d4, by rw [← va4.len]; exact r4.1, acc ++ [y], us ++ [u], et4, W4, c5, ⟨x04.fz, x04.nfz, x04.mu, x04.live, fun a o h h2 h3 => ?_, fun a h => ?_⟩, upd_same, VRs.append (vrs5 _ _ va4) (VRs.cons (vr5 _ _ p4) VRs.nil), f4, l4, r4.2⟩
        · rw [upd_ne (ne_of_none h hD)]; exact x04.keep a o h h2 h3
        · by_cases e : a = D
          · rw [e, upd_same]; simp
          · rw [upd_ne e]; exact x04.there a h
  · obtain ⟨hsrc, _, r2⟩ := hV i acc et' r'
    have r2 := r2 (by omega)
    refine .inl ⟨(wk _ H' et' W' x' st0 c' hsrc i).1 (by omega), ?_⟩
    exact q _ et' r2 _ H' W' (x0.NoO_trans x') c' ⟨D, rfl, x0.back hD, hf, hl, us, hD', va⟩
theorem sN_lc {elt iter : Expr} {ifs : List Expr} {scope : Scope} {own : List (Str × Nat)} {mi : IM} {g : TG} {is : List Nat} {tgP : PV → En → Option En} {mt : EM Bool} (gk : GOk X.K X.mg is g tgP) (hsub : ∀ i ∈ is, i ∈ own.map (·.2))
    (hc : X.calm = true) (hN : X.N.Nodup) (hi : SimI X tg iter mi) (ok : BlkOk X.N X.env.scope scope own)
    (hg : ∀ (s : Shared) (H : Hp) (C : Addr) (cl : List (Str × Addr)) (fp : List Addr), PG (X.blk s H scope (compEnvC scope cl C X.env) fp) tg g) (ht : ∀ (s : Shared) (H : Hp) (C : Addr) (cl : List (Str × Addr)) (fp : List Addr), PTs (X.blk s H scope (compEnvC scope cl C X.env) fp) ifs (tT X.K X.mg mt))
    (he : ∀ (s : Shared) (H : Hp) (C : Addr) (cl : List (Str × Addr)) (fp : List Addr), SimE (X.blk s H scope (compEnvC scope cl C X.env) fp) elt me) (hs : ∀ x, foldedSetIterable iter X.env x = pure x := by intro _; rfl) :
    SimN X (.ListComp elt [⟨tg, iter, ifs, 0⟩] scope pos) (mLc mi (own.map (·.2)) tgP mt me) := weakE (pe_lc hc hN hi ok hg ht he hs) (lc_weak gk hsub)
theorem s_setLc {i : Nat} {y : Str} {py spos : Pos} {elt iter : Expr} {ifs : List Expr} {scope : Scope} {own : List (Str × Nat)} {mi : IM} {g : TG} {is : List Nat} {tgP : PV → En → Option En} {mt : EM Bool} (gk : GOk X.K X.mg is g tgP) (hsub : ∀ i ∈ is, i ∈ own.map (·.2))
    (hc : X.calm = true) (hN : X.N.Nodup) (hy : X.N[i]? = some y) (hyl : X.env.scope.names.lookup y = some .local)
    (hsw : swapsWith (.ListComp elt [⟨tg, iter, ifs, 0⟩] scope pos) (some (.Name y py)) spos.line X.env = pure true) (hi : SimI X tg iter mi) (ok : BlkOk X.N X.env.scope scope own)
    (hg : ∀ (s : Shared) (H : Hp) (C : Addr) (cl : List (Str × Addr)) (fp : List Addr), PG (X.blk s H scope (compEnvC scope cl C X.env) fp) tg g) (ht : ∀ (s : Shared) (H : Hp) (C : Addr) (cl : List (Str × Addr)) (fp : List Addr), PTs (X.blk s H scope (compEnvC scope cl C X.env) fp) ifs (tT X.K X.mg mt))
    (he : ∀ (s : Shared) (H : Hp) (C : Addr) (cl : List (Str × Addr)) (fp : List Addr), SimE (X.blk s H scope (compEnvC scope cl C X.env) fp) elt me) (hs : ∀ x, foldedSetIterable iter X.env x = pure x := by intro _; rfl) :
    SimS X (.Assign [.Name y py] (.ListComp elt [⟨tg, iter, ifs, 0⟩] scope pos) spos) (mSetN i (mLc mi (own.map (·.2)) tgP mt me)) :=
  weakS (ps_setLc hc hN hy hyl hsw hi ok hg ht he hs) fun D σ H h => lc_weak gk hsub σ H _ (setN_weak D σ H h)
theorem pts_yes {Y : Cx} : PTs Y [] (tT Y.K Y.mg mYes) := ⟨fun pins s σ H Q I ⟨ep, et, W, R, c, s', e, q⟩ => pts_nil.run pins s σ H Q I (q true et e H W (Ext.refl ..) c)⟩
end
end Mw

namespace Mw
open PySem PySem.Spec L2

/-! ### expressions that change what a name alone holds -/
abbrev XM := En → Hi → (PV → En → Hi → Prop) → Prop
section
variable (K : PySem.W.Frag) (mg : Str → Option Value)
def tX (m : XM) : TE := fun sg H Q => ∃ ep et W R, Cel K mg H et W ∧ Slt K mg sg ep H et W ∧ m ep et R ∧
  ∀ a ep' et', R a ep' et' → ∀ v H' W', Ext (Own ep sg) H et W H' et' W' → Cel K mg H' et' W' → Slt K mg sg ep' H' et' W' → (∀ b, Own ep' sg b → Own ep sg b) → VR K mg W' H' a v → Q v H'
end
abbrev SimX (X : Cx) (e : Expr) (m : XM) : Prop := PE X e (tX X.K X.mg m)
section
variable {X : Cx} {e : Expr} {m : XM} {pos : Pos}
def mExprX (m : XM) : SM := fun ep et R => m ep et fun _ ep1 et1 => R .nx ep1 et1
theorem s_exprX (h : SimX X e m) (hs : swapsWith e none pos.line X.env = pure false := by rfl) : SimS X (.Expr e pos) (mExprX m) := weakS (ps_expr h hs) fun D σ H ⟨ep, et, W, R, c, s, e, q⟩ =>
  ⟨ep, et, W, _, c, s, e, fun p ep1 et1 r1 v H1 W1 x1 c1 s1 o1 p1 => q .nx ep1 et1 r1 σ H1 W1 x1 c1 s1 fun a h => .inl (o1 a h)⟩
def mSetX (i : Nat) (m : XM) : SM := fun ep et R => m ep et fun p ep1 et1 => R .nx (ep1.set i (.val p)) et1
theorem s_setX {i : Nat} {x : Str} {pos' : Pos} (hN : X.N.Nodup) (hi : X.N[i]? = some x) (hx : Loc X.env.scope x) (he : SimX X e m) (hs : swapsWith e (some (.Name x pos')) pos.line X.env = pure false := by rfl) (hf : X.fn x = true ∨ X.env.scope.names.lookup x = some .local := by first | exact .inl rfl | exact .inr rfl | assumption) :
    SimS X (.Assign [.Name x pos'] e pos) (mSetX i m) := weakS (ps_set hN hi hx he hs hf) fun D σ H ⟨ep, et, W, R, c, s, e, q⟩ =>
  ⟨ep, et, W, _, c, s, e, fun p ep1 et1 r1 v H1 W1 x1 c1 s1 o1 p1 => q .nx _ et1 r1 _ H1 W1 x1 c1 (s1.set_val p1) fun a h => .inl (o1 a (own_set_sub h))⟩
def mAsgX (tg : PV → En → Option En) (m : XM) : SM := fun ep et R => m ep et fun p ep1 et1 => ∃ ep', tg p ep1 = some ep' ∧ R .nx ep' et1
theorem s_asgX {t : Expr} {g : TG} {is : List Nat} {tg : PV → En → Option En} (h : SimX X e m) (hp : PG X t g) (hg : GOk X.K X.mg is g tg) (hs : swapsWithSole [t] e pos.line X.env = pure false := by rfl) (hw : swappedStores [t] e X.env = pure none := by rfl) (h1 : (assignEach [t] X.env).map (·.2) = [assign t X.env] := by rfl) : SimS X (.Assign [t] e pos) (mAsgX tg m) :=
  weakS (ps_asg h hp hs hw h1) fun D σ H ⟨ep, et, W, R, c, s, e, q⟩ => by
  refine ⟨ep, et, W, _, c, s, e, fun p ep1 et1 r1 v H1 W1 x1 c1 s1 o1 p1 => ?_⟩
  obtain ⟨ep', h1, r2⟩ := r1
  exact hg v p σ H1 ep1 ep' et1 W1 _ c1 s1 p1 h1 fun σ' s' o' _ => q .nx ep' et1 r2 σ' H1 W1 x1 c1 s' fun a h => .inl (o1 a (o' a h))
def mRetX (m : XM) : SM := fun ep et R => m ep et fun p ep1 et1 => R (.rt p) ep1 et1
theorem s_retX (h : SimX X e m) : SimS X (.Return (some e) pos) (mRetX m) := weakS (ps_ret h) fun D σ H ⟨ep, et, W, R, c, s, e, q⟩ =>
  ⟨ep, et, W, _, c, s, e, fun p ep1 et1 r1 v H1 W1 x1 c1 s1 o1 p1 => q (.rt p) ep1 et1 r1 σ H1 W1 x1 c1 v p1⟩
end

/-! ### methods that change a list -/
/-- r does to the thing at a what g says -/
def MutOk (K : PySem.W.Frag) (mg : Str → Option Value) (r : V → List V → Hp → VK → Prop) (g : (PV → PV) → PV → List PV → Option (PV × PV)) : Prop :=
  ∀ (a : Addr) (p p' z : PV) (o : HO) (args : List PV) (xs : List V) (H : Hp) (et : Hi) (W : Wd) (Q : VK), Cel K mg H et W → H a = some o → Cont K mg W H p o → VRs K mg W H args xs → g (deref et) p args = some (p', z) →
    (∀ o' v, Cont K mg W H p' o' → VR K mg W H z v → Q v (upd H a o')) → r (.ref a) xs H Q
def isLst : PV → Bool
  | .lst _ => true
  | _ => false
theorem Cont.lst {K : PySem.W.Frag} {mg : Str → Option Value} {W : Wd} {H : Hp} {p : PV} {o : HO} (h : Cont K mg W H p o) (e : isLst p = true) : ∃ xs vs, p = .lst xs ∧ o = .lst vs ∧ VRs K mg W H xs vs := by
  unfold Cont at h
  split at h
  · exact ⟨_, _, rfl, rfl, h⟩
  · cases e
  · cases h
def mMut (i : Nat) (g : (PV → PV) → PV → List PV → Option (PV × PV)) (ms : EM (List PV)) : XM := fun ep et R => match ep[i]? with
  | some (.own p) => isLst p = true ∧ ms ep et fun as et1 => ∃ p' z, g (deref et1) p as = some (p', z) ∧ R z (ep.set i (.own p')) et1
  | some (.val (.ref n)) => isLst (deref et (.ref n)) = true ∧ ms ep et fun as et1 => ∃ p' z c, g (deref et1) (deref et1 (.ref n)) as = some (p', z) ∧ isLst (deref et1 (.ref n)) = true ∧ cellP p' = some c ∧ R z ep (et1.set n c)
  | _ => False
section
variable {X : Cx} {x name : Str} {apos cpos p0 : Pos} {e : Expr} {es : List Expr} {ms : EM (List PV)} {id : String} {r : V → List V → Hp → VK → Prop} {g : (PV → PV) → PV → List PV → Option (PV × PV)} {i : Nat}
theorem Cont.cell {K : PySem.W.Frag} {mg : Str → Option Value} {W : Wd} {H H1 : Hp} {p : PV} {o : HO} {c : Cell} {a : Addr} (h : Cont K mg W H p o) (e : cellP p = some c) (k : ∀ ps vs, VRs K mg W H ps vs → VRs K mg W H1 ps vs) (k' : ∀ ps vs, VRk K mg W H ps vs → VRk K mg W H1 ps vs) (ha : H1 a = some o) : CellOk K mg W H1 c a := by
  unfold Cont at h
  split at h
  · cases e; exact ⟨_, ha, k _ _ h⟩
  · cases e; exact ⟨_, ha, k' _ _ h⟩
  · cases h
theorem deref_cell {et : Hi} {n : Nat} (h : isLst (deref et (.ref n)) = true) : ∃ xs, et[n]? = some (.lst xs) ∧ deref et (.ref n) = .lst xs := by
  unfold deref at h ⊢
  cases q : et[n]? with
  | none => simp only [q] at h; cases h
  | some d =>
    cases d with
    | lst xs => exact ⟨xs, rfl, by simp only [q]⟩
    | dic xs => simp only [q] at h; cases h
    | dead => simp only [q] at h; cases h
    | potO _ _ => simp only [q] at h; cases h
    | potI => simp only [q] at h; cases h
    | inv _ => simp only [q] at h; cases h
    | ins _ _ => simp only [q] at h; cases h
theorem mut_fin (hg : MutOk X.K X.mg r g) {σ : L2.St} {H : Hp} {Q : VK} {ep : En} {et : Hi} {W : Wd} {R : PV → En → Hi → Prop} (c : Cel X.K X.mg H et W) (s : Slt X.K X.mg σ ep H et W)
    (hm : mMut i g ms ep et R) (q : ∀ a ep' et', R a ep' et' → ∀ v H' W', Ext (Own ep σ) H et W H' et' W' → Cel X.K X.mg H' et' W' → Slt X.K X.mg σ ep' H' et' W' → (∀ b, Own ep' σ b → Own ep σ b) → VR X.K X.mg W' H' a v → Q v H') :
    ∃ v, σ[i]? = some (some v) ∧ tyV X.K "list" v H ∧ ∃ R', ms ep et R' ∧ ∀ as et1, R' as et1 → ∀ vs H1 W1, Ext NoO H et W H1 et1 W1 → Cel X.K X.mg H1 et1 W1 → VRs X.K X.mg W1 H1 as vs → r v vs H1 Q := by
  unfold mMut at hm
  split at hm
  · rename_i p hp
    obtain ⟨hl, hm⟩ := hm
    have hlt : i < σ.length := by rw [← s.len]; exact (List.getElem?_eq_some_iff.mp hp).1
    obtain ⟨a, ev, hv⟩ := s.ok i _ _ hp (List.getElem?_eq_getElem hlt)
    have hσ : σ[i]? = some (some (.ref a)) := by rw [List.getElem?_eq_getElem hlt, ev]
    refine ⟨.ref a, hσ, ?_, _, hm, fun as et1 r1 vs H1 W1 x1 c1 p1 => ?_⟩
    · unfold OwnAt at hv
      split at hv
      · obtain ⟨ws, h1, _⟩ := hv; exact .inl ⟨rfl, ws, SqL.of h1⟩
      · cases hl
      · cases hv
    · obtain ⟨p', z, h1, r2⟩ := r1
      have s1 := s.ext c x1
      obtain ⟨a', ev', hv1⟩ := s1.ok i _ _ hp hσ
      cases ev'
      obtain ⟨o, ho, hc⟩ : ∃ o, H1 a = some o ∧ Cont X.K X.mg W1 H1 p o := by
        unfold OwnAt at hv1
        split at hv1
        · obtain ⟨ws, h1, h2⟩ := hv1; exact ⟨_, h1, h2⟩
        · obtain ⟨ws, h1, h2⟩ := hv1; exact ⟨_, h1, h2⟩
        · cases hv1
      refine hg a p p' z o as vs H1 et1 W1 Q c1 ho hc p1 h1 fun o' v hc' hv' => ?_
      obtain ⟨x2, c2, s2, o2, vr2⟩ := own_write c1 s1 hp hσ hc'
      exact q z _ et1 r2 v _ W1 (x1.pre x2) c2 s2 o2 (vr2 _ _ hv')
  · rename_i n hp
    obtain ⟨hl, hm⟩ := hm
    have hlt : i < σ.length := by rw [← s.len]; exact (List.getElem?_eq_some_iff.mp hp).1
    obtain ⟨v, ev, hv⟩ := s.ok i _ _ hp (List.getElem?_eq_getElem hlt)
    have hσ : σ[i]? = some (some v) := by rw [List.getElem?_eq_getElem hlt, ev]
    obtain ⟨xs, hn, hd⟩ := deref_cell hl
    obtain ⟨a, ws, rfl, k1, k2⟩ := Pk.lst c (.inl hv) hd
    have hma : W.mu[n]? = some a := by unfold VR at hv; obtain ⟨b, e, h⟩ := hv; cases e; exact h
    refine ⟨.ref a, hσ, .inl ⟨rfl, ws, SqL.of k1⟩, _, hm, fun as et1 r1 vs H1 W1 x1 c1 p1 => ?_⟩
    obtain ⟨p', z, cc, h1, h2, h3, r2⟩ := r1
    obtain ⟨xs1, hn1, hd1⟩ := deref_cell h2
    have hv1 := VR.ext x1 c.stays0 _ _ hv
    obtain ⟨a', ws1, ea, k3, k4⟩ := Pk.lst c1 (.inl hv1) hd1
    cases ea
    rw [hd1] at h1
    refine hg a _ p' z _ as vs H1 et1 W1 Q c1 k3 (show Cont X.K X.mg W1 H1 (.lst xs1) (.lst ws1) from k4) p1 h1 fun o' v hc' hv' => ?_
    obtain ⟨x2, c2, vr2⟩ := cell_write (d' := cc) (o := o') c1 hn1 (by simp) (by
      cases p' <;> first | (cases h3; done) | (cases h3; simp)) (x1.mu_get hma) fun H2 et2 xx ha => hc'.cell h3 (fun ps vs h => VRs.ext xx c1.stays0 _ _ h) (fun ps vs h => VRk.ext xx c1.stays0 _ _ h) ha
    exact q z ep _ r2 v _ W1 (Ext.to (x1.NoO_trans x2)) c2 ((s.ext c x1).ext c1 x2) (fun _ h => h) (vr2 _ _ hv')
  · cases hm
theorem sX_mut (slot : PySem.Slot "list" name id) (hty : typeOf (.builtin id) = pure (.type "method_descriptor")) (hm : MtR X id r) (hg : MutOk X.K X.mg r g) (ho : PE X (.Name x p0) (tVar i)) (ha : SimA X (e :: es) ms)
    (h : ∀ {to : TE} {t : TA}, PE X (.Name x p0) to → PA X (e :: es) t → PE X (.Call (.Attribute (.Name x p0) name apos) (e :: es) [] cpos) (tBM X.K "list" r to t)) :
    SimX X (.Call (.Attribute (.Name x p0) name apos) (e :: es) [] cpos) (mMut i g ms) := weakE (h ho ha) fun σ H Q ⟨ep, et, W, R, c, s, e, q⟩ => by
  obtain ⟨v, h1, h2, R', h3, h4⟩ := mut_fin hg c s e q
  exact ⟨v, h1, h2, ep, et, W, R', c, s, h3, h4⟩
theorem sX_mut0 (hg : MutOk X.K X.mg r g) (h : PE X (.Call (.Attribute (.Name x p0) name apos) [] [] cpos) (tBM0 X.K "list" r (tVar i))) :
    SimX X (.Call (.Attribute (.Name x p0) name apos) [] [] cpos) (mMut i g mNil) := weakE h fun σ H Q ⟨ep, et, W, R, c, s, e, q⟩ => by
  obtain ⟨v, h1, h2, R', h3, h4⟩ := mut_fin hg c s e q
  exact ⟨v, h1, h2, h4 [] et h3 [] H W (Ext.refl ..) c VRs.nil⟩
end
section
variable {K : PySem.W.Frag} {mg : Str → Option Value}
def gmAppend (_ : PV → PV) : PV → List PV → Option (PV × PV)
  | .lst xs, [y] => if xs.length < sizeLine then some (.lst (xs ++ [y]), .non) else none
  | _, _ => none
def gmExtend (d : PV → PV) : PV → List PV → Option (PV × PV)
  | .lst xs, [y] => match d y with
    | .lst ys => if xs.length + ys.length ≤ sizeLine then some (.lst (xs ++ ys), .non) else none
    | _ => none
  | _, _ => none
def gmPop (_ : PV → PV) : PV → List PV → Option (PV × PV)
  | .lst xs, [] => xs[xs.length - 1]?.map fun y => (.lst xs.dropLast, y)
  | _, _ => none
def gmPopAt (_ : PV → PV) : PV → List PV → Option (PV × PV)
  | .lst xs, [.int i] => if -(2 ^ 63) ≤ i ∧ i < 2 ^ 63 then (ixN xs.length i).bind fun k => xs[k]?.map fun y => (.lst (xs.eraseIdx k), y) else none
  | _, _ => none
theorem mo_append : MutOk K mg rAppend gmAppend := by
  intro a p p' z o args xs H et W Q c ho hc va h k
  unfold gmAppend at h
  split at h
  · rename_i ys y
    split at h
    · rename_i hl
      cases h
      obtain ⟨_, vs, e, rfl, h2⟩ := hc.lst rfl
      cases e
      unfold VRs at va
      obtain ⟨v, r, rfl, h3, h4⟩ := va
      unfold VRs at h4; subst h4
      exact ⟨a, vs, v, rfl, rfl, ho, by rw [← h2.len]; exact hl, k (.lst (vs ++ [v])) .non (VRs.append h2 (VRs.cons h3 VRs.nil)) VR.non⟩
    · cases h
  · cases h
theorem mo_extend : MutOk K mg rExtend gmExtend := by
  intro a p p' z o args xs H et W Q c ho hc va h k
  unfold gmExtend at h
  split at h
  · rename_i ys y
    split at h
    · rename_i zs hz
      split at h
      · rename_i hl
        cases h
        obtain ⟨_, vs, e, rfl, h2⟩ := hc.lst rfl
        cases e
        unfold VRs at va
        obtain ⟨v, r, rfl, h3, h4⟩ := va
        unfold VRs at h4; subst h4
        obtain ⟨b, ws, rfl, h5, h6⟩ := Pk.lst c (.inl h3) hz
        exact ⟨a, b, vs, ws, rfl, rfl, ho, h5, by rw [← h2.len, ← h6.len]; exact hl, k (.lst (vs ++ ws)) .non (VRs.append h2 h6) VR.non⟩
      · cases h
    · cases h
  · cases h
theorem VRs.dropLast {W : Wd} {H : Hp} {ps : List PV} {vs : List V} (h : VRs K mg W H ps vs) : VRs K mg W H ps.dropLast vs.dropLast := by
  rw [List.dropLast_eq_take, List.dropLast_eq_take, h.len]; exact VRs.take _ h
theorem mo_pop : MutOk K mg rPop gmPop := by
  intro a p p' z o args xs H et W Q c ho hc va h k
  unfold gmPop at h
  split at h
  · rename_i ys
    cases e1 : ys[ys.length - 1]? with
    | none => rw [e1] at h; cases h
    | some y =>
      rw [e1] at h; cases h
      obtain ⟨_, vs, e, rfl, h2⟩ := hc.lst rfl
      cases e
      unfold VRs at va; subst va
      obtain ⟨v, h3, h4⟩ := VRs.get h2 e1
      exact ⟨a, vs, v, rfl, rfl, ho, by rw [← h2.len]; exact h3, k (.lst vs.dropLast) v h2.dropLast h4⟩
  · cases h
theorem mo_popAt : MutOk K mg rPopAt gmPopAt := by
  intro a p p' z o args xs H et W Q c ho hc va h k
  unfold gmPopAt at h
  split at h
  · rename_i ys i
    split at h
    · rename_i hi
      cases e1 : ixN ys.length i with
      | none => rw [e1] at h; cases h
      | some j =>
        rw [e1] at h
        simp only [Option.bind_some] at h
        cases e2 : ys[j]? with
        | none => rw [e2] at h; cases h
        | some y =>
          rw [e2] at h; cases h
          obtain ⟨_, vs, e, rfl, h2⟩ := hc.lst rfl
          cases e
          unfold VRs at va
          obtain ⟨v, r, rfl, h3, h4⟩ := va
          unfold VRs at h4; subst h4
          unfold VR at h3; subst h3
          obtain ⟨v, h5, h6⟩ := VRs.get h2 e2
          exact ⟨a, vs, i, j, v, rfl, rfl, ho, hi.1, hi.2, by rw [← h2.len]; exact (ixN_seq e1).1, h5, k (.lst (vs.eraseIdx j)) v (VRs.erase j h2) h6⟩
    · cases h
  · cases h
end

/-! ### calls of defs -/
abbrev FSpec := List PV → Hi → (PV → Hi → Prop) → Prop
def FS (K : PySem.W.Frag) (mg : Str → Option Value) (n : Nat) (sp : FSpec) : Sp := fun vs H Q _ => vs.length = n ∧ ∃ et W args R, Cel K mg H et W ∧ VRs K mg W H args vs ∧ sp args et R ∧
  ∀ p et', R p et' → ∀ v H' W', Ext NoO H et W H' et' W' → Cel K mg H' et' W' → VR K mg W' H' p v → Q v H'
def mCall (n : Nat) (sp : FSpec) (ms : EM (List PV)) : EM PV := fun ep et R => ms ep et fun as et1 => as.length = n ∧ sp as et1 R
section
variable {X : Cx} {k n : Nat} {f : Addr} {fd : FuncData} {ps : List Str} {sp : FSpec} {x : Str} {p pos : Pos} {e : Expr} {es : List Expr} {ms : EM (List PV)}
theorem sE_call (F : FnOk X.prog X.w X.K X.mg X.base CX0 k f fd ps (FS X.K X.mg n sp)) (hr : Room k X.A) (hg : Gl X x) (hm : X.mg x = some (.ref f)) (hk : PySem.W.keepIn X.K (.ref f) = true) (hb : Binds X.K fd ps [])
    (ha : SimA X (e :: es) ms) (hdb : (x == ("__debug__" : Str)) = false := by decide) (he : starEach (e :: es) X.env = (false, eval e X.env) :: starEach es X.env := by rfl) (hpl : (backTo pos (starEach es X.env)).any (·.1) = false := by rfl) :
    SimE X (.Call (.Name x p) (e :: es) [] pos) (mCall n sp ms) := weakE (pe_call F hr hg hm hk hb .nil pass0 ha hdb he hpl) fun σ H Q ⟨ep, et, W, R, c, s, e, q⟩ => by
  refine ⟨ep, et, W, _, c, s, e, fun as et1 r1 vs H1 W1 x1 c1 p1 => ?_⟩
  refine ⟨by rw [List.append_nil, ← p1.len]; exact r1.1, et1, W1, as, _, c1, by rw [List.append_nil]; exact p1, r1.2, fun p et2 r2 v H2 W2 x2 c2 p2 => ?_⟩
  exact q p et2 r2 v H2 W2 (x1.NoO_trans x2) c2 p2
def retK (R : PV → Hi → Prop) : Fl → En → Hi → Prop
  | .rt p, _, et => R p et
  | .nx, _, et => R .non et
  | _, _, _ => False
def env0 (N : List Str) (args : List PV) : En := args.map Slot.val ++ List.replicate (N.length - args.length) Slot.no
theorem slt0 {K : PySem.W.Frag} {mg : Str → Option Value} {H : Hp} {et : Hi} {W : Wd} {N : List Str} {args : List PV} {vs : List V} (h : VRs K mg W H args vs) : Slt K mg (L2.start N vs) (env0 N args) H et W := by
  have hl := h.len
  have noOwn : ∀ (i : Nat) (p : PV), (env0 N args)[i]? ≠ some (.own p) := fun i p e => by
    unfold env0 at e
    by_cases hi : i < args.length
    · rw [List.getElem?_append_left (by simpa using hi), List.getElem?_map, List.getElem?_eq_getElem hi] at e; cases e
    · rw [List.getElem?_append_right (by simpa using hi), List.getElem?_replicate] at e
      split at e <;> cases e
  refine ⟨?_, fun i s o e1 e2 => ?_, fun i j p q a e1 => absurd e1 (noOwn i p), fun a ⟨i, p, e, _⟩ => absurd e (noOwn i p), fun a ⟨i, p, e, _⟩ => absurd e (noOwn i p)⟩
  · unfold env0 L2.start
    simp only [List.length_append, List.length_map, List.length_replicate, hl]
  · unfold env0 at e1
    unfold L2.start at e2
    by_cases hi : i < args.length
    · rw [List.getElem?_append_left (by simpa using hi), List.getElem?_map, List.getElem?_eq_getElem hi] at e1
      cases e1
      obtain ⟨v, h1, h2⟩ := VRs.get h (List.getElem?_eq_getElem hi)
      rw [List.getElem?_append_left (by rw [List.length_map, ← hl]; exact hi), List.getElem?_map, h1] at e2
      cases e2
      exact ⟨v, rfl, h2⟩
    · rw [List.getElem?_append_right (by simpa using hi), List.getElem?_replicate] at e1
      split at e1
      · cases e1; trivial
      · cases e1
/-- a def's promise by its body's mirror -/
theorem fn_ok {P : Program} {w : World} {K : PySem.W.Frag} {mg : Str → Option Value} {base : Heap} {x qual : Str} {st : Stmt} {f : Addr} {fd : FuncData} {N ps : List Str} {k : Nat} {sp : FSpec} {m : SM} (F : Fun K x qual st f fd) (S : FnScope N ps (defScope st))
    (body : ∀ (cdv : Value) (A : Around) (outer : List Env) (s : Shared) (H : Hp) (E : XK), Room k (A.deeper (PyProof.Rows.envOfC qual (defScope st) s.heap.objs.size f cdv)) → SimSs (cxOf CX0 P w K mg base N qual (defScope st) f cdv A outer s H E).nox (defBody st) m)
    (h : ∀ args et R, sp args et R → m (env0 N args) et (retK R)) : FnOk P w K mg base CX0 (k + 1) f fd ps (FS K mg ps.length sp) := by
  refine F.ok S (fun vs H Q E q => q.1) fun cdv A outer s H vs Q E hr q => ⟨_, body cdv A outer s H E hr, ?_⟩
  obtain ⟨_, et, W, args, R, c, va, hs, q⟩ := q
  refine ⟨env0 N args, et, W, retK R, c, slt0 va, h args et R hs, fun fl ep' et' r σ' H' W' x' c' => ?_⟩
  have noOwn : ∀ a, ¬ Own (env0 N args) (L2.start N vs) a := fun a ⟨i, p, e, _⟩ => by
    unfold env0 at e
    by_cases hi : i < args.length
    · rw [List.getElem?_append_left (by simpa using hi), List.getElem?_map, List.getElem?_eq_getElem hi] at e; cases e
    · rw [List.getElem?_append_right (by simpa using hi), List.getElem?_replicate] at e
      split at e <;> cases e
  have x1 : Ext NoO H et W H' et' W' := x'.mono fun a h => absurd h (noOwn a)
  cases fl with
  | nx => exact fun _ _ => q .non et' r .non H' W' x1 c' VR.non
  | bk => exact r.elim
  | ct => exact r.elim
  | rt p => exact fun v hv => q p et' r v H' W' x1 c' hv
end
end Mw

namespace Mw
open PySem PySem.Spec L2

/-! ### a new list or dict is shared from now on -/
section
variable {K : PySem.W.Frag} {mg : Str → Option Value} {H : Hp} {et : Hi} {W : Wd}
def mShare (m : EM PV) : EM PV := fun ep et R => m ep et fun p et1 => ∃ c, cellP p = some c ∧ R (.ref et1.length) (et1 ++ [c])
abbrev Wd.shr (W : Wd) (a : Addr) : Wd := ⟨W.fz, W.mu ++ [a]⟩
theorem Cel.share (c : Cel K mg H et W) {a : Addr} {p : PV} {d : Cell} (hf : ¬ W.fz a) (hl : ¬ Live et W a) (ho : OwnAt K mg W H p a) (hd : cellP p = some d) :
    Cel K mg H (et ++ [d]) (W.shr a) ∧ (∀ b, Live (et ++ [d]) (W.shr a) b → Live et W b ∨ b = a) ∧ VR K mg (W.shr a) H (.ref et.length) (.ref a) ∧ (∀ q v, VR K mg W H q v → VR K mg (W.shr a) H q v) := by
  have hlen := c.len
  have x0 : Ext NoO H et W H et (W.shr a) := ⟨fun _ h => h, fun _ h => .inl h, ⟨[a], rfl⟩, fun b ⟨i, e, g1, g2, g3⟩ => by
    have g3' : (W.mu ++ [a])[i]? = some b := g3
    have : i < et.length := (List.getElem?_eq_some_iff.mp g1).1
    rw [List.getElem?_append_left (by omega)] at g3'
    exact .inl ⟨i, e, g1, g2, g3'⟩, fun _ _ h _ _ => h, fun _ h => h⟩
  have low : ∀ {k : Nat} {u : Cell} {b : Addr}, (et ++ [d])[k]? = some u → (W.mu ++ [a])[k]? = some b → (k < et.length ∧ et[k]? = some u ∧ W.mu[k]? = some b) ∨ (k = et.length ∧ u = d ∧ b = a) := fun {k u b} g1 g3 => by
    by_cases hk : k < et.length
    · rw [List.getElem?_append_left hk] at g1
      rw [List.getElem?_append_left (by omega)] at g3
      exact .inl ⟨hk, g1, g3⟩
    · have hk2 : k = et.length := by
        have := (List.getElem?_eq_some_iff.mp g1).1
        rw [List.length_append, List.length_singleton] at this
        omega
      subst hk2
      rw [List.getElem?_append_right (Nat.le_refl _)] at g1
      rw [hlen, List.getElem?_append_right (Nat.le_refl _)] at g3
      simp at g1 g3
      exact .inr ⟨rfl, g1.symm, g3.symm⟩
  have hlv : ∀ b, Live (et ++ [d]) (W.shr a) b → Live et W b ∨ b = a := fun b ⟨j, u, h1, h2, h3⟩ => by
    rcases low h1 h3 with ⟨_, a2, a3⟩ | ⟨_, _, e⟩
    · exact .inl ⟨j, u, a2, h2, a3⟩
    · exact .inr e
  refine ⟨⟨by show (et ++ [d]).length = (W.mu ++ [a]).length; simp [hlen], fun j u b h1 h2 => ?_, fun i j u w b h1 h2 h3 h4 h5 h6 => ?_, fun b h z => ?_, c.fzh⟩, hlv, ?_, fun q v h => VR.ext x0 c.stays0 q v h⟩
  · rcases low h1 h2 with ⟨_, a2, a3⟩ | ⟨_, rfl, rfl⟩
    · exact CellOk.ext x0 c.stays0 (c.ok j u b a2 a3) fun _ => rfl
    · unfold OwnAt at ho
      split at ho
      · cases hd; obtain ⟨vs, k1, k2⟩ := ho; exact ⟨vs, k1, VRs.ext x0 c.stays0 _ _ k2⟩
      · cases hd; obtain ⟨vs, k1, k2⟩ := ho; exact ⟨vs, k1, VRk.ext x0 c.stays0 _ _ k2⟩
      · cases ho
  · rcases low h1 h5 with ⟨a1, a2, a3⟩ | ⟨a1, _, a4⟩
    · rcases low h2 h6 with ⟨b1, b2, b3⟩ | ⟨b1, _, b4⟩
      · exact c.inj i j u w b a2 b2 h3 h4 a3 b3
      · subst b4; exact absurd ⟨i, u, a2, h3, a3⟩ hl
    · rcases low h2 h6 with ⟨b1, b2, b3⟩ | ⟨b1, _, b4⟩
      · subst a4; exact absurd ⟨j, w, b2, h4, b3⟩ hl
      · omega
  · rcases hlv b z with z | rfl
    · exact c.fzl b h z
    · exact hf h
  · unfold VR
    exact ⟨a, rfl, by show (W.mu ++ [a])[et.length]? = some a; rw [hlen]; simp⟩
end
section
variable {X : Cx} {e o i : Expr} {es : List Expr} {me mo mi : EM PV} {ms : EM (List PV)} {pos : Pos}
theorem sE_share (h : SimN X e me) : SimE X e (mShare me) := weakE h fun σ H Q ⟨ep, et, W, R, c, s, e, q⟩ => ⟨ep, et, W, _, c, s, e, fun p et1 r1 v H1 W1 x1 c1 p1 => by
  obtain ⟨d, hd, r2⟩ := r1
  obtain ⟨a, rfl, h0, hf, hl, ho⟩ := p1
  obtain ⟨c2, hlv, vr, _⟩ := c1.share hf hl ho hd
  refine q _ _ r2 _ H1 (W1.shr a) ⟨x1.fz, x1.nfz, ?_, fun b hb => ?_, x1.keep, x1.there⟩ c2 vr
  · obtain ⟨m, hm⟩ := x1.mu
    exact ⟨m ++ [a], by show W1.mu ++ [a] = _; rw [hm, List.append_assoc]⟩
  · rcases hlv b hb with z | rfl
    · exact x1.live b z
    · exact .inr h0⟩
/-! ### methods of a shared list, by an expression -/
def mMutR (g : (PV → PV) → PV → List PV → Option (PV × PV)) (mo : EM PV) (ms : EM (List PV)) : EM PV := fun ep et R => mo ep et fun q et1 => ∃ n, q = .ref n ∧ isLst (deref et1 (.ref n)) = true ∧ ms ep et1 fun as et2 =>
  ∃ p' z c, g (deref et2) (deref et2 (.ref n)) as = some (p', z) ∧ isLst (deref et2 (.ref n)) = true ∧ cellP p' = some c ∧ R z (et2.set n c)
section
variable {name : Str} {apos cpos : Pos} {id : String} {r : V → List V → Hp → VK → Prop} {g : (PV → PV) → PV → List PV → Option (PV × PV)}
theorem mutR_fin (hg : MutOk X.K X.mg r g) {σ : L2.St} {H : Hp} {Q : VK} {ep : En} {et : Hi} {W : Wd} {R : PV → Hi → Prop} (c : Cel X.K X.mg H et W) (s : Slt X.K X.mg σ ep H et W) {q0 : PV} {v : V} (hv : VR X.K X.mg W H q0 v)
    (hm : ∃ n, q0 = .ref n ∧ isLst (deref et (.ref n)) = true ∧ ms ep et fun as et2 => ∃ p' z c, g (deref et2) (deref et2 (.ref n)) as = some (p', z) ∧ isLst (deref et2 (.ref n)) = true ∧ cellP p' = some c ∧ R z (et2.set n c))
    (q : ∀ a et', R a et' → ∀ v H' W', Ext NoO H et W H' et' W' → Cel X.K X.mg H' et' W' → VR X.K X.mg W' H' a v → Q v H') :
    tyV X.K "list" v H ∧ ∃ R', ms ep et R' ∧ ∀ as et1, R' as et1 → ∀ vs H1 W1, Ext NoO H et W H1 et1 W1 → Cel X.K X.mg H1 et1 W1 → VRs X.K X.mg W1 H1 as vs → r v vs H1 Q := by
  obtain ⟨n, rfl, hl, hm⟩ := hm
  obtain ⟨xs, hn, hd⟩ := deref_cell hl
  obtain ⟨a, ws, rfl, k1, k2⟩ := Pk.lst c (.inl hv) hd
  have hma : W.mu[n]? = some a := by unfold VR at hv; obtain ⟨b, e, h⟩ := hv; cases e; exact h
  refine ⟨.inl ⟨rfl, ws, SqL.of k1⟩, _, hm, fun as et1 r1 vs H1 W1 x1 c1 p1 => ?_⟩
  obtain ⟨p', z, cc, h1, h2, h3, r2⟩ := r1
  obtain ⟨xs1, hn1, hd1⟩ := deref_cell h2
  have hv1 := VR.ext x1 c.stays0 _ _ hv
  obtain ⟨a', ws1, ea, k3, k4⟩ := Pk.lst c1 (.inl hv1) hd1
  cases ea
  rw [hd1] at h1
  refine hg a _ p' z _ as vs H1 et1 W1 Q c1 k3 (show Cont X.K X.mg W1 H1 (.lst xs1) (.lst ws1) from k4) p1 h1 fun o' v hc' hv' => ?_
  obtain ⟨x2, c2, vr2⟩ := cell_write (d' := cc) (o := o') c1 hn1 (by simp) (by
    cases p' <;> first | (cases h3; done) | (cases h3; simp)) (x1.mu_get hma) fun H2 et2 xx ha => hc'.cell h3 (fun ps vs h => VRs.ext xx c1.stays0 _ _ h) (fun ps vs h => VRk.ext xx c1.stays0 _ _ h) ha
  exact q z _ r2 v _ W1 (x1.NoO_trans x2) c2 (vr2 _ _ hv')
theorem sE_mutR (hg : MutOk X.K X.mg r g) (ho : SimE X o mo) (ha : SimA X (e :: es) ms)
    (h : ∀ {to : TE} {t : TA}, PE X o to → PA X (e :: es) t → PE X (.Call (.Attribute o name apos) (e :: es) [] cpos) (tBM X.K "list" r to t)) :
    SimE X (.Call (.Attribute o name apos) (e :: es) [] cpos) (mMutR g mo ms) := weakE (h ho ha) fun σ H Q ⟨ep, et, W, R, c, s, e, q⟩ => by
  refine ⟨ep, et, W, _, c, s, e, fun p et1 r1 v H1 W1 x1 c1 p1 => ?_⟩
  have s1 := s.ext c x1
  obtain ⟨h2, R', h3, h4⟩ := mutR_fin hg (Q := Q) c1 s1 p1 r1 fun a et' r v H' W' x' c' p' => q a et' r v H' W' (x1.NoO_trans x') c' p'
  exact ⟨h2, ep, et1, W1, R', c1, s1, h3, h4⟩
theorem sE_mutR0 (hg : MutOk X.K X.mg r g) (ho : SimE X o mo)
    (h : ∀ {to : TE}, PE X o to → PE X (.Call (.Attribute o name apos) [] [] cpos) (tBM0 X.K "list" r to)) :
    SimE X (.Call (.Attribute o name apos) [] [] cpos) (mMutR g mo mNil) := weakE (h ho) fun σ H Q ⟨ep, et, W, R, c, s, e, q⟩ => by
  refine ⟨ep, et, W, _, c, s, e, fun p et1 r1 v H1 W1 x1 c1 p1 => ?_⟩
  have s1 := s.ext c x1
  obtain ⟨h2, R', h3, h4⟩ := mutR_fin hg (Q := Q) (ms := mNil) c1 s1 p1 r1 fun a et' r v H' W' x' c' p' => q a et' r v H' W' (x1.NoO_trans x') c' p'
  exact ⟨h2, h4 [] et1 h3 [] H1 W1 (Ext.refl ..) c1 VRs.nil⟩
end
/-! ### xs[i] = v, xs shared, by an expression -/
def mSubSet (me mo mi : EM PV) : SM := fun ep et R => me ep et fun v et1 => mo ep et1 fun q et2 => mi ep et2 fun k et3 => ∃ n xs i j, q = .ref n ∧ et3[n]? = some (.lst xs) ∧ k = .int i ∧ ixN xs.length i = some j ∧ R .nx ep (et3.set n (.lst (xs.set j v)))
theorem s_subSet {p2 : Pos} (he : SimE X e me) (ho : SimE X o mo) (hi : SimE X i mi)
    (h : ∀ {te to ti : TE}, PE X e te → PE X o to → PE X i ti → PS X (.Assign [.Subscript o i p2] e pos) (tAsg te (L2.gSub to ti rSetL))) : SimS X (.Assign [.Subscript o i p2] e pos) (mSubSet me mo mi) :=
  weakS (h he ho hi) fun D σ H ⟨ep, et, W, R, c, s, e, q⟩ => by
  refine ⟨ep, et, W, _, c, s, e, fun p et1 r1 v H1 W1 x1 c1 p1 => ⟨ep, et1, W1, _, c1, s.ext c x1, r1, fun p' et2 r2 u H2 W2 x2 c2 p2 => ⟨ep, et2, W2, _, c2, s.ext c (x1.NoO_trans x2), r2, fun p3 et3 r3 w H3 W3 x3 c3 p4 => ?_⟩⟩⟩
  obtain ⟨n, xs, i, j, rfl, hn, rfl, hj, r4⟩ := r3
  have v3 : VR X.K X.mg W3 H3 p v := VR.ext (x2.NoO_trans x3) c1.stays0 _ _ p1
  have u3 : VR X.K X.mg W3 H3 (.ref n) u := VR.ext x3 c2.stays0 _ _ p2
  have w3 : VR X.K X.mg W3 H3 (.int i) w := p4
  unfold VR at u3 w3
  subst w3
  obtain ⟨a, rfl, hm⟩ := u3
  obtain ⟨ws, k1, k2⟩ := c3.ok n _ a hn hm
  refine ⟨a, ws, i, j, rfl, rfl, k1, by rw [← k2.len]; exact hj, ?_⟩
  have x13 := (x1.NoO_trans x2).NoO_trans x3
  obtain ⟨x4, c4, vr4⟩ := cell_write (d' := .lst (xs.set j p)) (o := .lst (ws.set j v)) c3 hn (by simp) (by simp) hm fun H4 et4 xx ha => ⟨_, ha, VRs.ext xx c3.stays0 _ _ (VRs.set j k2 v3)⟩
  exact q .nx ep _ r4 σ _ W3 (Ext.to (x13.NoO_trans x4)) c4 ((s.ext c x13).ext c3 x4) fun a h => .inl h
end
end Mw

namespace Mw
open PySem PySem.Spec L2

section
variable {X : Cx} {m : EM PV} {e : Expr} {pos : Pos}
theorem tN_of_tE {K : PySem.W.Frag} {mg : Str → Option Value} : ∀ σ H Q, tI K mg (pV K mg) m σ H Q → tI K mg (pN K mg) m σ H Q := fun σ H Q ⟨ep, et, W, R, c, s, e, q⟩ => ⟨ep, et, W, R, c, s, e, fun a et' r v H' W' x c' p => by
  obtain ⟨b, e1, h0, hf, h2, h3⟩ := p
  obtain ⟨c2, _, r2⟩ := c'.freeze h2 hf h3
  subst e1
  refine q a et' r _ H' (W'.add b) ⟨fun a h => .inl (x.fz a h), fun a h => ?_, x.mu, x.live, x.keep, x.there⟩ c2 r2
  rcases h with h | h
  · exact x.nfz a h
  · exact .inr (.inl (h ▸ h0))⟩
/-- y = [..], y not changed later on -/
theorem s_setLcE {i : Nat} {y : Str} {py spos : Pos} {tg elt iter : Expr} {me : EM PV} {ifs : List Expr} {scope : Scope} {own : List (Str × Nat)} {mi : IM} {g : TG} {is : List Nat} {tgP : PV → En → Option En} {mt : EM Bool} (gk : GOk X.K X.mg is g tgP) (hsub : ∀ i ∈ is, i ∈ own.map (·.2))
    (hc : X.calm = true) (hN : X.N.Nodup) (hy : X.N[i]? = some y) (hyl : X.env.scope.names.lookup y = some .local)
    (hsw : swapsWith (.ListComp elt [⟨tg, iter, ifs, 0⟩] scope pos) (some (.Name y py)) spos.line X.env = pure true) (hi : SimI X tg iter mi) (ok : BlkOk X.N X.env.scope scope own)
    (hg : ∀ (s : Shared) (H : Hp) (C : Addr) (cl : List (Str × Addr)) (fp : List Addr), PG (X.blk s H scope (compEnvC scope cl C X.env) fp) tg g) (ht : ∀ (s : Shared) (H : Hp) (C : Addr) (cl : List (Str × Addr)) (fp : List Addr), PTs (X.blk s H scope (compEnvC scope cl C X.env) fp) ifs (tT X.K X.mg mt))
    (he : ∀ (s : Shared) (H : Hp) (C : Addr) (cl : List (Str × Addr)) (fp : List Addr), SimE (X.blk s H scope (compEnvC scope cl C X.env) fp) elt me) (hs : ∀ x, foldedSetIterable iter X.env x = pure x := by intro _; rfl) :
    SimS X (.Assign [.Name y py] (.ListComp elt [⟨tg, iter, ifs, 0⟩] scope pos) spos) (mSet i (mLc mi (own.map (·.2)) tgP mt me)) :=
  weakS (ps_setLc hc hN hy hyl hsw hi ok hg ht he hs) fun D σ H h => lc_weak gk hsub σ H _ (tN_of_tE σ H _ (set_weak D σ H h))
theorem pts_if {Y : Cx} {c : Expr} {t : EM Bool} (h : SimT Y c t) : PTs Y [c] (tT Y.K Y.mg t) := pts_one h

/-! ### slices of anything, the list's frozen -/
def gSlA (p : PV) (lo hi : Option Int) : Option PV := match p with
  | .tup xs => some (.tup (cutP xs lo hi))
  | .str x => if x.length ≤ sizeLine then some (.str (cutS x lo hi)) else none
  | .lst xs => some (.lst (cutP xs lo hi))
  | .scr xs => some (.lst ((cutP xs lo hi).map .int))
  | _ => none
def rSlAll (K : PySem.W.Frag) : V → Option Int → Option Int → Hp → VK → Prop := fun x lo hi H Q => rSlTS K x lo hi H Q ∨ rSlL K x lo hi H Q
theorem oS_all {K : PySem.W.Frag} {mg : Str → Option Value} : OpSl K mg (rSlAll K) gSlA (pV K mg) := by
  intro x lo hi H et W p z Q c hp hz k
  cases q : deref et p with
  | lst xs =>
    rw [q] at hz; cases hz
    obtain ⟨a, vs, rfl, h1, h2⟩ := hp.lst c q
    refine .inr ⟨a, vs, rfl, SqL.of h1, fun t ht => ?_⟩
    obtain ⟨x1, c1, r1⟩ := new_lst c ht (h2.cut lo hi)
    exact k _ _ _ x1 c1 r1
  | scr xs =>
    rw [q] at hz; cases hz
    obtain ⟨a, rfl, h1⟩ := hp.scr q
    refine .inr ⟨a, _, rfl, h1.sq, fun t ht => ?_⟩
    rw [cutV_map]
    obtain ⟨x1, c1, r1⟩ := new_lst c ht (VRs.ints (cutP xs lo hi))
    exact k _ _ _ x1 c1 r1
  | tup xs => exact .inl (oS_ts x lo hi H et W p z Q c hp (by rw [q] at hz ⊢; exact hz) k)
  | str xs => exact .inl (oS_ts x lo hi H et W p z Q c hp (by rw [q] at hz ⊢; exact hz) k)
  | _ => rw [q] at hz; cases hz
theorem sE_slA {a : Expr} {lo hi : Option Expr} {p2 pos : Pos} {ma : EM PV} {ml mh : EM (Option Int)} (ha : SimP X a ma) (hl : SimO X lo ml) (hh : SimO X hi mh) : SimE X (.Subscript a (.Slice lo hi none p2) pos) (mSl gSlA ma ml mh) :=
  sl_weak early_V ((sl_tupA.or sl_str).or sl_list) oS_all ha hl hh
end
theorem _root_.L2.Room.h64 {k : Nat} {A : Around} (r : Room k A) : A.units + 64 < cLine := by have := r.un; omega
theorem _root_.L2.Room.h65 {k : Nat} {A : Around} (r : Room k A) : A.units + 65 < cLine := by have := r.un; omega
theorem _root_.L2.Room.h1 {k : Nat} {A : Around} (r : Room k A) : A.units + 1 < cLine := by have := r.un; omega
/-- a < b < c, as a test -/
def mChainT (g g' : PV → PV → Option PV) (ma mb mc : EM PV) : EM Bool := fun ep et R => ma ep et fun a et1 => mb ep et1 fun b et2 => ∃ z, g (deref et2 a) (deref et2 b) = some (.bl z) ∧
  if z = true then mc ep et2 fun d et3 => ∃ y, g' (deref et3 b) (deref et3 d) = some (.bl y) ∧ R y et3 else R false et2
theorem sT_chain {X : Cx} {a b d : Expr} {op op' : CmpOp} {pos : Pos} {ma mb mc : EM PV} {R R' : R2} {g g' : PV → PV → Option PV} (ho : OpR X (compareOp op) R) (ho' : OpR X (compareOp op') R') (hg : Op2 X.K X.mg R g (pV X.K X.mg)) (hg' : Op2 X.K X.mg R' g' (pV X.K X.mg))
    (ha : SimP X a ma) (hb : SimP X b mb) (hc : SimP X d mc) (h : ∀ {ta tb tc : TE}, PE X a ta → PE X b tb → PE X d tc → PT X (.Compare a [op, op'] [b, d] pos) (tTest (tChain R R' ta tb tc))) : SimT X (.Compare a [op, op'] [b, d] pos) (mChainT g g' ma mb mc) := weakT (h ha hb hc) fun σ H Q ⟨ep, et, W, R0, c, s, e, q⟩ => by
  refine ⟨ep, et, W, _, c, s, e, fun p et1 r1 v H1 W1 x1 c1 p1 => ⟨ep, et1, W1, _, c1, s.ext c x1, r1, fun p' et2 r2 u H2 W2 x2 c2 p2 => ?_⟩⟩
  obtain ⟨z, hz, r3⟩ := r2
  refine hg v u H2 et2 W2 p p' _ _ c2 (Pk.ext x2 c1 p1) p2 hz fun w H3 W3 x3 c3 p3 => ?_
  have p4 : VR X.K X.mg W3 H3 (.bl z) w := p3
  unfold VR at p4
  refine ⟨z, p4, ?_⟩
  have x13 := (x1.NoO_trans x2).NoO_trans x3
  cases z with
  | false => exact ⟨_, rfl, q _ et2 (by simpa using r3) H3 W3 x13 c3⟩
  | true =>
    rw [if_pos rfl] at r3
    refine ⟨ep, et2, W3, _, c3, s.ext c x13, r3, fun p5 et4 r4 v4 H4 W4 x4 c4 p6 => ?_⟩
    obtain ⟨y, hy, r5⟩ := r4
    refine hg' u v4 H4 et4 W4 p' p5 _ _ c4 (Pk.ext (x3.NoO_trans x4) c2 p2) p6 hy fun w5 H5 W5 x5 c5 p7 => ?_
    have p8 : VR X.K X.mg W5 H5 (.bl y) w5 := p7
    unfold VR at p8
    exact ⟨y, p8, q y et4 r5 H5 W5 ((x13.NoO_trans x4).NoO_trans x5) c5⟩
/-- the slots of a def's names that are stored -/
theorem two_par {X : Cx} {i j : Nat} {x y : Str} {a b : Expr} {px py pt pos : Pos} {kt k2 pt2} (hc : X.calm = true) (hN : X.N.Nodup) (hi : X.N[i]? = some x) (hj : X.N[j]? = some y) (hij : i ≠ j)
    (h : ∀ {ta : TA}, PA X [a, b] ta → PS X (.Assign [.Tuple [.Name x px, .Name y py] kt pt] (.Tuple [a, b] k2 pt2) pos) (tPar i j ta)) {ms : EM (List PV)} (ha : SimA X [a, b] ms) :
    SimS X (.Assign [.Tuple [.Name x px, .Name y py] kt pt] (.Tuple [a, b] k2 pt2) pos) (mPar i j ms) := s_par hc hN hi hj hij ha h
end Mw

namespace Mw
open PySem PySem.Spec L2

/-- a module's constant that stands for p -/
structure Glob (K : PySem.W.Frag) (mg : Str → Option Value) (x : Str) (p : PV) : Prop where
  at_ : ∃ u v, mg x = some u ∧ RelV v u ∧ ∀ W H, VR K mg W H p v
theorem Glob.e {X : Cx} {x : Str} {p : PV} {pos : Pos} (g : Glob X.K X.mg x p) (hg : Gl X x) (hd : (x == ("__debug__" : Str)) = false := by decide) : SimE X (.Name x pos) (mC p) := by
  obtain ⟨u, v, h1, h2, h3⟩ := g.at_
  exact sE_glob hg h1 h2 h3 hd
section
variable {K : PySem.W.Frag} {mg : Str → Option Value}
theorem Glob.int {x : Str} {i : Int} {t : Tok} (h : mg x = some (.int i t)) : Glob K mg x (.int i) := ⟨_, .int i, h, ⟨t, rfl⟩, fun _ _ => VR.int⟩
theorem Glob.str {x : Str} {i : Str} {t : Tok} (h : mg x = some (.str i t)) : Glob K mg x (.str i) := ⟨_, .str i, h, ⟨t, rfl⟩, fun _ _ => VR.str⟩
/-- the V of a constant without objects -/
def flatC : PV → Option V
  | .non => some .non
  | .bl b => some (.bl b)
  | .int i => some (.int i)
  | .str x => some (.str x)
  | _ => none
def flatCs : List PV → Option (List V)
  | [] => some []
  | p :: ps => (flatC p).bind fun v => (flatCs ps).map fun vs => v :: vs
theorem flatC_ok {p : PV} {v : V} (h : flatC p = some v) (W : Wd) (H : Hp) : VR K mg W H p v := by
  cases p <;> first | (cases h; done) | (cases h; unfold VR; rfl)
theorem flatCs_ok (W : Wd) (H : Hp) : ∀ {ps : List PV} {vs : List V}, flatCs ps = some vs → VRs K mg W H ps vs
  | [], vs, h => by cases h; exact VRs.nil
  | p :: ps, vs, h => by
    unfold flatCs at h
    cases e : flatC p with
    | none => rw [e] at h; cases h
    | some v =>
      rw [e] at h
      simp only [Option.bind_some] at h
      cases e2 : flatCs ps with
      | none => rw [e2] at h; cases h
      | some r => rw [e2] at h; cases h; exact VRs.cons (flatC_ok e W H) (flatCs_ok W H e2)
theorem Glob.tup {x : Str} {ps : List PV} {vs : List V} {a : Addr} {od : Option Addr} {us : List Value} {n : Nat} {sl : Array (Option Value)} (h : mg x = some (.ref a)) (hk : K.lookup a = some ⟨.type "tuple", od, .seq us.toArray n, sl⟩)
    (hz : us.length ≤ 1000) (hf : flatCs ps = some vs) (hv : us.map absV = vs.map some) (hr : Vals vs us) : Glob K mg x (.tup ps) := ⟨_, .ref a, h, rfl, fun W H => by
  unfold VR
  refine ⟨a, vs, rfl, .inr ⟨_, us.toArray, n, hk, rfl, rfl, ?_, hr⟩, flatCs_ok W H hf⟩
  have : us.length ≤ sizeLine := Nat.le_of_lt (small1000 hz)
  simpa using this⟩
/-! unary minus, repr and str of an int -/
def gNeg : PV → Option PV
  | .int i => some (.int (-i))
  | _ => none
theorem oU_neg : Op1 K mg (rU fun i => .int (-i)) gNeg (pV K mg) := by
  intro x H et W p z Q c hp hz k
  unfold gNeg at hz
  split at hz
  · rename_i i e; cases hz; exact ⟨i, hp.int e, k _ H W (Ext.refl ..) c VR.int⟩
  · cases hz
def gRepr : List PV → Option PV
  | [.int i] => if i.natAbs.log2 < 1920 then some (.str (toString i)) else none
  | _ => none
theorem oA_repr : OpA K mg (fun xs H Q => ∃ i, xs = [.int i] ∧ i.natAbs.log2 < 1920 ∧ Q (.str (toString i)) H) gRepr (pV K mg) := by
  intro xs H et W ps z Q c hp hz k
  unfold gRepr at hz
  split at hz
  · rename_i i e
    split at hz
    · rename_i hl
      cases hz
      obtain ⟨p, rfl, e1⟩ := map1 e
      obtain ⟨v, rfl, h1⟩ := hp.one
      exact ⟨i, by rw [h1.int e1], hl, k _ H W (Ext.refl ..) c VR.str⟩
    · cases hz
  · cases hz
/-! methods by values -/
def OpM (K : PySem.W.Frag) (mg : Str → Option Value) (R : V → List V → Hp → VK → Prop) (g : PV → List PV → Option PV) (P : Post PV) : Prop :=
  ∀ (x : V) (xs : List V) (H : Hp) (et : Hi) (W : Wd) (p : PV) (ps : List PV) (z : PV) (Q : VK), Cel K mg H et W → Pk K mg p x H et W → Pks K mg ps xs H et W → g (deref et p) (ps.map (deref et)) = some z →
    (∀ v H' W', Ext NoO H et W H' et W' → Cel K mg H' et W' → P z v H et W H' et W' → Q v H') → R x xs H Q
def tyM : Ty → PV → Bool
  | .str, .str _ => true
  | .lst, .lst _ => true
  | .dic, .dic _ => true
  | _, _ => false
theorem tyM_ok {t : Ty} {p : PV} {v : V} {H : Hp} {et : Hi} {W : Wd} (c : Cel K mg H et W) (hp : Pk K mg p v H et W) (h : tyM t (deref et p) = true) : tyV K t.name v H := by
  unfold tyM at h
  split at h
  · rename_i s e; rw [hp.str e]; rfl
  · rename_i s e; obtain ⟨a, vs, rfl, h1, _⟩ := hp.lst c e; exact .inl ⟨rfl, vs, SqL.of h1⟩
  · rename_i s e; obtain ⟨a, vs, rfl, h1, _⟩ := hp.dic c e; exact .inr (.inr (.inl ⟨rfl, .inl ⟨vs, h1⟩⟩))
  · cases h
def mMeth (t : Ty) (g : PV → List PV → Option PV) (mo : EM PV) (ms : EM (List PV)) : EM PV := fun ep et R => mo ep et fun p et1 => tyM t (deref et1 p) = true ∧ ms ep et1 fun ps et2 => ∃ z, g (deref et2 p) (ps.map (deref et2)) = some z ∧ R z et2
section
variable {X : Cx} {o e : Expr} {es : List Expr} {mo : EM PV} {ms : EM (List PV)} {name : Str} {apos cpos : Pos} {t : Ty} {R : V → List V → Hp → VK → Prop} {g : PV → List PV → Option PV}
theorem sE_bm (hg : OpM X.K X.mg R g (pV X.K X.mg)) (ho : SimP X o mo) (ha : SimAP X (e :: es) ms) (h : ∀ {to : TE} {ta : TA}, PE X o to → PA X (e :: es) ta → PE X (.Call (.Attribute o name apos) (e :: es) [] cpos) (tBM X.K t.name R to ta)) :
    SimE X (.Call (.Attribute o name apos) (e :: es) [] cpos) (mMeth t g mo ms) := weakE (h ho ha) fun σ H Q ⟨ep, et, W, R0, c, s, e, q⟩ => by
  refine ⟨ep, et, W, _, c, s, e, fun p et1 r1 v H1 W1 x1 c1 p1 => ?_⟩
  refine ⟨tyM_ok c1 p1 r1.1, ep, et1, W1, _, c1, s.ext c x1, r1.2, fun ps et2 r2 vs H2 W2 x2 c2 p2 => ?_⟩
  obtain ⟨z, hz, r3⟩ := r2
  refine hg v vs H2 et2 W2 p ps z Q c2 (Pk.ext x2 c1 p1) p2 hz fun w H3 W3 x3 c3 p3 => ?_
  exact q z et2 r3 w H3 W3 ((x1.NoO_trans x2).NoO_trans x3) c3 p3
theorem sE_bm0 (hg : OpM X.K X.mg R g (pV X.K X.mg)) (ho : SimP X o mo) (h : ∀ {to : TE}, PE X o to → PE X (.Call (.Attribute o name apos) [] [] cpos) (tBM0 X.K t.name R to)) :
    SimE X (.Call (.Attribute o name apos) [] [] cpos) (mMeth t g mo mNil) := weakE (h ho) fun σ H Q ⟨ep, et, W, R0, c, s, e, q⟩ => by
  refine ⟨ep, et, W, _, c, s, e, fun p et1 r1 v H1 W1 x1 c1 p1 => ?_⟩
  obtain ⟨h1, z, hz, r3⟩ := r1
  refine ⟨tyM_ok c1 p1 h1, ?_⟩
  refine hg v [] H1 et1 W1 p [] z Q c1 p1 rfl hz fun w H3 W3 x3 c3 p3 => ?_
  exact q z et1 r3 w H3 W3 (x1.NoO_trans x3) c3 p3
end
def strsP : List PV → Option (List Str)
  | [] => some []
  | .str x :: r => (strsP r).map (x :: ·)
  | _ => none
theorem VRs.strsP {H : Hp} {W : Wd} : ∀ {ps : List PV} {vs : List V} {bs : List Str}, VRs K mg W H ps vs → strsP ps = some bs → vs = bs.map V.str
  | [], vs, bs, h, e => by unfold VRs at h; cases e; exact h
  | p :: ps, vs, bs, h, e => by
    unfold VRs at h
    obtain ⟨v, r, rfl, h1, h2⟩ := h
    cases p <;> first | (cases e; done) | (
      unfold Mw.strsP at e
      cases q : Mw.strsP ps with
      | none => rw [q] at e; cases e
      | some bs' =>
        rw [q] at e; cases e
        unfold VR at h1
        rw [h1, VRs.strsP h2 q]; rfl)
def gJoin : PV → List PV → Option PV
  | .str a, [.lst xs] => (strsP xs).bind fun ys => if (ys.map (·.length)).sum + ys.length * a.length ≤ 16777216 then some (.str (Txt.join a ys)) else none
  | .str a, [.tup xs] => (strsP xs).bind fun ys => if (ys.map (·.length)).sum + ys.length * a.length ≤ 16777216 then some (.str (Txt.join a ys)) else none
  | _, _ => none
theorem oM_join : OpM K mg (fun x xs H Q => ∃ a p, ∃ ys : List Str, x = .str a ∧ xs = [.ref p] ∧ (SqL K H p (ys.map V.str) ∨ SqT K H p (ys.map V.str)) ∧
    (ys.map (·.length)).sum + ys.length * a.length ≤ 16777216 ∧ Q (.str (Txt.join a ys)) H) gJoin (pV K mg) := by
  intro x xs H et W p ps z Q c hp hps hz k
  unfold gJoin at hz
  split at hz
  · rename_i a ys e1 e2
    cases e3 : strsP ys with
    | none => rw [e3] at hz; cases hz
    | some zs =>
      rw [e3] at hz
      simp only [Option.bind_some] at hz
      split at hz
      · rename_i hl
        cases hz
        obtain ⟨p', rfl, e4⟩ := map1 e2
        obtain ⟨v, rfl, h1⟩ := hps.one
        obtain ⟨b, vs, rfl, h2, h3⟩ := h1.lst c e4
        rw [h3.strsP e3] at h2
        exact ⟨a, b, zs, hp.str e1, rfl, .inl (SqL.of h2), hl, k _ H W (Ext.refl ..) c VR.str⟩
      · cases hz
  · rename_i a ys e1 e2
    cases e3 : strsP ys with
    | none => rw [e3] at hz; cases hz
    | some zs =>
      rw [e3] at hz
      simp only [Option.bind_some] at hz
      split at hz
      · rename_i hl
        cases hz
        obtain ⟨p', rfl, e4⟩ := map1 e2
        obtain ⟨v, rfl, h1⟩ := hps.one
        obtain ⟨b, vs, rfl, h2, h3⟩ := h1.tup e4
        rw [h3.strsP e3] at h2
        exact ⟨a, b, zs, hp.str e1, rfl, .inr h2, hl, k _ H W (Ext.refl ..) c VR.str⟩
      · cases hz
  · cases hz
def gStripChars : PV → List PV → Option PV
  | .str a, [.str b] => if a.length ≤ sizeLine then some (.str (Txt.stripChars a b)) else none
  | _, _ => none
theorem oM_stripChars : OpM K mg (fun x xs H Q => ∃ a b, x = .str a ∧ xs = [.str b] ∧ a.length ≤ sizeLine ∧ Q (.str (Txt.stripChars a b)) H) gStripChars (pV K mg) := by
  intro x xs H et W p ps z Q c hp hps hz k
  unfold gStripChars at hz
  split at hz
  · rename_i a b e1 e2
    split at hz
    · rename_i hl
      cases hz
      obtain ⟨p', rfl, e4⟩ := map1 e2
      obtain ⟨v, rfl, h1⟩ := hps.one
      exact ⟨a, b, hp.str e1, by rw [h1.str e4], hl, k _ H W (Ext.refl ..) c VR.str⟩
    · cases hz
  · cases hz
end
section
variable {X : Cx} {e a b : Expr} {me ma mb mi : EM PV} {pos : Pos}
/-! ### a, b = [..], [..] -/
def mParN (i j : Nat) (ma mb : EM PV) : SM := fun ep et R => ma ep et fun p et1 => mb ep et1 fun q et2 => R .nx ((ep.set i (.own p)).set j (.own q)) et2
theorem s_parN {i j : Nat} {x y : Str} {px py pt : Pos} {kt k2 pt2} (hc : X.calm = true) (hN : X.N.Nodup) (hi : X.N[i]? = some x) (hj : X.N[j]? = some y) (hij : i ≠ j)
    (hp : ∀ {ta : TA}, PA X [a, b] ta → PS X (.Assign [.Tuple [.Name x px, .Name y py] kt pt] (.Tuple [a, b] k2 pt2) pos) (tPar i j ta)) (ha : SimN X a ma) (hb : SimN X b mb) (h1 : starEach [a, b] X.env = (false, eval a X.env) :: starEach [b] X.env := by rfl) (h2 : starEach [b] X.env = (false, eval b X.env) :: starEach [] X.env := by rfl) :
    SimS X (.Assign [.Tuple [.Name x px, .Name y py] kt pt] (.Tuple [a, b] k2 pt2) pos) (mParN i j ma mb) := weakS (hp (pa_cons ha (pa_cons hb pa_nil h2) h1)) fun D σ H ⟨ep, et, W, R, c, s, e, q⟩ => by
  refine ⟨ep, et, W, _, c, s, e, fun p et1 r1 v H1 W1 x1 c1 p1 => ⟨ep, et1, W1, _, c1, s.ext c x1, r1, fun p' et2 r2 u H2 W2 x2 c2 p2 => ?_⟩⟩
  obtain ⟨a1, rfl, h0, hf, hl, ho⟩ := p1
  obtain ⟨a2, rfl, g0, gf, gl, go⟩ := p2
  refine ⟨_, _, rfl, ?_⟩
  have ho2 := OwnAt.ext x2 c1 ho hl
  have n1 : H1 a1 ≠ none := ho.there
  have hf2 : ¬ W2.fz a1 := fun z => by
    rcases x2.nfz a1 z with z | z | z
    · exact hf z
    · exact n1 z
    · exact z
  have hl2 : ¬ Live et2 W2 a1 := fun z => by
    rcases x2.live a1 z with z | z
    · exact hl z
    · exact n1 z
  have x12 := x1.NoO_trans x2
  have s2 := s.ext c x12
  have s3 := s2.set_own (i := i) (fun z => s.own_there z h0) hf2 hl2 ho2
  have s4 := s3.set_own (i := j) (fun z => by
    rcases own_set_own z with z | z
    · exact s.own_there z (x1.back g0)
    · exact n1 (z ▸ g0)) gf gl go
  refine q .nx _ et2 r2 _ H2 W2 (Ext.to x12) c2 s4 fun d hd => ?_
  rcases own_set_own hd with hd | rfl
  · rcases own_set_own hd with hd | rfl
    · exact .inl hd
    · exact .inr h0
  · exact .inr (x1.back g0)
end
end Mw

namespace Mw
open PySem PySem.Spec L2

/-! ### == of data, for proofs -/
mutual
def dok : PV → Bool
  | .non => true
  | .bl _ => true
  | .int _ => true
  | .str x => PyData.strOk x
  | .tup xs => doks xs
  | .lst xs => doks xs
  | _ => false
def doks : List PV → Bool
  | [] => true
  | x :: xs => dok x && doks xs
end
mutual
def dpt : PV → Nat
  | .tup xs => dpts xs + 1
  | .lst xs => dpts xs + 1
  | _ => 0
def dpts : List PV → Nat
  | [] => 0
  | x :: xs => max (dpt x) (dpts xs)
end
mutual
def peq : PV → PV → Bool
  | .non, .non => true
  | .bl a, .bl b => a == b
  | .bl a, .int j => (if a then 1 else 0) == j
  | .int i, .bl b => i == (if b then 1 else 0)
  | .int i, .int j => i == j
  | .str x, .str y => x == y
  | .lst xs, .lst ys => peqs xs ys
  | .tup xs, .tup ys => peqs xs ys
  | _, _ => false
def peqs : List PV → List PV → Bool
  | [], [] => true
  | x :: xs, y :: ys => peq x y && peqs xs ys
  | _, _ => false
end
mutual
theorem dok_dat : ∀ (p : PV), dok p = true → ∃ d, dat p = some d ∧ PyData.canLay0 d = true ∧ PyData.depth d = dpt p
  | .non, h => ⟨_, rfl, rfl, rfl⟩
  | .bl b, h => ⟨_, rfl, rfl, rfl⟩
  | .int i, h => ⟨_, rfl, rfl, rfl⟩
  | .str x, h => ⟨_, rfl, by simpa [dok, PyData.canLay0] using h, rfl⟩
  | .tup xs, h => by
    obtain ⟨ds, h1, h2, h3⟩ := doks_dats xs (by simpa [dok] using h)
    exact ⟨.tuple ds, by simp [dat, h1], by simpa [PyData.canLay0] using h2, by simp [PyData.depth, dpt, h3]⟩
  | .lst xs, h => by
    obtain ⟨ds, h1, h2, h3⟩ := doks_dats xs (by simpa [dok] using h)
    exact ⟨.list ds, by simp [dat, h1], by simpa [PyData.canLay0] using h2, by simp [PyData.depth, dpt, h3]⟩
  | .dic _, h => by simp [dok] at h
  | .scr _, h => by simp [dok] at h
  | .ref _, h => by simp [dok] at h
  | .glo _, h => by simp [dok] at h
  | .ty _, h => by simp [dok] at h
theorem doks_dats : ∀ (ps : List PV), doks ps = true → ∃ ds, dats ps = some ds ∧ PyData.canLayAll0 ds = true ∧ PyData.depthAll ds = dpts ps
  | [], h => ⟨[], rfl, rfl, rfl⟩
  | p :: ps, h => by
    simp only [doks, Bool.and_eq_true] at h
    obtain ⟨d, h1, h2, h3⟩ := dok_dat p h.1
    obtain ⟨ds, h4, h5, h6⟩ := doks_dats ps h.2
    exact ⟨d :: ds, by simp [dats, h1, h4], by simp [PyData.canLayAll0, h2, h5], by simp [PyData.depthAll, dpts, h3, h6]⟩
end
mutual
theorem peq_dat : ∀ (p q : PV) (d e : PyData), dat p = some d → dat q = some e → PyData.eqv d e = peq p q
  | p, q, d, e, h, h' => by
    cases p <;> simp only [dat, Option.some.injEq, Option.map_eq_some_iff, reduceCtorEq] at h
    all_goals (cases q <;> simp only [dat, Option.some.injEq, Option.map_eq_some_iff, reduceCtorEq] at h')
    all_goals first
      | (subst h; subst h'; simp [PyData.eqv, peq]; done)
      | (obtain ⟨ds, h1, rfl⟩ := h; subst h'; simp [PyData.eqv, peq]; done)
      | (subst h; obtain ⟨es, h2, rfl⟩ := h'; simp [PyData.eqv, peq]; done)
      | (obtain ⟨ds, h1, rfl⟩ := h; obtain ⟨es, h2, rfl⟩ := h'; first | (simp [PyData.eqv, peq]; done) | (simp only [PyData.eqv, peq]; exact peqs_dats _ _ _ _ h1 h2))
theorem peqs_dats : ∀ (ps qs : List PV) (ds es : List PyData), dats ps = some ds → dats qs = some es → PyData.eqvAll ds es = peqs ps qs
  | [], [], ds, es, h, h' => by simp only [dats, Option.some.injEq] at h h'; subst h; subst h'; simp [PyData.eqvAll, peqs]
  | [], q :: qs, ds, es, h, h' => by
    simp only [dats, Option.some.injEq] at h; subst h
    simp only [dats, Option.bind_eq_some_iff, Option.map_eq_some_iff] at h'
    obtain ⟨d, h1, ds', h2, rfl⟩ := h'
    simp [PyData.eqvAll, peqs]
  | p :: ps, [], ds, es, h, h' => by
    simp only [dats, Option.some.injEq] at h'; subst h'
    simp only [dats, Option.bind_eq_some_iff, Option.map_eq_some_iff] at h
    obtain ⟨d, h1, ds', h2, rfl⟩ := h
    simp [PyData.eqvAll, peqs]
  | p :: ps, q :: qs, ds, es, h, h' => by
    simp only [dats, Option.bind_eq_some_iff, Option.map_eq_some_iff] at h h'
    obtain ⟨d, h1, ds', h2, rfl⟩ := h
    obtain ⟨e, h3, es', h4, rfl⟩ := h'
    simp only [PyData.eqvAll, peqs]
    rw [peq_dat p q d e h1 h3, peqs_dats ps qs ds' es' h2 h4]
end
theorem eqB_peq {p q : PV} (hp : dok p = true) (hq : dok q = true) (h1 : dpt p ≤ 64) (h2 : dpt q ≤ 64) : eqB p q = some (peq p q) := by
  obtain ⟨d, e1, e2, e3⟩ := dok_dat p hp
  obtain ⟨e, f1, f2, f3⟩ := dok_dat q hq
  have sd : SeqAt.shaped d = true := by simp [SeqAt.shaped, e2, e3, h1]
  have se : SeqAt.shaped e = true := by simp [SeqAt.shaped, f2, f3, h2]
  have hv := peq_dat p q d e e1 f1
  unfold eqB
  split <;> first | (simp [peq, Bool.beq_eq_decide_eq]; done) | (rw [e1, f1]; simp only [sd, se, and_self, if_true, hv])
theorem peqs_nil (xs : List PV) : peqs xs [] = xs.isEmpty := by cases xs <;> simp [peqs]
theorem nil_peqs (xs : List PV) : peqs [] xs = xs.isEmpty := by cases xs <;> simp [peqs]
theorem gNe_nil {xs : List PV} (h : doks xs = true) (h1 : dpts xs ≤ 63) : gNe (.lst xs) (.lst []) = some (.bl (!xs.isEmpty)) := by
  unfold gNe
  rw [eqB_peq (by simpa [dok] using h) (by simp [dok, doks]) (by simp [dpt]; omega) (by simp [dpt, dpts])]
  simp [peq, peqs_nil]
theorem gEq_nil {xs : List PV} (h : doks xs = true) (h1 : dpts xs ≤ 63) : gEq (.lst xs) (.lst []) = some (.bl xs.isEmpty) := by
  unfold gEq
  rw [eqB_peq (by simpa [dok] using h) (by simp [dok, doks]) (by simp [dpt]; omega) (by simp [dpt, dpts])]
  simp [peq, peqs_nil]
theorem doks_ints (is : List Int) : doks (is.map .int) = true ∧ dpts (is.map .int) = 0 := by
  induction is with
  | nil => simp [doks, dpts]
  | cons i is ih => simp [doks, dpts, dok, dpt, ih]

/-! ### the pot, seen from without -/
theorem Live.set {et : Hi} {W : Wd} {i : Nat} {c d : Cell} (h : et[i]? = some c) (hc : c ≠ .dead) (hd : d ≠ .dead) (a : Addr) : Live (et.set i d) W a ↔ Live et W a := by
  constructor
  · rintro ⟨j, u, h1, h2, h3⟩
    rcases getset h1 with ⟨e, _, _⟩ | ⟨_, h1⟩
    · exact ⟨i, c, h, hc, e ▸ h3⟩
    · exact ⟨j, u, h1, h2, h3⟩
  · rintro ⟨j, u, h1, h2, h3⟩
    by_cases e : j = i
    · subst e
      exact ⟨j, d, by rw [List.getElem?_set_self (List.getElem?_eq_some_iff.mp h).1], hd, h3⟩
    · exact ⟨j, u, by rw [List.getElem?_set_ne (Ne.symm e)]; exact h1, h2, h3⟩
theorem Cel.recell {K : PySem.W.Frag} {mg : Str → Option Value} {H : Hp} {et : Hi} {W : Wd} (c : Cel K mg H et W) {i : Nat} {d d' : Cell} (h : et[i]? = some d) (hd : d ≠ .dead) (hd' : d' ≠ .dead) (ho : ∀ a, W.mu[i]? = some a → CellOk K mg W H d a → CellOk K mg W H d' a) : Cel K mg H (et.set i d') W := by
  refine ⟨by rw [List.length_set]; exact c.len, fun j u b h1 h2 => ?_, fun j k u w b h1 h2 h3 h4 h5 h6 => ?_, fun b hb z => c.fzl b hb ((Live.set h hd hd' b).mp z), c.fzh⟩
  · rcases getset h1 with ⟨rfl, rfl, _⟩ | ⟨_, h1⟩
    · exact ho b h2 (c.ok _ d b h h2)
    · exact c.ok j u b h1 h2
  · have g : ∀ {k : Nat} {u : Cell}, (et.set i d')[k]? = some u → u ≠ .dead → ∃ u', et[k]? = some u' ∧ u' ≠ .dead := fun {k u} h0 hu => by
      rcases getset h0 with ⟨e, _, _⟩ | ⟨_, h0⟩
      · exact ⟨d, e ▸ h, hd⟩
      · exact ⟨u, h0, hu⟩
    obtain ⟨u1, g1, g2⟩ := g h1 h3
    obtain ⟨u2, g3, g4⟩ := g h2 h4
    exact c.inj j k u1 u2 b g1 g3 g2 g4 h5 h6
theorem Ext.live_iff {O : Addr → Prop} {H H' : Hp} {et et' e2 e2' : Hi} {W W' : Wd} (x : Ext O H et W H' et' W') (h : ∀ a, Live e2 W a ↔ Live et W a) (h' : ∀ a, Live e2' W' a ↔ Live et' W' a) : Ext O H e2 W H' e2' W' :=
  ⟨x.fz, x.nfz, x.mu, fun a z => (x.live a ((h' a).mp z)).imp_left (h a).mpr, fun a o e hl hO => x.keep a o e (fun z => hl ((h a).mpr z)) hO, x.there⟩
section
variable {K : PySem.W.Frag} {mg : Str → Option Value}
def potM : Int := 1099511627776
/-- a draw, in full -/
def spTakeC : FSpec := fun args et R => ∃ (r k : Nat) (m sd ct : Int) (is : List Int), args = [.ref r, .int m] ∧ r ≠ k ∧ et[r]? = some (.lst [.ref k, .int sd, .int ct]) ∧ et[k]? = some (.lst (is.map .int)) ∧ (∀ i ∈ is, 0 ≤ i) ∧
  0 ≤ sd ∧ sd < 2305843009213693951 ∧ 0 ≤ ct ∧ ct < 1099511627776 ∧ 0 < m ∧ m < 1073741824 ∧
  ∀ (d ct' : Int) (is' : List Int), 0 ≤ d → d < m → 0 ≤ ct' → ct' ≤ ct + 1 → (∀ i ∈ is', 0 ≤ i) → R (.int d) ((et.set k (.lst (is'.map .int))).set r (.lst [.ref k, .int sd, .int ct']))
/-- a draw: any number below m -/
def spTake : FSpec := fun args et R => ∃ (r k n : Nat) (m : Int), args = [.ref r, .int m] ∧ r ≠ k ∧ et[r]? = some (.potO k (n + 1)) ∧ et[k]? = some .potI ∧ 0 < m ∧ m < 1073741824 ∧
  ∀ d : Int, 0 ≤ d → d < m → R (.int d) (et.set r (.potO k n))
theorem VRs.ints_eq {W : Wd} {H : Hp} : ∀ {is : List Int} {vs : List V}, VRs K mg W H (is.map .int) vs → vs = is.map V.int
  | [], vs, h => by unfold List.map at h; unfold VRs at h; exact h
  | i :: is, vs, h => by
    rw [List.map_cons] at h
    unfold VRs at h
    obtain ⟨v, t, rfl, h1, h2⟩ := h
    unfold VR at h1
    subst h1
    rw [List.map_cons, VRs.ints_eq h2]
theorem take_imp {vs : List V} {H : Hp} {Q : VK} {E : XK} (h : FS K mg 2 spTake vs H Q E) : FS K mg 2 spTakeC vs H Q E := by
  obtain ⟨hl, et, W, args, R, c, va, ⟨r, k, n, m, rfl, hrk, hr, hk, hm, hm2, hR⟩, q⟩ := h
  have hlr : r < W.mu.length := by rw [← c.len]; exact (List.getElem?_eq_some_iff.mp hr).1
  have hlk : k < W.mu.length := by rw [← c.len]; exact (List.getElem?_eq_some_iff.mp hk).1
  obtain ⟨b, sd, ct, k1, k2, k3, k4, k5, k6⟩ := c.ok r _ _ hr (List.getElem?_eq_getElem hlr)
  obtain ⟨is, k7, k8⟩ := c.ok k _ _ hk (List.getElem?_eq_getElem hlk)
  have bk : W.mu[k] = b := by rw [List.getElem?_eq_getElem hlk] at k1; exact Option.some.inj k1
  have c1 : Cel K mg H (et.set k (.lst (is.map .int))) W := c.recell hk (by simp) (by simp) fun a ha _ => by
    rw [List.getElem?_eq_getElem hlk] at ha; cases ha
    exact ⟨_, k7, VRs.ints is⟩
  have hr1 : (et.set k (.lst (is.map .int)))[r]? = some (.potO k (n + 1)) := by rw [List.getElem?_set_ne (Ne.symm hrk)]; exact hr
  have c2 : Cel K mg H ((et.set k (.lst (is.map .int))).set r (.lst [.ref k, .int sd, .int ct])) W := c1.recell hr1 (by simp) (by simp) fun a ha _ => by
    rw [List.getElem?_eq_getElem hlr] at ha; cases ha
    exact ⟨_, k2, VRs.cons (by unfold VR; exact ⟨b, rfl, k1⟩) (VRs.cons VR.int (VRs.cons VR.int VRs.nil))⟩
  refine ⟨hl, _, W, [.ref r, .int m], fun p et2 => ∃ (d ct' : Int) (is' : List Int), p = .int d ∧ 0 ≤ d ∧ d < m ∧ 0 ≤ ct' ∧ ct' ≤ ct + 1 ∧ (∀ i ∈ is', 0 ≤ i) ∧ et2 = ((((et.set k (.lst (is.map .int))).set r (.lst [.ref k, .int sd, .int ct])).set k (.lst (is'.map .int))).set r (.lst [.ref k, .int sd, .int ct'])), c2, va, ?_, ?_⟩
  · refine ⟨r, k, m, sd, ct, is, rfl, hrk, ?_, ?_, k8, k3, k4, k5, by omega, hm, hm2, fun d ct' is' d1 d2 d3 d4 d5 => ⟨d, ct', is', rfl, d1, d2, d3, d4, d5, rfl⟩⟩
    · rw [List.getElem?_set_self (by rw [List.length_set]; exact (List.getElem?_eq_some_iff.mp hr).1)]
    · rw [List.getElem?_set_ne hrk, List.getElem?_set_self (List.getElem?_eq_some_iff.mp hk).1]
  · rintro p et2 ⟨d, ct', is', rfl, d1, d2, d3, d4, d5, he2⟩ v H' W' x' c' v'
    have hrl := (List.getElem?_eq_some_iff.mp hr).1
    have hkl := (List.getElem?_eq_some_iff.mp hk).1
    have er : et2[r]? = some (.lst [.ref k, .int sd, .int ct']) := by rw [he2, List.getElem?_set_self (by simpa using hrl)]
    have ek : et2[k]? = some (.lst (is'.map .int)) := by rw [he2, List.getElem?_set_ne hrk, List.getElem?_set_self (by simpa using hkl)]
    have eo : ∀ j, j ≠ r → j ≠ k → et2[j]? = et[j]? := fun j h1 h2 => by
      rw [he2, List.getElem?_set_ne (Ne.symm h1), List.getElem?_set_ne (Ne.symm h2), List.getElem?_set_ne (Ne.symm h1), List.getElem?_set_ne (Ne.symm h2)]
    have c3 := c'.recell ek (d' := .potI) (by simp) (by simp) fun a ha ho => by
      obtain ⟨vs, g1, g2⟩ := ho
      rw [VRs.ints_eq g2] at g1
      exact ⟨is', g1, d5⟩
    have er2 : (et2.set k .potI)[r]? = some (.lst [.ref k, .int sd, .int ct']) := by rw [List.getElem?_set_ne (Ne.symm hrk)]; exact er
    have c4 := c3.recell er2 (d' := .potO k n) (by simp) (by simp) fun a ha ho => by
      obtain ⟨vs, g1, g2⟩ := ho
      unfold VRs at g2
      obtain ⟨v1, t1, rfl, g3, g4⟩ := g2
      unfold VRs at g4
      obtain ⟨v2, t2, rfl, g5, g6⟩ := g4
      unfold VRs at g6
      obtain ⟨v3, t3, rfl, g7, g8⟩ := g6
      unfold VRs at g8
      subst g8
      unfold VR at g3 g5 g7
      obtain ⟨b', rfl, g9⟩ := g3
      subst g5 g7
      exact ⟨b', sd, ct', g9, g1, k3, k4, d3, by omega⟩
    have e3 : (et2.set k .potI).set r (.potO k n) = et.set r (.potO k n) := by
      apply List.ext_getElem?
      intro j
      by_cases h1 : j = r
      · subst h1
        rw [List.getElem?_set_self (by rw [List.length_set]; exact (List.getElem?_eq_some_iff.mp er).1), List.getElem?_set_self hrl]
      · rw [List.getElem?_set_ne (Ne.symm h1), List.getElem?_set_ne (Ne.symm h1)]
        by_cases h2 : j = k
        · subst h2
          rw [List.getElem?_set_self (List.getElem?_eq_some_iff.mp ek).1, hk]
        · rw [List.getElem?_set_ne (Ne.symm h2), eo j h1 h2]
    refine q (.int d) _ (hR d d1 d2) v H' W' ?_ (e3 ▸ c4) v'
    refine x'.live_iff (fun a => ?_) fun a => ?_
    · rw [Live.set hr1 (by simp) (by simp), Live.set hk (by simp) (by simp)]
    · rw [← e3, Live.set er2 (by simp) (by simp), Live.set ek (by simp) (by simp)]
/-- the pot's making: two new shared lists -/
def spPotC : FSpec := fun args et R => ∃ ns : List Int, args = [.scr ns] ∧ ns.length ≤ 63 ∧
  ∀ (sd : Int) (is : List Int), 0 ≤ sd → sd < 2305843009213693951 → (∀ i ∈ is, 0 ≤ i) → R (.ref (et.length + 1)) (et ++ [.lst (is.map .int), .lst [.ref et.length, .int sd, .int 0]])
def spPot : FSpec := fun args et R => ∃ ns : List Int, args = [.scr ns] ∧ ns.length ≤ 63 ∧ R (.ref (et.length + 1)) (et ++ [.potI, .potO et.length 1099511627776])
theorem pot_imp {vs : List V} {H : Hp} {Q : VK} {E : XK} (h : FS K mg 1 spPot vs H Q E) : FS K mg 1 spPotC vs H Q E := by
  obtain ⟨hl, et, W, args, R, c, va, ⟨ns, rfl, hns, hR⟩, q⟩ := h
  refine ⟨hl, et, W, [.scr ns], fun p et2 => ∃ (sd : Int) (is : List Int), p = .ref (et.length + 1) ∧ 0 ≤ sd ∧ sd < 2305843009213693951 ∧ (∀ i ∈ is, 0 ≤ i) ∧ et2 = et ++ [.lst (is.map .int), .lst [.ref et.length, .int sd, .int 0]], c, va, ⟨ns, rfl, hns, fun sd is h1 h2 h3 => ⟨sd, is, rfl, h1, h2, h3, rfl⟩⟩, ?_⟩
  rintro p et2 ⟨sd, is, rfl, h1, h2, h3, he⟩ v H' W' x' c' v'
  have er : et2[et.length + 1]? = some (.lst [.ref et.length, .int sd, .int 0]) := by rw [he, List.getElem?_append_right (by omega)]; simp
  have ek : et2[et.length]? = some (.lst (is.map .int)) := by rw [he, List.getElem?_append_right (by omega)]; simp
  have c3 := c'.recell ek (d' := .potI) (by simp) (by simp) fun a ha ho => by
    obtain ⟨vs, g1, g2⟩ := ho
    rw [VRs.ints_eq g2] at g1
    exact ⟨is, g1, h3⟩
  have er2 : (et2.set et.length .potI)[et.length + 1]? = some (.lst [.ref et.length, .int sd, .int 0]) := by rw [List.getElem?_set_ne (by omega)]; exact er
  have c4 := c3.recell er2 (d' := .potO et.length 1099511627776) (by simp) (by simp) fun a ha ho => by
    obtain ⟨vs, g1, g2⟩ := ho
    unfold VRs at g2
    obtain ⟨v1, t1, rfl, g3, g4⟩ := g2
    unfold VRs at g4
    obtain ⟨v2, t2, rfl, g5, g6⟩ := g4
    unfold VRs at g6
    obtain ⟨v3, t3, rfl, g7, g8⟩ := g6
    unfold VRs at g8
    subst g8
    unfold VR at g3 g5 g7
    obtain ⟨b', rfl, g9⟩ := g3
    subst g5 g7
    exact ⟨b', sd, 0, g9, g1, h1, h2, by omega, by omega⟩
  have e3 : (et2.set et.length .potI).set (et.length + 1) (.potO et.length 1099511627776) = et ++ [.potI, .potO et.length 1099511627776] := by
    rw [he]
    apply List.ext_getElem?
    intro j
    by_cases h1 : j = et.length + 1
    · subst h1
      rw [List.getElem?_set_self (by simp), List.getElem?_append_right (by omega)]; simp
    · rw [List.getElem?_set_ne (Ne.symm h1)]
      by_cases h2 : j = et.length
      · subst h2
        rw [List.getElem?_set_self (by simp), List.getElem?_append_right (by omega)]; simp
      · rw [List.getElem?_set_ne (Ne.symm h2)]
        by_cases h3 : j < et.length
        · rw [List.getElem?_append_left h3, List.getElem?_append_left h3]
        · rw [List.getElem?_eq_none (by simp; omega), List.getElem?_eq_none (by simp; omega)]
  refine q _ _ hR v H' W' ?_ (e3 ▸ c4) v'
  refine x'.live_iff (fun a => Iff.rfl) fun a => ?_
  rw [← e3, Live.set er2 (by simp) (by simp), Live.set ek (by simp) (by simp)]
end
end Mw

namespace Mw
open PySem PySem.Spec L2
section
variable {et : Hi}
theorem deref_int (i : Int) : deref et (.int i) = .int i := rfl
theorem deref_str (i : Str) : deref et (.str i) = .str i := rfl
theorem deref_bl (i : Bool) : deref et (.bl i) = .bl i := rfl
theorem deref_non : deref et .non = .non := rfl
theorem deref_tup (i : List PV) : deref et (.tup i) = .tup i := rfl
theorem deref_lst (i : List PV) : deref et (.lst i) = .lst i := rfl
theorem deref_scr (i : List Int) : deref et (.scr i) = .scr i := rfl
theorem deref_dic (i : List (Key × PV)) : deref et (.dic i) = .dic i := rfl
theorem deref_ty (i : Ty) : deref et (.ty i) = .ty i := rfl
theorem eqB_int (i j : Int) : eqB (.int i) (.int j) = some (decide (i = j)) := rfl
theorem gEq_int (i j : Int) : gEq (.int i) (.int j) = some (.bl (decide (i = j))) := rfl
theorem gNe_int (i j : Int) : gNe (.int i) (.int j) = some (.bl (!decide (i = j))) := rfl
theorem gEq_str (i j : Str) : gEq (.str i) (.str j) = some (.bl (decide (i = j))) := rfl
theorem gNe_str (i j : Str) : gNe (.str i) (.str j) = some (.bl (!decide (i = j))) := rfl
theorem atI_cons0 {α : Type} (x : α) (xs : List α) : atI (x :: xs) 0 = some x := by simp [atI, ixN]
end
end Mw
namespace Mw
open PySem PySem.Spec L2
theorem deref_ref {et : Hi} {n : Nat} {xs : List PV} (h : et[n]? = some (.lst xs)) : deref et (.ref n) = .lst xs := by unfold deref; simp only [h]
theorem atI_c0 {α : Type} (x : α) (xs : List α) : atI (x :: xs) 0 = some x := by simp [atI, ixN]
theorem atI_c1 {α : Type} (x y : α) (xs : List α) : atI (x :: y :: xs) 1 = some y := by
  have : (1 : Int) < ((xs.length + 1 + 1 : Nat) : Int) := by omega
  simp only [atI, ixN, List.length_cons]
  rw [if_pos (by decide), if_pos this]; rfl
theorem atI_c2 {α : Type} (x y z : α) (xs : List α) : atI (x :: y :: z :: xs) 2 = some z := by
  have : (2 : Int) < ((xs.length + 1 + 1 + 1 : Nat) : Int) := by omega
  simp only [atI, ixN, List.length_cons]
  rw [if_pos (by decide), if_pos this]; rfl
theorem ixN_0 {n : Nat} (h : 0 < n) : ixN n 0 = some 0 := by simp [ixN, h]
theorem exP {α : Type} {p : α → Prop} {a : α} {q : Option α} (h : q = some a) (k : p a) : ∃ z, q = some z ∧ p z := ⟨a, h, k⟩
end Mw

namespace Mw
open PySem PySem.Spec L2
/-- what a law's def is asked: any script of at most 63 numbers, and the answer is True -/
def spLaw : FSpec := fun args et R => ∃ ns : List Int, args = [.scr ns] ∧ ns.length ≤ 63 ∧ et = [] ∧ ∀ et', R (.bl true) et'
def spTop (K : PySem.W.Frag) : Sp := fun vs H Q _ => ∃ (a : Addr) (ns : List Int), vs = [.ref a] ∧ ns.length ≤ 63 ∧ Only H ∧ SqL K H a (ns.map V.int) ∧ ∀ H', Q (.bl true) H'
theorem top_imp {K : PySem.W.Frag} {mg : Str → Option Value} {vs : List V} {H : Hp} {Q : VK} {E : XK} (h : spTop K vs H Q E) : FS K mg 1 spLaw vs H Q E := by
  obtain ⟨a, ns, rfl, hl, hO, hS, q⟩ := h
  refine ⟨rfl, [], ⟨fun _ => False, []⟩, [.scr ns], fun p _ => p = .bl true, ⟨rfl, fun _ _ _ h => by simp at h, fun _ _ _ _ _ h => by simp at h, fun _ h => h.elim, fun _ h => h.elim⟩, VRs.cons ?_ VRs.nil, ⟨ns, rfl, hl, rfl, fun _ => rfl⟩, ?_⟩
  · unfold VR
    refine ⟨a, rfl, ?_⟩
    rcases hS with (h | ⟨o, h⟩) | h
    · rcases hO a with z | ⟨o, xs, z⟩
      · rw [z] at h; cases h
      · rw [z] at h; cases h
    · exact .inl ⟨o, h⟩
    · exact .inr h
  · rintro p et' rfl v H' W' _ _ hv
    unfold VR at hv
    subst hv
    exact q H'
theorem top_walk {l : PySem.W.OpenLaw} {k : Nat} {q : Program} {loose : List Str} {XP : (Str → Option Value) → Heap → Prop} {YP : World → Heap → Prop} {d : DefRec} {K : Params → PySem.W.Frag} {x : Str} (hn : l.most = some 63) (hdf : d.params.defaults = []) (hr : Room k callerA)
    (hY : ∀ (w : World) (h : Heap), YP w h → (K w.params).In h)
    (F : ∀ (w : World) (mg : Str → Option Value) (fa : Addr) (h : Heap), (K w.params).In h → h.Ns mainGlobals mg → mg d.name = some (.ref fa) →
      ∃ fd : FuncData, (∀ (s : Shared) (u : Value), BindsTo s fd ⟨[u], []⟩ [(x, u)]) ∧ ∀ base : Heap, (K w.params).In base → base.Ns mainGlobals mg → FnOk l.prog w (K w.params) mg base CX0 k fa fd [x] (FS (K w.params) mg 1 spLaw)) :
    PySem.W.WalkO q loose XP YP l.row.toRowW d [] (fun f vs => PySem.call f vs) :=
  L2.walk_of (n := 63) (k := k) (x := x) (CX := fun _ => CX0) (sp := fun w => spTop (K w.params)) hn (by decide) hdf hr hY (fun w mg fa h h1 h2 h3 => by
      obtain ⟨fd, hb, hF⟩ := F w mg fa h h1 h2 h3
      exact ⟨fd, hb, fun base b1 b2 => (hF base b1 b2).imp fun _ _ _ _ z => top_imp z⟩) (fun _ _ a ns hl hO hS => ⟨a, ns, rfl, hl, hO, hS, fun _ => rfl⟩) fun _ _ _ _ _ z => z
/-- nothing can be asked: the bottom of an induction over calls -/
theorem fs_none {P : Program} {w : World} {K : PySem.W.Frag} {mg : Str → Option Value} {base : Heap} {k n : Nat} {f : Addr} {fd : FuncData} {ps : List Str} {sp : FSpec} (h : ∀ args et R, ¬ sp args et R) : FnOk P w K mg base CX0 k f fd ps (FS K mg n sp) := by
  have no : ∀ vs H Q E, ¬ FS K mg n sp vs H Q E := fun vs H Q E ⟨_, _, _, _, _, _, _, q, _⟩ => h _ _ _ q
  exact ⟨fun vs H Q E h => absurd h (no vs H Q E), fun A outer s H args us vs Q E _ _ _ _ h => absurd h (no vs H Q E)⟩
end Mw

namespace Mw
open PySem PySem.Spec L2
/-! ### dict displays -/
def mDnil : EM (List (PV × PV)) := fun _ et R => R [] et
def mDcons (mk mv : EM PV) (m : EM (List (PV × PV))) : EM (List (PV × PV)) := fun ep et R => mk ep et fun k et1 => mv ep et1 fun v et2 => m ep et2 fun ps et3 => R ((k, v) :: ps) et3
def keysP : List (PV × PV) → Option (List (Key × PV))
  | [] => some []
  | (k, v) :: r => (keyP k).bind fun k => (keysP r).map fun r => (k, v) :: r
def mDisp (m : EM (List (PV × PV))) : EM PV := fun ep et R => m ep et fun ps et1 => ∃ kvs, keysP ps = some kvs ∧ kvs.length ≤ 15 ∧ R (.dic (mergeP [] kvs)) et1
section
variable {X : Cx} {K : PySem.W.Frag} {mg : Str → Option Value}
def tDP (K : PySem.W.Frag) (mg : Str → Option Value) (m : EM (List (PV × PV))) : L2.St → Hp → (List (V × V) → Hp → Prop) → Prop := fun sg H Q => ∃ ep et W R, Cel K mg H et W ∧ Slt K mg sg ep H et W ∧ m ep et R ∧
  ∀ a et', R a et' → ∀ vs H' W', Ext NoO H et W H' et' W' → Cel K mg H' et' W' → VRs K mg W' H' (a.map (·.1)) (vs.map (·.1)) → VRs K mg W' H' (a.map (·.2)) (vs.map (·.2)) → Q vs H'
def SimD (X : Cx) (pos : Pos) (keys : List (Option Expr)) (values : List Expr) (m : EM (List (PV × PV))) : Prop := ∃ trs, PPs X pos keys values trs ∧ ∀ σ H Q, tDP X.K X.mg m σ H Q → tPairs trs σ H Q
theorem sD_nil {pos : Pos} : SimD X pos [] [] mDnil := ⟨[], pps_nil, fun σ H Q ⟨ep, et, W, R, c, s, e, q⟩ => q [] et e [] H W (Ext.refl ..) c VRs.nil VRs.nil⟩
theorem sD_cons {pos : Pos} {k v : Expr} {ks : List (Option Expr)} {vs : List Expr} {mk mv : EM PV} {m : EM (List (PV × PV))} (hk : SimE X k mk) (hv : SimE X v mv) (hr : SimD X pos ks vs m) : SimD X pos (some k :: ks) (v :: vs) (mDcons mk mv m) := by
  obtain ⟨trs, hp, hw⟩ := hr
  exact ⟨(_, _) :: trs, pps_cons hk hv hp, fun σ H Q ⟨ep, et, W, R, c, s, e, q⟩ => ⟨ep, et, W, _, c, s, e, fun p et1 r1 v H1 W1 x1 c1 p1 => ⟨ep, et1, W1, _, c1, s.ext c x1, r1, fun p' et2 r2 u H2 W2 x2 c2 p2 =>
    hw σ H2 _ ⟨ep, et2, W2, _, c2, s.ext c (x1.NoO_trans x2), r2, fun ps et3 r3 vs H3 W3 x3 c3 a1 a2 => q _ et3 r3 _ H3 W3 ((x1.NoO_trans x2).NoO_trans x3) c3 (VRs.cons (VR.ext (x2.NoO_trans x3) c1.stays0 _ _ p1) a1) (VRs.cons (VR.ext x3 c2.stays0 _ _ p2) a2)⟩⟩⟩⟩
theorem VRs.uncons {W : Wd} {H : Hp} {p : PV} {ps : List PV} {vs : List V} (h : VRs K mg W H (p :: ps) vs) : ∃ v r, vs = v :: r ∧ VR K mg W H p v ∧ VRs K mg W H ps r := by unfold VRs at h; exact h
theorem keys_vrk {W : Wd} {H : Hp} : ∀ {ps : List (PV × PV)} {vs : List (V × V)} {kvs : List (Key × PV)}, keysP ps = some kvs → VRs K mg W H (ps.map (·.1)) (vs.map (·.1)) → VRs K mg W H (ps.map (·.2)) (vs.map (·.2)) →
    ∃ ks : List (Key × V), vs = ks.map (fun kv => (kV kv.1, kv.2)) ∧ VRk K mg W H kvs ks ∧ ks.length = kvs.length
  | [], [], kvs, e, _, _ => by cases e; exact ⟨[], rfl, by unfold VRk; rfl, rfl⟩
  | [], _ :: _, _, _, h, _ => by have := h.len; simp at this
  | (k, v) :: ps, vs, kvs, e, h1, h2 => by
    unfold keysP at e
    cases ek : keyP k with
    | none => rw [ek] at e; cases e
    | some key =>
      rw [ek, Option.bind_some] at e
      cases er : keysP ps with
      | none => rw [er] at e; cases e
      | some r =>
        rw [er] at e; cases e
        match vs, h1, h2 with
        | [], h1, _ => have := h1.len; simp at this
        | (a, b) :: vs, h1, h2 =>
          obtain ⟨_, _, e1, a1, a2⟩ := VRs.uncons h1
          obtain ⟨_, _, e2, b1, b2⟩ := VRs.uncons h2
          cases e1; cases e2
          obtain ⟨ks, rfl, h3, h4⟩ := keys_vrk er a2 b2
          refine ⟨(key, b) :: ks, ?_, ?_, by rw [List.length_cons, List.length_cons, h4]⟩
          · have : a = kV key := VR.key (p := k) a1 ek
            rw [this]; rfl
          · unfold VRk; exact ⟨b, ks, rfl, b1, h3⟩
theorem sN_disp {pos : Pos} {keys : List (Option Expr)} {values : List Expr} {m : EM (List (PV × PV))} (h : SimD X pos keys values m) (hall : keys.all (·.isSome) = true) (hl : keys.length = values.length) (h0 : keys ≠ []) (h15 : keys.length ≤ 15) :
    SimN X (.Dict keys values pos) (mDisp m) := by
  obtain ⟨trs, hp, hw⟩ := h
  refine weakE (pe_disp hp hall hl h0 h15) fun σ H Q ⟨ep, et, W, R, c, s, e, q⟩ => fun p hp0 => ?_
  obtain ⟨x1, c1, _⟩ := new_ownD c hp0 (show VRk X.K X.mg W H [] [] by unfold VRk; rfl)
  refine hw σ _ _ ⟨ep, et, W, _, c1, s.ext c x1, e, fun ps et1 r1 vs H1 W1 x2 c2 a1 a2 => ?_⟩
  obtain ⟨kvs, ek, e15, r⟩ := r1
  have nl : ¬ Live et W p := c.not_live hp0
  have hp2 : H1 p = some (.dK []) := x2.keep p _ upd_same nl (fun z => z)
  have nf : ¬ W1.fz p := fun z => by
    rcases x2.nfz p z with z | z | z
    · exact c.fzh p z hp0
    · rw [upd_same] at z; cases z
    · exact z
  have nl1 : ¬ Live et1 W1 p := fun z => by
    rcases x2.live p z with z | z
    · exact nl z
    · rw [upd_same] at z; cases z
  obtain ⟨ks, rfl, h3, h4⟩ := keys_vrk ek a1 a2
  refine ⟨hp2, ks, rfl, by omega, ?_⟩
  have own1 : ∀ a, Own [Slot.own (PV.dic [])] [some (V.ref p)] a → a = p := fun a ⟨i, u, h1, h2⟩ => by
    cases i with
    | zero => simp at h2; exact h2.symm
    | succ i => simp at h1
  have s1 : Slt X.K X.mg [some (V.ref p)] [Slot.own (PV.dic [])] H1 et1 W1 := by
    refine ⟨rfl, fun i t o h1 h2 => ?_, fun i j a b u h1 h2 h3 h4 => ?_, fun a h => by rw [own1 a h]; exact nf, fun a h => by rw [own1 a h]; exact nl1⟩
    · cases i with
      | zero =>
        simp at h1 h2; subst h1; subst h2
        exact ⟨p, rfl, [], hp2, by unfold VRk; rfl⟩
      | succ i => simp at h1
    · cases i with
      | zero =>
        cases j with
        | zero => rfl
        | succ j => simp at h2
      | succ i => simp at h1
  have hm : VRk X.K X.mg W1 H1 (mergeP [] kvs) (mergeK [] ks) := VRk.merge h3 (by unfold VRk; rfl)
  obtain ⟨x3, c3, s3, _, _⟩ := own_write c2 s1 (i := 0) (p := .dic []) (p' := .dic (mergeP [] kvs)) (a := p) (o := .dK (mergeK [] ks)) rfl rfl hm
  have x12 : Ext NoO H et W H1 et1 W1 := x1.NoO_trans x2
  have x13 : Ext NoO H et W (upd H1 p (.dK (mergeK [] ks))) et1 W1 := x12.trans x3 fun a h => .inr (by rw [own1 a h]; exact hp0)
  refine q _ et1 r _ _ W1 x13 c3 ⟨p, rfl, hp0, nf, nl1, ?_⟩
  obtain ⟨a, ea, ho⟩ := s3.ok 0 _ _ rfl rfl
  cases ea
  exact ho
/-! ### dict(..) -/
/-- pairs (key, value) -/
def pairsP : List PV → Option (List (Key × PV))
  | [] => some []
  | .tup [k, v] :: r => (keyP k).bind fun k => (pairsP r).map fun r => (k, v) :: r
  | _ => none
def gDict : List PV → Option PV
  | [.dic ks] => some (.dic ks)
  | [.lst ps] => (pairsP ps).map fun ks => .dic (mergeP [] ks)
  | _ => none
def rDictA (K : PySem.W.Frag) : List V → Hp → VK → Prop := fun xs H Q => (∃ (a : Addr) (kvs : List (Key × V)), xs = [.ref a] ∧ Rd H a (.dK kvs) ∧ ∀ p, H p = none → Q (.ref p) (upd H p (.dK kvs))) ∨
  (∃ (a : Addr) (ps : List Addr) (kvs : List (Key × V)), xs = [.ref a] ∧ SqL K H a (ps.map V.ref) ∧ Paired (fun p kv => SqT K H p [kV kv.1, kv.2]) ps kvs ∧ ∀ p, H p = none → Q (.ref p) (upd H p (.dK (mergeK [] kvs))))
theorem call_dictA (hc : X.calm = true := by rfl) : CallR X (.type "dict") (rDictA X.K) := call_dictD.or (call_dictP hc)
theorem pairs_vrk {W : Wd} {H : Hp} : ∀ {ps : List PV} {vs : List V} {kvs : List (Key × PV)}, pairsP ps = some kvs → VRs K mg W H ps vs →
    ∃ (as : List Addr) (ks : List (Key × V)), vs = as.map V.ref ∧ Paired (fun p kv => SqT K H p [kV kv.1, kv.2]) as ks ∧ VRk K mg W H kvs ks
  | [], vs, kvs, e, h => by
    cases e; unfold VRs at h; subst h
    exact ⟨[], [], rfl, .nil, by unfold VRk; rfl⟩
  | p :: ps, vs, kvs, e, h => by
    obtain ⟨u, us, rfl, h1, h2⟩ := VRs.uncons h
    unfold pairsP at e
    split at e
    · rename_i heq; cases heq
    · rename_i k v r heq
      cases heq
      cases ek : keyP k with
      | none => rw [ek] at e; cases e
      | some key =>
        rw [ek, Option.bind_some] at e
        cases er : pairsP ps with
        | none => rw [er] at e; cases e
        | some r =>
          rw [er] at e; cases e
          obtain ⟨as, ks, rfl, h3, h4⟩ := pairs_vrk er h2
          unfold VR at h1
          obtain ⟨a, vs, rfl, hS, hv⟩ := h1
          obtain ⟨k', _, rfl, hk, hv⟩ := VRs.uncons hv
          obtain ⟨v', _, rfl, hv1, hv⟩ := VRs.uncons hv
          unfold VRs at hv; subst hv
          rw [hk.key ek] at hS
          exact ⟨a :: as, (key, v') :: ks, rfl, .cons hS h3, by unfold VRk; exact ⟨v', ks, rfl, hv1, h4⟩⟩
    · cases e
theorem oA_dict : OpA K mg (rDictA K) gDict (pN K mg) := by
  intro xs H et W ps z Q c hp hz k
  unfold gDict at hz
  split at hz
  · rename_i ys e
    cases hz
    obtain ⟨p, rfl, e'⟩ := map1 e
    obtain ⟨v, rfl, h⟩ := hp.one
    obtain ⟨a, vs, rfl, h1, h2⟩ := h.dic c e'
    refine .inl ⟨a, vs, rfl, .inl h1, fun l hl => ?_⟩
    obtain ⟨x1, c1, r1⟩ := new_ownD c hl h2
    exact k _ _ _ x1 c1 r1
  · rename_i ys e
    obtain ⟨p, rfl, e'⟩ := map1 e
    obtain ⟨v, rfl, h⟩ := hp.one
    obtain ⟨a, vs, rfl, h1, h2⟩ := h.lst c e'
    cases ek : pairsP ys with
    | none => rw [ek] at hz; cases hz
    | some ks =>
      rw [ek] at hz; cases hz
      obtain ⟨as, vks, rfl, h3, h4⟩ := pairs_vrk ek h2
      refine .inr ⟨a, as, vks, rfl, SqL.of h1, h3, fun l hl => ?_⟩
      obtain ⟨x1, c1, r1⟩ := new_ownD c hl (VRk.merge h4 (by unfold VRk; rfl) : VRk K mg W H (mergeP [] ks) (mergeK [] vks))
      exact k _ _ _ x1 c1 r1
  · cases hz
/-! ### list(range(..)) -/
def rgP (a b : Int) : List PV := (List.range (b - a).toNat).map fun i => .int (a + (i : Nat))
theorem VRs.rg {W : Wd} {H : Hp} (a b : Int) : VRs K mg W H (rgP a b) (rgV a b) := by
  unfold rgP rgV
  induction List.range (b - a).toNat with
  | nil => exact VRs.nil
  | cons i r ih => exact VRs.cons VR.int ih
def mListRg1 (m : EM PV) : EM PV := fun ep et R => m ep et fun p et1 => ∃ n : Int, p = .int n ∧ 0 ≤ n ∧ n ≤ 16777216 ∧ R (.lst (rgP 0 n)) et1
def mListRg2 (m m' : EM PV) : EM PV := fun ep et R => m ep et fun p et1 => m' ep et1 fun p' et2 => ∃ a b : Int, p = .int a ∧ p' = .int b ∧ RgOk a b ∧ R (.lst (rgP a b)) et2
theorem sN_listRg1 {a : Expr} {m : EM PV} {p p2 pos pos2 : Pos} (hg : Gl X "list") (hm : X.mg "list" = none) (hg2 : Gl X "range") (hm2 : X.mg "range" = none) (ha : SimE X a m) (hc : X.calm = true := by rfl)
    (na : starEach [a] X.env = (false, eval a X.env) :: starEach [] X.env := by rfl) (nb : starEach [.Call (.Name "range" p2) [a] [] pos2] X.env = (false, eval (.Call (.Name "range" p2) [a] [] pos2) X.env) :: starEach [] X.env := by rfl) :
    SimN X (.Call (.Name "list" p) [.Call (.Name "range" p2) [a] [] pos2] [] pos) (mListRg1 m) :=
  weakE (pe_listRg hc hg hm (prg_1 hg2 hm2 ha na) nb) fun σ H Q ⟨ep, et, W, R, c, s, e, q⟩ => ⟨ep, et, W, _, c, s, e, fun z et1 r1 v H1 W1 x1 c1 p1 => by
    obtain ⟨n, rfl, h0, h1, r⟩ := r1
    have p1 : VR X.K X.mg W1 H1 (.int n) v := p1
    unfold VR at p1
    refine ⟨n, p1, RgOk.of_le (Int.le_refl _) h1 (by decide) h0, fun l hl => ?_⟩
    obtain ⟨x2, c2, r2⟩ := new_own c1 hl (VRs.rg (K := X.K) (mg := X.mg) (W := W1) (H := H1) 0 n)
    exact q _ et1 r _ _ W1 (x1.NoO_trans x2) c2 (early_N _ _ _ _ _ _ _ _ _ _ _ x1 r2)⟩
theorem sN_listRg2 {a b : Expr} {m m' : EM PV} {p p2 pos pos2 : Pos} (hg : Gl X "list") (hm : X.mg "list" = none) (hg2 : Gl X "range") (hm2 : X.mg "range" = none) (ha : SimE X a m) (hb : SimE X b m') (hc : X.calm = true := by rfl)
    (na : starEach [a, b] X.env = (false, eval a X.env) :: starEach [b] X.env := by rfl) (nb : starEach [b] X.env = (false, eval b X.env) :: starEach [] X.env := by rfl) (hp : (backTo pos2 (starEach [b] X.env)).any (·.1) = false := by rfl)
    (nc : starEach [.Call (.Name "range" p2) [a, b] [] pos2] X.env = (false, eval (.Call (.Name "range" p2) [a, b] [] pos2) X.env) :: starEach [] X.env := by rfl) :
    SimN X (.Call (.Name "list" p) [.Call (.Name "range" p2) [a, b] [] pos2] [] pos) (mListRg2 m m') :=
  weakE (pe_listRg hc hg hm (prg_2 hg2 hm2 ha hb na nb hp) nc) fun σ H Q ⟨ep, et, W, R, c, s, e, q⟩ => ⟨ep, et, W, _, c, s, e, fun z et1 r1 v H1 W1 x1 c1 p1 => ⟨ep, et1, W1, _, c1, s.ext c x1, r1, fun z' et2 r2 v' H2 W2 x2 c2 p2 => by
    obtain ⟨i, j, rfl, rfl, hok, r⟩ := r2
    have p1 : VR X.K X.mg W1 H1 (.int i) v := p1
    have p2 : VR X.K X.mg W2 H2 (.int j) v' := p2
    unfold VR at p1 p2
    refine ⟨i, j, p1, p2, hok, fun l hl => ?_⟩
    obtain ⟨x3, c3, r3⟩ := new_own c2 hl (VRs.rg (K := X.K) (mg := X.mg) (W := W2) (H := H2) i j)
    exact q _ et2 r _ _ W2 ((x1.NoO_trans x2).NoO_trans x3) c3 (early_N _ _ _ _ _ _ _ _ _ _ _ (x1.NoO_trans x2) r3)⟩⟩
end
end Mw

/-! == of nested data with dicts -/
namespace Mw
open PySem PySem.Spec L2
def flatE : V → V → Option Bool
  | .int i, .int j => some (i == j)
  | .str i, .str j => some (i == j)
  | .bl i, .bl j => some (i == j)
  | .non, .non => some true
  | .bl a, .int b => some ((if a then 1 else 0) == b)
  | .int a, .bl b => some (a == (if b then 1 else 0))
  | .int _, .str _ => some false
  | .str _, .int _ => some false
  | .int _, .non => some false
  | .non, .int _ => some false
  | .str _, .non => some false
  | .non, .str _ => some false
  | .bl _, .str _ => some false
  | .str _, .bl _ => some false
  | .bl _, .non => some false
  | .non, .bl _ => some false
  | _, _ => none
/-- x == y answers b; at most n deep -/
def EqXS (K : PySem.W.Frag) (H : Hp) (E : V → V → Bool → Prop) (x y : V) (b : Bool) : Prop :=
  (∃ a a' xs ys, ∃ e : Nat → Bool, x = .ref a ∧ y = .ref a' ∧ SqL K H a xs ∧ SqL K H a' ys ∧ xs.length = ys.length ∧ (∀ j u v, xs[j]? = some u → ys[j]? = some v → E u v (e j)) ∧ b = (List.range xs.length).all e) ∨
  (∃ a a' xs ys, ∃ e : Nat → Bool, x = .ref a ∧ y = .ref a' ∧ SqT K H a xs ∧ SqT K H a' ys ∧ (∀ j u v, xs[j]? = some u → ys[j]? = some v → E u v (e j)) ∧ b = ((List.range (min xs.length ys.length)).all e && xs.length == ys.length)) ∨
  (∃ a a' ks ls, x = .ref a ∧ y = .ref a' ∧ H a = some (.dK ks) ∧ H a' = some (.dK ls) ∧ ks.length = ls.length ∧ (∀ k u, (k, u) ∈ ks → ∃ v, valV ls k = some v ∧ E u v true) ∧ b = true)
def EqXV (K : PySem.W.Frag) (H : Hp) : Nat → V → V → Bool → Prop
  | 0 => fun x y b => flatE x y = some b
  | n + 1 => fun x y b => flatE x y = some b ∨ EqXS K H (EqXV K H n) x y b
section
variable {X : Cx} {pins : List (Addr × Obj)} {σ : L2.St} {H : Hp} {s : Shared}
theorem flatE_at {A : Around} {x y : V} {u v : Value} {b : Bool} (h : flatE x y = some b) (rx : RelV x u) (ry : RelV y v) : SeqAt.EqAt A s u v b := by
  unfold flatE at h
  split at h <;> (first | (cases h; done) | skip) <;> cases h <;> unfold RelV at rx ry
  · obtain ⟨t, rfl⟩ := rx; obtain ⟨t', rfl⟩ := ry; exact SeqAt.EqAt.int_int _ _ _ _
  · obtain ⟨t, rfl⟩ := rx; obtain ⟨t', rfl⟩ := ry; exact SeqAt.EqAt.str_str _ _ _ _
  · subst rx; subst ry; exact SeqAt.EqAt.bool_bool _ _
  · subst rx; subst ry; exact SeqAt.EqAt.same _
  · subst rx; obtain ⟨t', rfl⟩ := ry; exact SeqAt.EqAt.bool_int _ _ _
  · obtain ⟨t, rfl⟩ := rx; subst ry; exact SeqAt.EqAt.int_bool _ _ _
  · obtain ⟨t, rfl⟩ := rx; obtain ⟨t', rfl⟩ := ry; exact SeqAt.EqAt.int_str _ _ _ _
  · obtain ⟨t, rfl⟩ := rx; obtain ⟨t', rfl⟩ := ry; exact SeqAt.EqAt.str_int _ _ _ _
  · obtain ⟨t, rfl⟩ := rx; subst ry; exact SeqAt.EqAt.int_none _ _
  · subst rx; obtain ⟨t', rfl⟩ := ry; exact SeqAt.EqAt.none_int _ _
  · obtain ⟨t, rfl⟩ := rx; subst ry; exact SeqAt.EqAt.str_none _ _
  · subst rx; obtain ⟨t', rfl⟩ := ry; exact SeqAt.EqAt.none_str _ _
  · subst rx; obtain ⟨t', rfl⟩ := ry; exact SeqAt.EqAt.bool_str _ _ _
  · obtain ⟨t, rfl⟩ := rx; subst ry; exact SeqAt.EqAt.str_bool _ _ _
  · subst rx; subst ry; exact SeqAt.EqAt.bool_none _
  · subst rx; subst ry; exact SeqAt.EqAt.none_bool _
theorem flatE_same {x : V} {b : Bool} (h : flatE x x = some b) : b = true := by
  cases x <;> simp [flatE] at h <;> first | exact h.symm | exact h | (rw [← h])
theorem eqx_same (I : Inv X pins σ H s) : ∀ (n : Nat) (x : V) (b : Bool), EqXV X.K H n x x b → b = true
  | 0, x, b, h => flatE_same h
  | n + 1, x, b, h => by
    rcases h with h | ⟨a, a', xs, ys, e, rfl, e2, h1, h2, hl, he, rfl⟩ | ⟨a, a', xs, ys, e, rfl, e2, h1, h2, he, rfl⟩ | ⟨_, _, _, _, _, _, _, _, _, _, h⟩
    · exact flatE_same h
    · cases e2
      have := I.list_inj h1 h2
      subst this
      rw [List.all_eq_true]
      intro j hj
      have hlt := List.mem_range.mp hj
      exact eqx_same I n _ _ (he j _ _ (List.getElem?_eq_getElem hlt) (List.getElem?_eq_getElem hlt))
    · cases e2
      have := I.tuple_inj h1 h2
      subst this
      rw [Bool.and_eq_true, List.all_eq_true]
      refine ⟨fun j hj => ?_, by simp⟩
      have hlt := List.mem_range.mp hj
      rw [Nat.min_self] at hlt
      exact eqx_same I n _ _ (he j _ _ (List.getElem?_eq_getElem hlt) (List.getElem?_eq_getElem hlt))
    · exact h
theorem Vals.at_of {xs : List V} {us : List Value} (r : Vals xs us) {j : Nat} (h : j < us.length) : ∃ x, xs[j]? = some x ∧ RelV x us[j] := by
  have hl := Vals.length r
  have hx : xs[j]? = some xs[j] := List.getElem?_eq_getElem (by omega)
  obtain ⟨u, e, q⟩ := Vals.get r hx
  rw [List.getElem?_eq_getElem h] at e
  cases e
  exact ⟨_, hx, q⟩
theorem dict_facts (I : Inv X pins σ H s) {n : Nat} {E : V → V → Bool → Prop} (ih : ∀ u u' v y, E u u' true → RelV u v → RelV u' y → PySem.W.EqTree X.prog X.w s n v y true) {a a' : Addr} {ks ls : List (Key × V)} (h1 : H a = some (.dK ks)) (h2 : H a' = some (.dK ls)) (hl : ks.length = ls.length)
    (he : ∀ k u, (k, u) ∈ ks → ∃ v, valV ls k = some v ∧ E u v true) : ∃ va vb : List (Key × Value), (a == sysModules) = false ∧ (a' == sysModules) = false ∧ s.heap.DictOf (mixKind X.prog X.w) a va ∧ s.heap.DictOf (mixKind X.prog X.w) a' vb ∧
      (∀ k v y, (k, v) ∈ va → valueAt vb k = some y → PySem.W.EqTree X.prog X.w s n v y ((fun _ => true) k)) ∧ (va.length == vb.length && va.all fun p => (valueAt vb p.1).isSome && (fun _ => true) p.1) = true := by
  obtain ⟨za, ya, va, ra, da⟩ := (show ObjOk X.prog X.w H s.heap a (.dK ks) from I.hok a _ h1)
  obtain ⟨zb, yb, vb, rb, db⟩ := (show ObjOk X.prog X.w H s.heap a' (.dK ls) from I.hok a' _ h2)
  have ll : va.length = vb.length := by rw [← ra.length, ← rb.length]; exact hl
  have hm : ∀ k v, (k, v) ∈ va → ∃ u, (k, u) ∈ ks ∧ RelV u v := by
    unfold KV at ra
    clear hl h1 h2 he da db ll za zb
    induction ra with
    | nil => intro k v h; cases h
    | @cons p q ps qs h t ih =>
      intro k v hkv
      rcases List.mem_cons.mp hkv with e | hkv
      · subst e
        obtain ⟨h1, h2⟩ := h
        refine ⟨p.2, ?_, h2⟩
        have : p = (k, p.2) := by obtain ⟨p1, p2⟩ := p; simp at h1; rw [h1]
        rw [← this]; exact List.mem_cons_self
      · obtain ⟨u, hu, r⟩ := ih k v hkv
        exact ⟨u, List.mem_cons_of_mem _ hu, r⟩
  have ho : ∀ k v, (k, v) ∈ va → ∃ y, valueAt vb k = some y ∧ PySem.W.EqTree X.prog X.w s n v y true := fun k v hkv => by
    obtain ⟨u, hu, r⟩ := hm k v hkv
    obtain ⟨u', e1, e2⟩ := he k u hu
    have rr : RelO (some u') (valueAt vb k) := by rw [← e1]; exact rb.val k
    obtain ⟨y, hy, ry⟩ := rr.some_of
    exact ⟨y, hy, ih u u' v y e2 r ry⟩
  refine ⟨va, vb, ya, yb, da, db, fun k v y hkv hy => ?_, ?_⟩
  · obtain ⟨y', hy', t⟩ := ho k v hkv
    rw [hy] at hy'; cases hy'
    exact t
  · rw [Bool.and_eq_true, List.all_eq_true]
    refine ⟨by rw [ll]; simp, fun p hp => ?_⟩
    obtain ⟨y, hy, _⟩ := ho p.1 p.2 hp
    simp [hy]
theorem eqx_tree (I : Inv X pins σ H s) : ∀ (n : Nat) (x y : V) (u v : Value) (b : Bool), EqXV X.K H n x y b → RelV x u → RelV y v → PySem.W.EqTree X.prog X.w s n u v b
  | 0, x, y, u, v, b, h, rx, ry => .leaf fun A _ => flatE_at h rx ry
  | n + 1, x, y, u, v, b, h, rx, ry => by
    rcases h with h | h
    · exact .leaf fun A _ => flatE_at h rx ry
    have hall : EqXV X.K H (n + 1) x y b := .inr h
    rcases h with ⟨a, a', xs, ys, e, rfl, rfl, h1, h2, hl, he, hb⟩ | ⟨a, a', xs, ys, e, rfl, rfl, h1, h2, he, hb⟩ | ⟨a, a', ks, ls, rfl, rfl, h1, h2, hl, he, hb⟩
    · have ru : u = Value.ref a := rx
      have rv : v = Value.ref a' := ry
      subst ru; subst rv
      by_cases ea : a = a'
      · subst ea
        have := eqx_same I (n + 1) _ _ hall
        subst this
        exact .same
      obtain ⟨us, r1, p1, _⟩ := I.list h1
      obtain ⟨vs, r2, p2, _⟩ := I.list h2
      have l1 := Vals.length r1
      have l2 := Vals.length r2
      rw [hb, show xs.length = us.toArray.size by simpa using l1]
      refine .lists ea p1.isList p2.isList (by simp; omega) fun j q1 q2 => ?_
      simp at q1 q2
      obtain ⟨x1, g1, k1⟩ := Vals.at_of r1 q1
      obtain ⟨x2, g2, k2⟩ := Vals.at_of r2 q2
      simpa using eqx_tree I n x1 x2 _ _ _ (he j x1 x2 g1 g2) k1 k2
    · have ru : u = Value.ref a := rx
      have rv : v = Value.ref a' := ry
      subst ru; subst rv
      by_cases ea : a = a'
      · subst ea
        have := eqx_same I (n + 1) _ _ hall
        subst this
        exact .same
      obtain ⟨us, r1, p1, _⟩ := I.tuple h1
      obtain ⟨vs, r2, p2, _⟩ := I.tuple h2
      have l1 := Vals.length r1
      have l2 := Vals.length r2
      rw [hb, show xs.length = us.toArray.size by simpa using l1, show ys.length = vs.toArray.size by simpa using l2]
      refine .tuples ea p1 p2 fun j q1 q2 => ?_
      simp at q1 q2
      obtain ⟨x1, g1, k1⟩ := Vals.at_of r1 q1
      obtain ⟨x2, g2, k2⟩ := Vals.at_of r2 q2
      simpa using eqx_tree I n x1 x2 _ _ _ (he j x1 x2 g1 g2) k1 k2
    · have ru : u = Value.ref a := rx
      have rv : v = Value.ref a' := ry
      subst ru; subst rv
      subst hb
      by_cases ea : a = a'
      · subst ea; exact .same
      obtain ⟨va, vb, ya, yb, da, db, t, e⟩ := dict_facts I (fun u u' v y e r r' => eqx_tree I n u u' v y true e r r') h1 h2 hl he
      rw [← e]
      exact .dicts (e := fun _ => true) ea ya yb da db t
def rEqX (K : PySem.W.Frag) : R2 := fun x y H Q => ∃ n b, n ≤ 60 ∧ EqXS K H (EqXV K H n) x y b ∧ Q (.bl b) H
theorem op_eqX (hu : X.A.units + 64 < cLine) : OpR X (compareOp .Eq) (rEqX X.K) := by
  intro pins s σ H x y v u Q I rx ry h
  obtain ⟨n, b, hn, h, q⟩ := h
  rcases h with ⟨a, a', xs, ys, e, rfl, rfl, h1, h2, hl, he, rfl⟩ | ⟨a, a', xs, ys, e, rfl, rfl, h1, h2, he, rfl⟩ | ⟨a, a', ks, ls, rfl, rfl, h1, h2, hl, he, rfl⟩
  · have ru : v = Value.ref a := rx
    have rv : u = Value.ref a' := ry
    subst ru; subst rv
    obtain ⟨us, r1, p1, _⟩ := I.list h1
    obtain ⟨vs, r2, p2, _⟩ := I.list h2
    have l1 := Vals.length r1
    have l2 := Vals.length r2
    rw [show xs.length = us.toArray.size by simpa using l1] at q
    refine PySem.W.eq_listsT (n := n) (e := e) p1.isList p2.isList (by simp; omega) (fun j q1 q2 => ?_) (by omega) ⟨.bl _, H, I, rfl, q⟩
    simp at q1 q2
    obtain ⟨x1, g1, k1⟩ := Vals.at_of r1 q1
    obtain ⟨x2, g2, k2⟩ := Vals.at_of r2 q2
    simpa using eqx_tree I n x1 x2 _ _ _ (he j x1 x2 g1 g2) k1 k2
  · have ru : v = Value.ref a := rx
    have rv : u = Value.ref a' := ry
    subst ru; subst rv
    obtain ⟨us, r1, p1, _⟩ := I.tuple h1
    obtain ⟨vs, r2, p2, _⟩ := I.tuple h2
    have l1 := Vals.length r1
    have l2 := Vals.length r2
    rw [show xs.length = us.toArray.size by simpa using l1, show ys.length = vs.toArray.size by simpa using l2] at q
    refine PySem.W.eq_tuplesT (n := n) (e := e) p1 p2 (fun j q1 q2 => ?_) (by omega) ⟨.bl _, H, I, rfl, q⟩
    simp at q1 q2
    obtain ⟨x1, g1, k1⟩ := Vals.at_of r1 q1
    obtain ⟨x2, g2, k2⟩ := Vals.at_of r2 q2
    simpa using eqx_tree I n x1 x2 _ _ _ (he j x1 x2 g1 g2) k1 k2
  · have ru : v = Value.ref a := rx
    have rv : u = Value.ref a' := ry
    subst ru; subst rv
    obtain ⟨va, vb, ya, yb, da, db, t, e⟩ := dict_facts I (fun u u' v y e r r' => eqx_tree I n u u' v y true e r r') h1 h2 hl he
    exact PySem.W.eq_dictsT (n := n) (e := fun _ => true) ya yb da db t (by omega) (by rw [e]; exact ⟨.bl true, H, I, rfl, q⟩)
end
/-! the same of plain values -/
def allB : List (Option Bool) → Option (List Bool)
  | [] => some []
  | o :: r => o.bind fun b => (allB r).map (b :: ·)
def flatX : PV → PV → Option Bool
  | .int i, .int j => some (i == j)
  | .str i, .str j => some (i == j)
  | .bl i, .bl j => some (i == j)
  | .non, .non => some true
  | .bl a, .int b => some ((if a then 1 else 0) == b)
  | .int a, .bl b => some (a == (if b then 1 else 0))
  | .int _, .str _ => some false
  | .str _, .int _ => some false
  | .int _, .non => some false
  | .non, .int _ => some false
  | .str _, .non => some false
  | .non, .str _ => some false
  | .bl _, .str _ => some false
  | .str _, .bl _ => some false
  | .bl _, .non => some false
  | .non, .bl _ => some false
  | _, _ => none
def eqXS (e : PV → PV → Option Bool) : PV → PV → Option Bool
  | .lst xs, .lst ys => if xs.length = ys.length then (allB (List.zipWith e xs ys)).map fun bs => bs.all id else none
  | .tup xs, .tup ys => (allB (List.zipWith e xs ys)).map fun bs => bs.all id && xs.length == ys.length
  | .dic ks, .dic ls => if ks.length = ls.length ∧ (ks.all fun kv => match valP ls kv.1 with
      | some q => e kv.2 q == some true
      | none => false) = true then some true else none
  | _, _ => none
def eqX : Nat → PV → PV → Option Bool
  | 0, p, q => flatX p q
  | n + 1, p, q => (flatX p q).orElse fun _ => eqXS (eqX n) p q
section
variable {K : PySem.W.Frag} {mg : Str → Option Value} {W : Wd} {H : Hp}
theorem flatX_ok {p q : PV} {x y : V} {b : Bool} (h : flatX p q = some b) (hp : VR K mg W H p x) (hq : VR K mg W H q y) : flatE x y = some b := by
  unfold flatX at h
  split at h <;> (first | (cases h; done) | skip) <;> cases h <;> unfold VR at hp hq <;> subst hp <;> subst hq <;> rfl
theorem allB_get : ∀ {os : List (Option Bool)} {bs : List Bool}, allB os = some bs → bs.length = os.length ∧ ∀ j o, os[j]? = some o → o = some (bs.getD j true)
  | [], bs, h => by cases h; exact ⟨rfl, fun j o h => by simp at h⟩
  | o :: os, bs, h => by
    unfold allB at h
    cases o with
    | none => cases h
    | some b =>
      rw [Option.bind_some] at h
      cases e : allB os with
      | none => rw [e] at h; cases h
      | some r =>
        rw [e] at h; cases h
        obtain ⟨h1, h2⟩ := allB_get e
        refine ⟨by rw [List.length_cons, List.length_cons, h1], fun j o' hj => ?_⟩
        cases j with
        | zero => simp at hj; rw [← hj]; simp
        | succ j => simpa using h2 j o' (by simpa using hj)
theorem all_getD (bs : List Bool) : bs.all id = (List.range bs.length).all fun j => bs.getD j true := by
  rw [Bool.eq_iff_iff, List.all_eq_true, List.all_eq_true]
  constructor
  · intro h j hj
    have hlt := List.mem_range.mp hj
    have : bs.getD j true = bs[j] := by simp [List.getD, List.getElem?_eq_getElem hlt]
    rw [this]
    exact h _ (List.getElem_mem hlt)
  · intro h b hb
    obtain ⟨j, hlt, rfl⟩ := List.mem_iff_getElem.mp hb
    have := h j (List.mem_range.mpr hlt)
    simpa [List.getD, List.getElem?_eq_getElem hlt] using this
theorem VRs.back : ∀ {ps : List PV} {vs : List V} {i : Nat} {v : V}, VRs K mg W H ps vs → vs[i]? = some v → ∃ p, ps[i]? = some p ∧ VR K mg W H p v := fun {ps vs i v} h e => by
  have hl := (List.getElem?_eq_some_iff.mp e).1
  have hp : ps[i]? = some (ps[i]'(by rw [h.len]; exact hl)) := List.getElem?_eq_getElem _
  obtain ⟨u, e1, r⟩ := h.get hp
  rw [e] at e1; cases e1
  exact ⟨_, hp, r⟩
theorem eqXS_ok {e : PV → PV → Option Bool} {E : V → V → Bool → Prop} (ih : ∀ p q x y b, e p q = some b → VR K mg W H p x → VR K mg W H q y → E x y b) {p q : PV} {x y : V} {b : Bool} (h : eqXS e p q = some b) (hp : (VR K mg W H p x) ∨ ∃ a, x = .ref a ∧ OwnAt K mg W H p a) (hq : (VR K mg W H q y) ∨ ∃ a, y = .ref a ∧ OwnAt K mg W H q a) :
    EqXS K H E x y b := by
  have lst : ∀ {p : PV} {x : V} {xs : List PV}, p = .lst xs → ((VR K mg W H p x) ∨ ∃ a, x = .ref a ∧ OwnAt K mg W H p a) → ∃ a vs, x = .ref a ∧ SqL K H a vs ∧ VRs K mg W H xs vs := fun {p x xs} hp h => by
    subst hp
    rcases h with h | ⟨a, rfl, vs, h1, h2⟩
    · unfold VR at h
      obtain ⟨a, vs, rfl, _, h1, h2⟩ := h
      exact ⟨a, vs, rfl, SqL.of h1, h2⟩
    · exact ⟨a, vs, rfl, SqL.of h1, h2⟩
  have tup : ∀ {p : PV} {x : V} {xs : List PV}, p = .tup xs → ((VR K mg W H p x) ∨ ∃ a, x = .ref a ∧ OwnAt K mg W H p a) → ∃ a vs, x = .ref a ∧ SqT K H a vs ∧ VRs K mg W H xs vs := fun {p x xs} hp h => by
    subst hp
    rcases h with h | ⟨a, rfl, h⟩
    · unfold VR at h; exact h
    · cases h
  have dic : ∀ {p : PV} {x : V} {xs : List (Key × PV)}, p = .dic xs → ((VR K mg W H p x) ∨ ∃ a, x = .ref a ∧ OwnAt K mg W H p a) → ∃ a vs, x = .ref a ∧ H a = some (.dK vs) ∧ VRk K mg W H xs vs := fun {p x xs} hp h => by
    subst hp
    rcases h with h | ⟨a, rfl, vs, h1, h2⟩
    · unfold VR at h
      obtain ⟨a, vs, rfl, _, h1, h2⟩ := h
      exact ⟨a, vs, rfl, h1, h2⟩
    · exact ⟨a, vs, rfl, h1, h2⟩
  unfold eqXS at h
  have zip : ∀ {xs ys : List PV} {bs : List Bool}, allB (List.zipWith e xs ys) = some bs → bs.length = min xs.length ys.length ∧ ∀ {us vs : List V}, VRs K mg W H xs us → VRs K mg W H ys vs → ∀ j u v, us[j]? = some u → vs[j]? = some v → E u v (bs.getD j true) := fun {xs ys bs} eb => by
    obtain ⟨h1, h2⟩ := allB_get eb
    refine ⟨by rw [h1, List.length_zipWith], fun {us vs} r r' j u v hu hv => ?_⟩
    obtain ⟨p, hp, rp⟩ := r.back hu
    obtain ⟨q, hq, rq⟩ := r'.back hv
    refine ih p q u v _ (h2 j _ ?_) rp rq
    rw [List.getElem?_zipWith, hp, hq]
  split at h
  · rename_i xs ys
    split at h
    · rename_i hl
      cases eb : allB (List.zipWith e xs ys) with
      | none => rw [eb] at h; cases h
      | some bs =>
        rw [eb] at h; cases h
        obtain ⟨a, us, rfl, h1, r1⟩ := lst rfl hp
        obtain ⟨a', vs, rfl, h2, r2⟩ := lst rfl hq
        obtain ⟨z1, z2⟩ := zip eb
        refine .inl ⟨a, a', us, vs, fun j => bs.getD j true, rfl, rfl, h1, h2, by rw [← r1.len, ← r2.len, hl], z2 r1 r2, ?_⟩
        show bs.all id = _
        rw [← r1.len, all_getD, z1, hl, Nat.min_self]
    · cases h
  · rename_i xs ys
    cases eb : allB (List.zipWith e xs ys) with
    | none => rw [eb] at h; cases h
    | some bs =>
      rw [eb] at h; cases h
      obtain ⟨a, us, rfl, h1, r1⟩ := tup rfl hp
      obtain ⟨a', vs, rfl, h2, r2⟩ := tup rfl hq
      obtain ⟨z1, z2⟩ := zip eb
      refine .inr (.inl ⟨a, a', us, vs, fun j => bs.getD j true, rfl, rfl, h1, h2, z2 r1 r2, ?_⟩)
      show (bs.all id && _) = _
      rw [← r1.len, ← r2.len, all_getD, z1]
  · rename_i ks ls
    split at h
    · rename_i hh
      cases h
      obtain ⟨a, us, rfl, h1, r1⟩ := dic rfl hp
      obtain ⟨a', vs, rfl, h2, r2⟩ := dic rfl hq
      refine .inr (.inr ⟨a, a', us, vs, rfl, rfl, h1, h2, by rw [← r1.len, ← r2.len, hh.1], fun k u hu => ?_, rfl⟩)
      have hall := List.all_eq_true.mp hh.2
      -- the entry of ks
      have ent : ∀ {ks : List (Key × PV)} {us : List (Key × V)}, VRk K mg W H ks us → ∀ k u, (k, u) ∈ us → ∃ p, (k, p) ∈ ks ∧ VR K mg W H p u := by
        intro ks
        induction ks with
        | nil => intro us r k u hm; unfold VRk at r; subst r; cases hm
        | cons kv ks ih2 =>
          intro us r k u hm
          obtain ⟨k0, p0⟩ := kv
          unfold VRk at r
          obtain ⟨v0, r0, rfl, hv0, hr0⟩ := r
          rcases List.mem_cons.mp hm with e0 | hm
          · cases e0; exact ⟨p0, List.mem_cons_self, hv0⟩
          · obtain ⟨p, hp, hv⟩ := ih2 hr0 k u hm
            exact ⟨p, List.mem_cons_of_mem _ hp, hv⟩
      obtain ⟨p, hpm, hpv⟩ := ent r1 k u hu
      have hx := hall (k, p) hpm
      simp only at hx
      cases ev : valP ls k with
      | none => rw [ev] at hx; cases hx
      | some q =>
        rw [ev] at hx
        obtain ⟨v, e1, hqv⟩ := (r2.val (k := k)).1 q ev
        exact ⟨v, e1, ih p q u v true (eq_of_beq hx) hpv hqv⟩
    · cases h
  · cases h
theorem eqX_ok : ∀ (n : Nat) (p q : PV) (x y : V) (b : Bool), eqX n p q = some b → VR K mg W H p x → VR K mg W H q y → EqXV K H n x y b
  | 0, p, q, x, y, b, h, hp, hq => flatX_ok h hp hq
  | n + 1, p, q, x, y, b, h, hp, hq => by
    unfold eqX at h
    cases e : flatX p q with
    | some b' =>
      rw [e] at h; cases h
      exact .inl (flatX_ok e hp hq)
    | none =>
      rw [e] at h
      exact .inr (eqXS_ok (eqX_ok n) h (.inl hp) (.inl hq))
/-- == as eqB tells it, else item by item -/
def gEqX (p q : PV) : Option PV := match eqXS (eqX 60) p q with
  | some b => some (.bl b)
  | none => gEq p q
def rEqXA (K : PySem.W.Frag) : R2 := fun x y H Q => rEqX K x y H Q ∨ rEqA K x y H Q
theorem op_eqXA {X : Cx} (hu : X.A.units + 64 < cLine) : OpR X (compareOp .Eq) (rEqXA X.K) := (op_eqX hu).or (op_eqA hu)
theorem pk_own {et : Hi} (c : Cel K mg H et W) {p : PV} {x : V} (h : Pk K mg p x H et W) {r : PV} (e : Mw.deref et p = r) (hr : (∃ xs, r = .lst xs) ∨ (∃ xs, r = .tup xs) ∨ ∃ xs, r = .dic xs) : VR K mg W H r x ∨ ∃ a, x = .ref a ∧ OwnAt K mg W H r a := by
  rcases hr with ⟨xs, rfl⟩ | ⟨xs, rfl⟩ | ⟨xs, rfl⟩
  · obtain ⟨a, vs, rfl, h1, h2⟩ := h.lst c e
    exact .inr ⟨a, rfl, vs, h1, h2⟩
  · obtain ⟨a, vs, rfl, h1, h2⟩ := h.tup e
    exact .inl (by unfold VR; exact ⟨a, vs, rfl, h1, h2⟩)
  · obtain ⟨a, vs, rfl, h1, h2⟩ := h.dic c e
    exact .inr ⟨a, rfl, vs, h1, h2⟩
theorem eqXS_kinds {e : PV → PV → Option Bool} {p q : PV} {b : Bool} (h : eqXS e p q = some b) : ((∃ xs, p = .lst xs) ∨ (∃ xs, p = .tup xs) ∨ ∃ xs, p = .dic xs) ∧ ((∃ xs, q = .lst xs) ∨ (∃ xs, q = .tup xs) ∨ ∃ xs, q = .dic xs) := by
  unfold eqXS at h
  split at h
  · exact ⟨.inl ⟨_, rfl⟩, .inl ⟨_, rfl⟩⟩
  · exact ⟨.inr (.inl ⟨_, rfl⟩), .inr (.inl ⟨_, rfl⟩)⟩
  · exact ⟨.inr (.inr ⟨_, rfl⟩), .inr (.inr ⟨_, rfl⟩)⟩
  · cases h
theorem o2_eqX : Op2 K mg (rEqXA K) gEqX (pV K mg) := by
  intro x y H et W p q z Q c hp hq hz k
  unfold gEqX at hz
  cases e : eqXS (eqX 60) (Mw.deref et p) (Mw.deref et q) with
  | none =>
    rw [e] at hz
    exact .inr (o2_eq x y H et W p q z Q c hp hq hz k)
  | some b =>
    rw [e] at hz; cases hz
    obtain ⟨k1, k2⟩ := eqXS_kinds e
    exact .inl ⟨60, b, Nat.le_refl _, eqXS_ok (eqX_ok 60) e (pk_own c hp rfl k1) (pk_own c hq rfl k2), k _ H W (Ext.refl ..) c VR.bl⟩
end
end Mw


/-! sorted(set(xs)) of texts: the set of texts with all that its walk needs -/
namespace TS2
open PySem PySem.Spec PyProof.Rows L2
abbrev kd (P : Program) (w : World) : PySem.KeyKind P w Str := PySem.strKind P w
def keyS (e : Int × Value) : Str := match e.2 with
  | .str x _ => x
  | _ => Str.empty
def GoodS (P : Program) (w : World) (e : Int × Value) : Prop := ∃ k tk, e.2 = Value.str k tk ∧ e.1 = (kd P w).hash k
/-- the set of texts at a; L its members in the table's order -/
def SetX (P : Program) (w : World) (h : Heap) (a : Addr) (S : Str → Bool) (n : Nat) : Prop :=
  ∃ o es ep t, h.get? a = some o ∧ o.ExactSet ∧ o.data = .set es ep t ∧ ((∀ e ∈ es.toList, GoodS P w e) ∧ (es.toList.map keyS).Nodup ∧ ∀ k, S k = true ↔ k ∈ es.toList.map keyS) ∧
    es.size ≤ n ∧ es.size < scanBound ∧ t.fits es.size = true ∧ Ris t.place.toList ∧ (w.params.followText "set-order" = true ∨ t.led = true)
section
variable {P : Program} {w : World} {h h' : Heap} {a : Addr} {S S' : Str → Bool}
theorem SetX.keep {n : Nat} (R : SetX P w h a S n) (k : ∀ o, h.get? a = some o → h'.get? a = some o) : SetX P w h' a S n := by
  obtain ⟨o, es, ep, t, ho, r⟩ := R
  exact ⟨o, es, ep, t, k o ho, r⟩
theorem SetX.to {n : Nat} (R : SetX P w h a S n) (e : ∀ k, S' k = S k) : SetX P w h a S' n := funext e ▸ R
theorem is_key {e : Int × Value} (g : GoodS P w e) (k : Str) : (kd P w).is k e.2 = true ↔ keyS e = k := by
  obtain ⟨x, tk, e1, _⟩ := g
  have : keyS e = x := by unfold keyS; rw [e1]
  rw [this, e1]
  show (Value.isStrOf k (.str x tk)) = true ↔ x = k
  simp [Value.isStrOf]
theorem elems {l : List (Int × Value)} (g : ∀ e ∈ l, GoodS P w e) : ElemsOf (kd P w) l := fun e he => by
  obtain ⟨k, tk, h1, h2⟩ := g e he
  exact ⟨⟨k, by rw [h1]; exact PySem.strKind_is P w k tk, h2⟩, by rw [h1]; rfl⟩
theorem mem_keys {l : List (Int × Value)} (g : ∀ e ∈ l, GoodS P w e) (k : Str) : k ∈ l.map keyS ↔ ∃ e ∈ l, (kd P w).is k e.2 = true := by
  rw [List.mem_map]
  exact ⟨fun ⟨e, he, q⟩ => ⟨e, he, (is_key (g e he) k).2 q⟩, fun ⟨e, he, q⟩ => ⟨e, he, (is_key (g e he) k).1 q⟩⟩
end
section
variable {P : Program} {w : World} {A : Around} {E : Value → Shared → Prop} {s : Shared} {a : Addr} {S : Str → Bool}
def Elt (P : Program) (w : World) (es : Array (Int × Value)) (S : Str → Bool) : Prop := (∀ e ∈ es.toList, GoodS P w e) ∧ (es.toList.map keyS).Nodup ∧ ∀ k, S k = true ↔ k ∈ es.toList.map keyS
theorem Elt.perm {es es' : Array (Int × Value)} {S : Str → Bool} (g : Elt P w es S) (pm : es'.toList.Perm es.toList) : Elt P w es' S :=
  ⟨fun e he => g.1 e (pm.mem_iff.mp he), (pm.map keyS).nodup_iff.mpr g.2.1, fun k => (g.2.2 k).trans (pm.map keyS).mem_iff.symm⟩
/-- the end of laying one more: the table stands, or is laid anew -/
theorem lay_end {g : Bool → Sem Unit} (hg : ∀ (b : Bool) (s₁ : Shared) (Q' : Unit → Shared → Prop), Q' () s₁ → wpAny (model P w) A (g b) Q' E s₁)
    {o : Obj} {es : Array (Int × Value)} {ep : Nat} {t : SetTable} (ho : s.heap.get? a = some o) (hex : o.ExactSet) (hd : o.data = .set es ep t)
    {es1 : Array (Int × Value)} {t2 : SetTable} (g1 : Elt P w es1 S) (hb1 : es1.size < scanBound) (hf2 : t2.fits es1.size = true) (hr : Ris t2.place.toList) (hl : w.params.followText "set-order" = true ∨ t2.led = true) {was : Bool} {n : Nat} (hz : es1.size ≤ n) {R : Option Bool → Shared → Prop}
    (hR : ∀ h', Heap.SameBut a s.heap h' → SetX P w h' a S n → R (some true) { s with heap := h' }) :
    wpAny (model P w) A (do
        storeSet a es1 t2
        if (!was && t2.tooFull) = true then do
            g (relayAll t2 es1 (SetTable.grown es1.size)).2.2
            storeSet a (relayAll t2 es1 (SetTable.grown es1.size)).1 (relayAll t2 es1 (SetTable.grown es1.size)).2.1
            pure (some true)
          else pure (some true)) R E s := by
  have ho1 := store_at (es' := es1) (t' := t2) ho hd
  have sb1 := Heap.SameBut.update s.heap a (Obj.putSet es1 t2)
  refine wpAny_bind (wpAny_storeSet_of ho hd ?_ (fits_of_scanBound hb1))
  split
  · have pm := relayAll_perm t2 es1 (SetTable.grown es1.size)
    have k1 := relayAll_fits t2 es1 (SetTable.grown es1.size)
    have k2 := relayAll_ris t2 es1 (SetTable.grown es1.size)
    have k3 := relayAll_led t2 es1 (SetTable.grown es1.size)
    generalize relayAll t2 es1 (SetTable.grown es1.size) = Z at pm k1 k2 k3 ⊢
    obtain ⟨es2, t3, gave⟩ := Z
    dsimp only at pm k1 k2 k3 ⊢
    have hsz : es2.size = es1.size := by rw [← Array.length_toList, pm.length_eq, Array.length_toList]
    have hb2 : es2.size < scanBound := by rw [hsz]; exact hb1
    refine wpAny_bind (hg _ _ _ (wpAny_bind (wpAny_storeSet_of ho1 rfl ?_ (fits_of_scanBound hb2))))
    exact wpAny_pure (hR _ (sb1.trans (Heap.SameBut.update _ a _)) ⟨_, es2, _, t3, store_at (es' := es2) (t' := t3) ho1 rfl, hex, rfl, g1.perm pm, by omega, hb2, k1, k2, hl.imp id fun z => by rw [k3]; exact z⟩)
  · exact wpAny_pure (hR _ sb1 ⟨_, es1, _, t2, ho1, hex, rfl, g1, hz, hb1, hf2, hr, hl⟩)
/-- the members' number -/
theorem lay_one {k : Str} {tk : Tok} {n : Nat} {Q : Bool → Shared → Prop} (R : SetX P w s.heap a S n) (room : n + 1 < scanBound)
    (hQ : ∀ h' b, Heap.SameBut a s.heap h' → SetX P w h' a (fun j => S j || decide (j = k)) (n + 1) → Q b { s with heap := h' }) :
    wpAny (model P w) A (setAddHashed a (.str k tk) ((kd P w).hash k)) Q E s := by
  obtain ⟨o, es, ep, t, ho, hex, hd, ⟨g, nd, hm⟩, hz, hb, hf, hr, hl⟩ := R
  have hkey : (kd P w).is k (.str k tk) = true := PySem.strKind_is P w k tk
  have hsc : (Value.str k tk).scannable = true := rfl
  have hel : ElemsOf (kd P w) es.toList := elems g
  unfold setAddHashed setAddHashedIn
  refine wpAny_holding (wpAny_bind (wpAny_setState_of ho hd hf ?_))
  dsimp only
  rw [byScan_of hsc hb hel]
  simp only [↓reduceIte]
  unfold setAddByScan
  refine wpAny_bind (wpAny_bind (wpAny_rule (wpAny_bind (wpAny_setScan_of hkey ho hd hf hel ?_))))
  cases hfi : List.findIdx? (fun e => (kd P w).is k e.2) es.toList with
  | some j =>
    dsimp only
    obtain ⟨hj, pj, _⟩ := List.findIdx?_eq_some_iff_getElem.mp hfi
    have hk : k ∈ es.toList.map keyS := (mem_keys (P := P) (w := w) g k).2 ⟨es.toList[j], List.getElem_mem hj, pj⟩
    refine wpAny_pure (wpAny_pure (hQ s.heap _ (Heap.SameBut.refl a s.heap) ⟨o, es, ep, t, ho, hex, hd, ⟨g, nd, fun i => ?_⟩, by omega, hb, hf, hr, hl⟩))
    rw [Bool.or_eq_true, decide_eq_true_eq, hm i]
    exact ⟨fun z => z.elim id fun e => e ▸ hk, .inl⟩
  | none =>
    dsimp only
    have hnk : k ∉ es.toList.map keyS := fun z => by
      obtain ⟨e, he, q⟩ := (mem_keys (P := P) (w := w) g k).1 z
      have c := List.findIdx?_eq_none_iff.mp hfi e he
      rw [q] at c; cases c
    have hgw : ∀ (b : Bool) {s₁ : Shared} {Q' : Unit → Shared → Prop}, Q' () s₁ → wpAny (model P w) A (match b with | true => rule "set.scan.the-table-gave-way" | false => pure ()) Q' E s₁ :=
      fun b s₁ Q' q => by cases b <;> first | exact wpAny_pure q | exact wpAny_rule q
    have pm := layNew_perm t es ((kd P w).hash k) (.str k tk)
    have k1 := layNew_fits t es ((kd P w).hash k) (.str k tk)
    have k2 := layNew_ris t es ((kd P w).hash k) (.str k tk) hr
    have k3 := layNew_led t es ((kd P w).hash k) (.str k tk)
    generalize layNew t es ((kd P w).hash k) (.str k tk) = Z at pm k1 k2 k3 ⊢
    obtain ⟨es1, t1, was, gave⟩ := Z
    dsimp only at pm k1 k2 k3 ⊢
    rw [Array.toList_push] at pm
    have pc : es1.toList.Perm (((kd P w).hash k, Value.str k tk) :: es.toList) := pm.trans (List.perm_append_singleton _ _)
    have pk : (es1.toList.map keyS).Perm (k :: es.toList.map keyS) := pc.map keyS
    have g1 : Elt P w es1 (fun j => S j || decide (j = k)) := by
      refine ⟨fun e he => ?_, pk.nodup_iff.mpr (List.nodup_cons.mpr ⟨hnk, nd⟩), fun i => ?_⟩
      · rcases List.mem_cons.mp (pc.mem_iff.mp he) with z | z
        · rw [z]; exact ⟨k, tk, rfl, rfl⟩
        · exact g e z
      · rw [Bool.or_eq_true, decide_eq_true_eq, hm i, pk.mem_iff, List.mem_cons]
        exact Or.comm
    have hs1 : es1.size = es.size + 1 := by rw [← Array.length_toList, pc.length_eq, List.length_cons, Array.length_toList]
    have hz1 : es1.size ≤ n + 1 := by omega
    have hb1 : es1.size < scanBound := by omega
    have hled : w.params.followText "set-order" = true ∨ t1.led = true := hl.imp id fun z => by rw [k3]; exact z
    refine wpAny_bind (hgw _ ?_)
    split
    · refine wpAny_bind ?_
      rw [hashByValue_scannable 8 hsc]
      refine wpAny_pure (lay_end ?_ ho hex hd g1 hb1 ?_ ?_ ?_ hz1 ?_)
      · intro b s₁ Q' q; cases b <;> first | exact wpAny_pure q | exact wpAny_rule q
      · first | (split <;> first | exact k1 | exact SetTable.fits_plain_off k1) | exact k1
      · first | (split <;> exact k2) | exact k2
      · first | (split <;> exact hled) | exact hled
      · intro h' sb r; dsimp only; exact wpAny_pure (hQ h' _ sb r)
    · refine wpAny_bind (wpAny_pure ?_)
      simp only [↓reduceIte]
      refine lay_end ?_ ho hex hd g1 hb1 k1 k2 hled hz1 ?_
      · intro b s₁ Q' q; cases b <;> first | exact wpAny_pure q | exact wpAny_rule q
      · intro h' sb r; dsimp only; exact wpAny_pure (hQ h' _ sb r)
end
/-! ### set(xs) -/
section
variable {P : Program} {w : World} {A : Around} {R : Result → Shared → Prop} {I : Addr} {fp wr : List Addr} {G : Array GenState → Array GenState → Prop} {n : Nat} {Pv : Nat → Value → Prop} {St : Nat → Shared → Prop}
theorem take_any {xs : List Str} {i : Nat} (hi : i < xs.length) (j : Str) : (xs.take (i + 1)).any (· == j) = ((xs.take i).any (· == j) || decide (j = xs.getD i Str.empty)) := by
  rw [List.take_succ, List.getElem?_eq_getElem hi, List.any_append]
  have : xs.getD i Str.empty = xs[i] := by rw [List.getD_eq_getElem?_getD, List.getElem?_eq_getElem hi]; rfl
  rw [this]
  congr 1
  show ((xs[i] == j) || false) = _
  rw [Bool.or_false, Bool.eq_iff_iff, beq_iff_eq, decide_eq_true_eq]
  exact eq_comm
theorem grow_set (W : WalksS P w A.in1 I fp wr G n Pv St) (T : Addr) (hT : T ∉ fp) (xs : List Str) (hn : n = xs.length) (hfew : xs.length + 1 < scanBound) (hval : ∀ i v, Pv i v → ∃ t, v = .str (xs.getD i Str.empty) t) :
    ∀ (k i : Nat) (s : Shared), n - i = k → i ≤ n → St i s → SetX P w s.heap T (fun j => (xs.take i).any (· == j)) i →
      (∀ s', Moved (T :: wr) G s s' → SetX P w s'.heap T (fun j => (xs.take n).any (· == j)) n → R (.ok (.ret .none)) s') →
      codeAny (model P w) A (.builtin "set.update.loop" ⟨[.ref T, .ref I], []⟩) R s := by
  have nw : T ∉ wr := fun h => hT (W.sub _ h)
  have hsub : ∀ b ∈ wr, b ∈ T :: wr := fun b hb => List.mem_cons_of_mem _ hb
  intro k
  induction k with
  | zero =>
    intro i s hk hi hst hS hR
    obtain rfl : i = n := by omega
    refine codeAny_builtin F.entry_set_update_loop ?_
    rw [Around.under_plainId F.plain_set_update_loop _]
    show wpAny _ A.in1 (pyNext (.ref I) >>= _) _ _ s
    refine wpAny_bind (W.done s _ _ hst fun s' hm => ?_)
    show wpAny _ A.in1 (ret Value.none) _ _ s'
    exact wpAny_pure (hR s' (hm.mono hsub) (hS.keep fun o e => hm.heap T o nw e))
  | succ k ih =>
    intro i s hk hi hst hS hR
    have hlt : i < n := by omega
    refine codeAny_builtin F.entry_set_update_loop ?_
    rw [Around.under_plainId F.plain_set_update_loop _]
    show wpAny _ A.in1 (pyNext (.ref I) >>= _) _ _ s
    refine wpAny_bind (W.item i s _ _ hlt hst fun v s' hP hst' hm => ?_)
    obtain ⟨t, rfl⟩ := hval i v hP
    have hS1 : SetX P w s'.heap T (fun j => (xs.take i).any (· == j)) i := hS.keep fun o e => hm.heap T o nw e
    show wpAny _ A.in1 (holding [Value.str (xs.getD i Str.empty) t] (setAdd T (.str (xs.getD i Str.empty) t)) >>= _) _ _ s'
    refine wpAny_bind (wpAny_holding ?_)
    unfold setAdd
    refine wpAny_holding (wpAny_bind ((kd P w).pyHash (k := xs.getD i Str.empty) (PySem.strKind_is _ _ _ _) ?_))
    refine lay_one (s := { s' with toks := s'.toks + 1 }) hS1 (by omega) fun h' b sb hS2 => ?_
    have hS3 : SetX P w h' T (fun j => (xs.take (i + 1)).any (· == j)) (i + 1) := hS2.to fun j => take_any (by omega) j
    refine wpAny_pure ⟨plainId_quiet F.plain_set_update_loop _, ih (i + 1) _ (by omega) hlt (W.frame _ s' _ _ hst' (Nat.le_succ _) fun b hb o e => ?_) hS3 fun s'' hm'' hS'' => ?_⟩
    · rw [sb.2 b (fun h : b = T => hT (by rw [← h]; exact hb))]; exact e
    · refine hR s'' (Moved.trans W.gtrans ((hm.mono hsub).then_heap (Nat.le_succ _) fun b o hb e => ?_) hm'') hS''
      rw [sb.2 b (fun h : b = T => hb (by rw [h]; exact List.mem_cons_self))]; exact e
end
section
variable {P : Program} {w : World} {A : Around} {E : Value → Shared → Prop} {s : Shared}
/-- the object of set() -/
abbrev freshO (w : World) : Obj := { cls := .type "set", dict := none, data := .set #[] 0 (.fresh 0 0 (!w.params.followText "set-order")) }
theorem setX_fresh {h : Heap} {a : Addr} (ho : h.get? a = some (freshO w)) : SetX P w h a (fun _ => false) 0 := by
  refine ⟨_, #[], 0, _, ho, ⟨rfl, rfl, rfl⟩, rfl, ⟨fun e he => by simp at he, by simp, fun k => by simp⟩, Nat.le_refl _, by decide, rfl, ?_, ?_⟩
  · show Ris [] ; exact List.Pairwise.nil
  · cases e : w.params.followText "set-order" with
    | true => exact .inl rfl
    | false => exact .inr rfl
set_option maxHeartbeats 3200000 in
theorem set_texts {l : Addr} {items : Array Value} (xs : List Str) {Q : Value → Shared → Prop} (hh : A.handled = none) (hl : s.heap.IsList l items) (hi : StrsAre items.toList xs) (hfew : xs.length + 1 < scanBound)
    (h : ∀ (h' : Heap) (tk : Nat), SetX P w h' s.heap.objs.size (fun j => xs.any (· == j)) xs.length → (∀ b o, s.heap.get? b = some o → h'.get? b = some o) → Q (.ref s.heap.objs.size) { s with heap := h', toks := tk }) :
    wpAny (model P w) A (call (.type "set") [.ref l]) Q E s := by
  have hisz : items.size = xs.length := by rw [← StrsAre.len_eq hi, Array.length_toList]
  obtain ⟨c, tl, hmro⟩ := F.called_set.mro
  have hmade := F.called_set.made
  have hsub := F.called_set.sub
  refine wpAny_call (codeAny_of_tree ?_)
  show wpAny _ _ (callAny (.type "set") _) _ _ _
  refine wpAny_pure ⟨Code.quiet_builtin _ (by decide +kernel), codeAny_builtin F.entry_type_call ?_⟩
  rw [Around.under_plain (weight_type_call_type "set" [.ref l] []) rfl]
  have h1 := F.called_set.notType
  have h2 := F.called_set.canCreate
  have hct := F.typeCall_set_1 (.ref l)
  repeat (any_goals (first | assumption | wp_step))
  refine codeAny_mono (code_set_led1 (.ref l) (E := E) (Q₁ := fun obj s₁ => obj = .ref s.heap.objs.size ∧ s₁ = { s with heap := s.heap.push (freshO w) }) ⟨rfl, rfl⟩) fun r s₁ hr => ?_
  cases r with
  | error e => exact hr
  | ok fl =>
    cases fl with
    | ret obj =>
      obtain ⟨rfl, rfl⟩ := hr
      have hS : (s.heap.push (freshO w)).get? s.heap.objs.size = some (freshO w) := Heap.get?_push_size _ rfl
      have hT : Shared.TypeIs { s with heap := s.heap.push (freshO w) } (.ref s.heap.objs.size) "set" := ⟨_, hS, rfl⟩
      have hli := F.called_set.init.lookup
      have hbi := F.called_set.init.bind (.ref s.heap.objs.size)
      repeat (any_goals (first | assumption | wp_step))
      refine codeAny_mono (codeAny_call_builtin (R := wants (fun r s₂ => r = .none ∧ ∃ h' tk, s₂ = { s with heap := h', toks := tk } ∧ SetX P w h' s.heap.objs.size (fun j => xs.any (· == j)) xs.length ∧
          (∀ b o, s.heap.get? b = some o → h'.get? b = some o)) E) F.called_set.init.plain F.entry_set_init (check_set_init_1 hT ?_)) fun r₂ s₂ hr₂ => ?_
      · obtain ⟨ol, hol, hcl, nl, hdl⟩ := hl
        obtain ⟨ocls, odict, odata, oslots⟩ := ol
        simp only at hcl hdl
        subst hcl; subst hdl
        have hol' : (s.heap.push (freshO w)).get? l = some { cls := .type "list", dict := odict, data := .seq items nl, slots := oslots } := Heap.get?_push_of_some _ hol
        have hsls := F.sub_list_set
        have hslf := F.sub_list_frozenset
        have hne : (Value.type "list" == Value.type "dict") = false := by decide
        have hl1 : (s.heap.push (freshO w)).IsList l items := ⟨_, hol', rfl, nl, rfl⟩
        unfold Builtin.«set.__init__» noKeywords Builtin.Frozenset.updateFrom
        generalize hPI : pyIter = PI
        wp_walk
        subst hPI
        refine wpAny_pyIter_list hl1 (wpAny_bind (wpAny_runValue ?_))
        have hlS : l < s.heap.objs.size := Heap.lt_size hol
        have hh3 : A.in1.in1.in1.handled = none := by simp [hh]
        have hneI : l ≠ (s.heap.push (freshO w)).objs.size := by
          rw [Heap.size_push]; exact Nat.ne_of_lt (Nat.lt_succ_of_lt hlS)
        have hSf : s.heap.objs.size ∉ [(s.heap.push (freshO w)).objs.size, l] := by
          rw [Heap.size_push]; simp only [List.mem_cons, List.mem_singleton, List.not_mem_nil, or_false, not_or]
          exact ⟨Nat.ne_of_lt (Nat.lt_succ_self _), Nat.ne_of_gt hlS⟩
        have hval : ∀ (i : Nat) (v : Value), items[i]? = some v → ∃ t, v = .str (xs.getD i Str.empty) t := fun i v hv => SS.strs_at hi i v (by rw [Array.getElem?_toList]; exact hv)
        refine grow_set (P := P) (w := w) ((Walks.list hh3 _ l hneI items).toS) s.heap.objs.size hSf xs hisz hfew hval (items.size - 0) 0 _ (by omega) (Nat.zero_le _)
          ⟨⟨_, Heap.get?_push_size _ rfl, rfl, rfl⟩, (hl1.push _)⟩ ?hS0 ?hR
        case hS0 => exact SetX.to (setX_fresh (Heap.get?_push_of_some _ hS)) fun _ => rfl
        case hR =>
          intro s' hm hS'
          obtain ⟨h', g2, d', tk', os'⟩ := s'
          have eg : g2 = s.gens := hm.gens
          have ed : d' = s.drawn := hm.drawn
          have eo : os' = s.os := hm.os
          subst eg; subst ed; subst eo
          show wpAny _ _ _ _ _ _
          refine wpAny_pure ?_
          show wpAny _ _ (ret Value.none) _ _ _
          rw [hisz, List.take_length] at hS'
          refine wpAny_pure ⟨rfl, h', tk', rfl, hS', fun b o e => ?_⟩
          have hb := Heap.lt_size e
          have hb1 : b ≠ s.heap.objs.size := Nat.ne_of_lt hb
          have hb2 : b ≠ (s.heap.push (freshO w)).objs.size := by
            rw [Heap.size_push]; exact Nat.ne_of_lt (Nat.lt_succ_of_lt hb)
          exact hm.heap b o (by simp only [List.mem_cons, List.mem_singleton, List.not_mem_nil, or_false, not_or]; exact ⟨hb1, hb2⟩) (Heap.get?_push_of_some _ (Heap.get?_push_of_some _ e))
      · cases r₂ with
        | error e => exact hr₂
        | ok fl₂ =>
          cases fl₂ with
          | ret r =>
            obtain ⟨rfl, h', tk, rfl, hS', hk'⟩ := hr₂
            repeat (any_goals (first | assumption | wp_step))
            exact h _ _ hS' hk'
          | _ => exact hr₂.elim
    | _ => exact hr.elim
/-! ### sorted(found) -/
theorem texts_of : ∀ (l : List Value), (∀ v ∈ l, ∃ k tk, v = Value.str k tk) → ∃ ss, StrsAre l ss ∧ ss = l.map fun v => match v with | .str x _ => x | _ => Str.empty
  | [], _ => ⟨[], .nil, rfl⟩
  | v :: l, h => by
    obtain ⟨k, tk, rfl⟩ := h v List.mem_cons_self
    obtain ⟨ss, h1, h2⟩ := texts_of l fun u hu => h u (List.mem_cons_of_mem _ hu)
    exact ⟨k :: ss, .cons k tk h1, by rw [h2]; rfl⟩
theorem sorted_texts {a : Addr} {S : Str → Bool} {n : Nat} {Q : Value → Shared → Prop} (R : SetX P w s.heap a S n) (hh : A.handled = none) (h64 : n < 64)
    (hQ : ∀ s' p (out : Array Value) (c : Nat) (ss : List Str), (∀ b o, s.heap.get? b = some o → s'.heap.get? b = some o) → s'.gens = s.gens → s'.os = s.os → s.heap.objs.size ≤ p →
      s'.heap.get? p = some (seqObj "list" out c) → StrsAre out.toList ss → sortedS ss = true → ss.Nodup → (∀ k, k ∈ ss ↔ S k = true) → ss.length ≤ n → Q (.ref p) s') :
    wpAny (model P w) A (call (.builtin "sorted") [.ref a]) Q E s := by
  obtain ⟨o, es, ep, t, ho, hex, hd, ⟨g, nd, hm⟩, hz, hb, hf, hr, hl⟩ := R
  refine Calls.call_function_entry kind_sorted plain_sorted entry_sorted (args_sorted1 _) ?_
  unfold Builtin.«sorted»
  refine wpAny_bind (m := checkCount "sorted" 1 1 _) (wpAny_pure ?_)
  refine wpAny_bind (collect_set (A := A.in1) hh ⟨o, ho, hex.1, hd⟩ hf hb hr hl fun s1 vs k1 hz1 g1 o1 pm => ?_)
  have hvl : vs.length = es.size := by rw [pm.length_eq, List.length_map, Array.length_toList]
  obtain ⟨ss0, hI, e0⟩ := texts_of vs fun v hv => by
    obtain ⟨e, he, q⟩ := List.mem_map.mp (pm.mem_iff.mp hv)
    obtain ⟨k, tk, h1, _⟩ := g e he
    exact ⟨k, tk, by rw [← q]; exact h1⟩
  have pk : ss0.Perm (es.toList.map keyS) := by
    rw [e0]
    have q := pm.map (fun v : Value => match v with | .str x _ => x | _ => Str.empty)
    rw [List.map_map] at q
    exact q
  refine wpAny_bind (wpAny_newList ?_ (by rw [hvl, sizeLine_eq]; omega))
  have hoL : (s1.heap.push (seqObj "list" vs.toArray 0)).get? s1.heap.objs.size = some (seqObj "list" vs.toArray 0) := Heap.get?_push_size _ rfl
  refine wpAny_bind (wpAny_holding (wpAny_call_entry slot_list_sort ⟨_, hoL, rfl⟩ entry_list_sort
    (list_sort_treeK strKind_oneLt hoL hI.keysOf (fun v₁ v₂ rest e => keyKind_strs (by rw [← e]; exact hI)) (by rw [hvl]; omega) fun st' hp hs => ⟨_, rfl, ?_⟩) (args_list_sort _)))
  obtain ⟨ss', a1, a2, a3⟩ := sorted_out_str hI hp hs
  obtain ⟨c, hc⟩ := sortedHeap_at (vs := vs) (out := (arrOf st').map (·.2)) hoL
  have pn : ss'.Perm (es.toList.map keyS) := a2.trans pk
  refine wpAny_pure ⟨_, rfl, hQ _ s1.heap.objs.size _ c ss' (fun b u e => ?_) g1 o1 hz1 hc a1 a3 (pn.nodup_iff.mpr nd) (fun k => by rw [pn.mem_iff, ← hm k]) ?_⟩
  · have q := k1 b u e
    have hlt := Heap.lt_size q
    show (sortedHeap (s1.heap.push (seqObj "list" vs.toArray 0)) s1.heap.objs.size vs _).get? b = some u
    rw [sortedHeap_old (Nat.ne_of_lt hlt) (by rw [size_push']; exact Nat.lt_succ_of_lt hlt)]
    exact Heap.get?_push_of_some _ q
  · rw [pn.length_eq, List.length_map, Array.length_toList]; exact hz
end
end TS2

/-! texts in their order -/
namespace Mw
open PySem PySem.Spec PyProof.Rows L2
def leS (a b : Str) : Prop := ¬ b.cps.toList < a.cps.toList
instance (a b : Str) : Decidable (leS a b) := by unfold leS; exact inferInstance
theorem leS_trans {a b c : Str} (h : leS a b) (h' : leS b c) : leS a c := fun z => by
  unfold leS at h h'
  rw [List.not_lt] at h h'
  exact (List.not_lt.mpr (List.le_trans h h')) z
theorem leS_total (a b : Str) : leS a b ∨ leS b a := by
  unfold leS
  rw [List.not_lt, List.not_lt]
  exact List.le_total _ _
theorem leS_anti {a b : Str} (h : leS a b) (h' : leS b a) : a = b := by
  unfold leS at h h'
  rw [List.not_lt] at h h'
  have e := List.le_antisymm h h'
  cases a; cases b
  have := Array.ext' e
  simp at this
  rw [this]
def insS (x : Str) : List Str → List Str
  | [] => [x]
  | y :: r => if leS x y then x :: y :: r else y :: insS x r
def srtS : List Str → List Str
  | [] => []
  | x :: r => insS x (srtS r)
theorem ins_perm (x : Str) : ∀ l, (insS x l).Perm (x :: l)
  | [] => List.Perm.refl _
  | y :: r => by
    unfold insS
    split
    · exact List.Perm.refl _
    · exact ((ins_perm x r).cons y).trans (List.Perm.swap x y r)
theorem srt_perm : ∀ l, (srtS l).Perm l
  | [] => List.Perm.refl _
  | x :: r => (ins_perm x (srtS r)).trans ((srt_perm r).cons x)
theorem ins_pw (x : Str) : ∀ l : List Str, l.Pairwise leS → (insS x l).Pairwise leS
  | [], _ => List.pairwise_singleton _ _
  | y :: r, h => by
    obtain ⟨h1, h2⟩ := List.pairwise_cons.mp h
    unfold insS
    split
    · rename_i e
      refine List.pairwise_cons.mpr ⟨fun z hz => ?_, h⟩
      rcases List.mem_cons.mp hz with rfl | hz
      · exact e
      · exact leS_trans e (h1 z hz)
    · rename_i e
      refine List.pairwise_cons.mpr ⟨fun z hz => ?_, ins_pw x r h2⟩
      rcases List.mem_cons.mp ((ins_perm x r).mem_iff.mp hz) with rfl | hz
      · exact (leS_total z y).resolve_left e
      · exact h1 z hz
theorem srt_pw : ∀ l, (srtS l).Pairwise leS
  | [] => List.Pairwise.nil
  | x :: r => ins_pw x _ (srt_pw r)
theorem pw_uniq : ∀ {l l' : List Str}, l.Pairwise leS → l'.Pairwise leS → l.Perm l' → l = l'
  | [], l', _, _, p => (List.nil_perm.mp p).symm
  | x :: r, [], _, _, p => (List.perm_nil.mp p)
  | x :: r, y :: t, h, h', p => by
    obtain ⟨h1, h2⟩ := List.pairwise_cons.mp h
    obtain ⟨h3, h4⟩ := List.pairwise_cons.mp h'
    have e : x = y := by
      have hx : leS y x := by
        rcases List.mem_cons.mp (p.mem_iff.mp List.mem_cons_self) with e | e
        · rw [e]; exact (leS_total y y).elim id id
        · exact h3 x e
      have hy : leS x y := by
        rcases List.mem_cons.mp (p.mem_iff.mpr List.mem_cons_self) with e | e
        · rw [e]; exact (leS_total x x).elim id id
        · exact h1 y e
      exact leS_anti hy hx
    subst e
    rw [pw_uniq h2 h4 (List.perm_cons x |>.mp p)]
theorem rising_pw : ∀ (r : List Str) (p : Str), risingS p r = true → (p :: r).Pairwise leS
  | [], p, _ => List.pairwise_singleton _ _
  | x :: r, p, h => by
    unfold risingS at h
    rw [Bool.and_eq_true] at h
    have h2 := rising_pw r x h.2
    have hx : leS p x := by
      have := h.1
      rw [PyProof.Rows.ltCps_eq] at this
      simpa [leS] using this
    refine List.pairwise_cons.mpr ⟨fun z hz => ?_, h2⟩
    rcases List.mem_cons.mp hz with rfl | hz
    · exact hx
    · exact leS_trans hx ((List.pairwise_cons.mp h2).1 z hz)
theorem sorted_pw {l : List Str} (h : sortedS l = true) : l.Pairwise leS := by
  cases l with
  | nil => exact List.Pairwise.nil
  | cons x r => exact rising_pw r x h
theorem srt_of {l l' : List Str} (h : sortedS l = true) (p : l.Perm l') : l = srtS l' := pw_uniq (sorted_pw h) (srt_pw l') (p.trans (srt_perm l').symm)
/-- without what stood before -/
def onceS : List Str → List Str
  | [] => []
  | x :: r => if x ∈ r then onceS r else x :: onceS r
theorem once_mem : ∀ (l : List Str) (k : Str), k ∈ onceS l ↔ k ∈ l
  | [], k => Iff.rfl
  | x :: r, k => by
    unfold onceS
    split
    · rename_i e
      rw [once_mem r k, List.mem_cons]
      exact ⟨.inr, fun h => h.elim (fun z => z ▸ e) id⟩
    · rw [List.mem_cons, List.mem_cons, once_mem r k]
theorem once_nodup : ∀ l : List Str, (onceS l).Nodup
  | [] => List.nodup_nil
  | x :: r => by
    unfold onceS
    split
    · exact once_nodup r
    · rename_i e
      exact List.nodup_cons.mpr ⟨fun h => e ((once_mem r x).mp h), once_nodup r⟩
/-- sorted(set(l)) -/
def setS (l : List Str) : List Str := srtS (onceS l)
theorem set_of {l l' : List Str} (h : sortedS l = true) (nd : l.Nodup) (m : ∀ k, k ∈ l ↔ k ∈ l') : l = setS l' :=
  srt_of h ((List.perm_ext_iff_of_nodup nd (once_nodup l')).mpr fun k => (m k).trans (once_mem l' k).symm)
/-- the set of the texts ss, as an object -/
def SetXO (P : Program) (w : World) (a : Addr) (ss : List Str) : HO := .ext fun h => TS2.SetX P w h a (fun j => ss.any (· == j)) ss.length
theorem setXO_new {P : Program} {w : World} {H : Hp} {h : Heap} {a : Addr} {ss : List Str} (R : TS2.SetX P w h a (fun j => ss.any (· == j)) ss.length) : ObjOk P w H h a (SetXO P w a ss) := by
  have ⟨o, _, _, _, ho, _⟩ := R
  exact ⟨R, ⟨o, ho⟩, fun h1 h2 p k => TS2.SetX.keep p k⟩
section
variable {X : Cx} {K : PySem.W.Frag} {mg : Str → Option Value}
def rSetX (K : PySem.W.Frag) (P : Program) (w : World) : List V → Hp → VK → Prop := fun xs H Q => ∃ (l : Addr) (ss : List Str), xs = [V.ref l] ∧ SqL K H l (ss.map V.str) ∧ ss.length < 64 ∧ ∀ a, H a = none → Q (.ref a) (upd H a (SetXO P w a ss))
theorem cr_setX (hc : X.calm = true) : CallR X (.type "set") (rSetX X.K X.prog X.w) := by
  intro pins s σ H xs us Q I r h
  obtain ⟨l, ss, rfl, hl, h64, q⟩ := h
  rw [Vals.ref1 r]
  obtain ⟨its, rv, pl, hz⟩ := I.list hl
  refine TS2.set_texts (P := X.prog) (w := X.w) ss (I.ok.hd hc) pl.isList (by simpa using rv.strs) (Nat.lt_of_le_of_lt h64 (by decide)) fun h' tk R k => ?_
  exact ⟨.ref s.heap.objs.size, upd H s.heap.objs.size (SetXO X.prog X.w s.heap.objs.size ss), I.laid (t' := tk) k (Nat.le_refl _) (setXO_new R), rfl, q _ (I.hok.fresh (Nat.le_refl _))⟩
def rSortX (P : Program) (w : World) : List V → Hp → VK → Prop := fun vs H Q => ∃ (a : Addr) (ss : List Str), vs = [V.ref a] ∧ H a = some (SetXO P w a ss) ∧ ss.length < 64 ∧ ∀ p, H p = none → Q (.ref p) (upd H p (.lst ((setS ss).map V.str)))
theorem cr_sortX (hc : X.calm = true) : CallR X (.builtin "sorted") (rSortX X.prog X.w) := by
  intro pins s σ H vs us Q I r h
  obtain ⟨a, ss, rfl, ha, h64, q⟩ := h
  have R : TS2.SetX X.prog X.w s.heap a (fun j => ss.any (· == j)) ss.length := (I.hok a _ ha).1
  rw [Vals.ref1 r]
  refine TS2.sorted_texts R (I.ok.hd hc) h64 fun s' p out c ys k g o hp hg hi hs nd hm hl => ?_
  have e1 : ys = setS ss := set_of hs nd fun k => by rw [hm k, List.any_eq_true]; exact ⟨fun ⟨x, hx, e⟩ => (eq_of_beq e) ▸ hx, fun h => ⟨k, h, by simp⟩⟩
  subst e1
  have hlen : ((setS ss).map V.str).length ≤ sizeLine := by rw [List.length_map, sizeLine_eq]; omega
  have hn : H p = none := I.hok.fresh hp
  have J : Inv X pins σ (upd H p (.lst ((setS ss).map V.str))) { s with heap := s'.heap, gens := s'.gens, drawn := s'.drawn, toks := s'.toks } :=
    I.call (ch := []) (Un.laid k hp hn) (I.hok.laid k hp ⟨hlen, out.toList, c, vals_of_strs hi, hg⟩) (by rw [g]; exact I.bare) (fun _ z => nomatch z)
  have e : s' = { s with heap := s'.heap, gens := s'.gens, drawn := s'.drawn, toks := s'.toks } := by
    cases s'; cases s; cases o; rfl
  rw [e]
  exact ⟨.ref p, _, J, rfl, q p hn⟩
def gSortedSet : PV → Option PV
  | .lst xs => (strsP xs).bind fun ss => if ss.length < 64 then some (.lst ((setS ss).map .str)) else none
  | _ => none
theorem VRs.texts {W : Wd} {H : Hp} : ∀ ss : List Str, VRs K mg W H (ss.map PV.str) (ss.map V.str)
  | [] => VRs.nil
  | x :: r => VRs.cons VR.str (VRs.texts r)
theorem sN_sortedSet {a : Expr} {m : EM PV} {p p2 pos pos2 : Pos} (hg : Gl X "sorted") (hm : X.mg "sorted" = none) (hg2 : Gl X "set") (hm2 : X.mg "set" = none) (ha : SimP X a m) (hc : X.calm = true := by rfl)
    (na : starEach [a] X.env = (false, eval a X.env) :: starEach [] X.env := by rfl) (nb : starEach [.Call (.Name "set" p2) [a] [] pos2] X.env = (false, eval (.Call (.Name "set" p2) [a] [] pos2) X.env) :: starEach [] X.env := by rfl) :
    SimN X (.Call (.Name "sorted" p) [.Call (.Name "set" p2) [a] [] pos2] [] pos) (mUn gSortedSet m) :=
  weakE (pe_callB (cr_sortX hc) hg hm boot_sorted (pa_cons (pe_callTy (cr_setX hc) hg2 hm2 boot_set (sAP_cons ha sAP_nil na) (by decide) (by decide) na rfl) pa_nil nb) (by decide) (by decide) nb rfl) fun σ H Q ⟨ep, et, W, R, c, s, e, q⟩ => by
  refine ⟨ep, et, W, fun ps et1 => match ps with
    | [p] => ∃ z, gSortedSet (deref et1 p) = some z ∧ R z et1
    | _ => False, c, s, e, fun ps et1 r vs H1 W1 x1 c1 pk => ?_⟩
  match ps, r with
  | [p], r =>
    obtain ⟨z, hz, r⟩ := r
    obtain ⟨v, rfl, h⟩ := pk.one
    unfold gSortedSet at hz
    split at hz
    · rename_i xs e'
      cases es : strsP xs with
      | none => rw [es] at hz; cases hz
      | some ss =>
        rw [es, Option.bind_some] at hz
        split at hz
        · rename_i h64
          cases hz
          obtain ⟨a, vs, rfl, h1, h2⟩ := h.lst c1 e'
          have := h2.strsP es
          subst this
          refine ⟨a, ss, rfl, SqL.of h1, h64, fun b hb => ⟨b, ss, rfl, upd_same, h64, fun t ht => ?_⟩⟩
          have x2 : Ext NoO H1 et1 W1 (upd H1 b (SetXO X.prog X.w b ss)) et1 W1 := Ext.new hb W1 rfl (fun _ h => h) fun _ h => .inl h
          have c2 : Cel X.K X.mg (upd H1 b (SetXO X.prog X.w b ss)) et1 W1 := c1.new hb W1 rfl (fun _ h => h) fun _ h => .inl h
          obtain ⟨x3, c3, r3⟩ := new_own c2 ht (VRs.texts (K := X.K) (mg := X.mg) (W := W1) (H := upd H1 b (SetXO X.prog X.w b ss)) (setS ss))
          exact q _ et1 r _ _ W1 ((x1.NoO_trans x2).NoO_trans x3) c3 (early_N _ _ _ _ _ _ _ _ _ _ _ (x1.NoO_trans x2) r3)
        · cases hz
    · cases hz
/-! sorted(xs), texts -/
def gSorted : List PV → Option PV
  | [.lst xs] => (strsP xs).bind fun ss => if ss.length < 64 then some (.lst ((srtS ss).map .str)) else none
  | _ => none
theorem cr_sortedA : CallR X (.builtin "sorted") (rSortedS X.K) := cr_sortedS
theorem oA_sorted : OpA K mg (rSortedS K) gSorted (pN K mg) := by
  intro xs H et W ps z Q c hp hz k
  unfold gSorted at hz
  split at hz
  · rename_i ys e
    obtain ⟨p, rfl, e'⟩ := map1 e
    obtain ⟨v, rfl, h⟩ := hp.one
    cases es : strsP ys with
    | none => rw [es] at hz; cases hz
    | some ss =>
      rw [es, Option.bind_some] at hz
      split at hz
      · rename_i h64
        cases hz
        obtain ⟨a, vs, rfl, h1, h2⟩ := h.lst c e'
        have := h2.strsP es
        subst this
        refine ⟨a, ss, rfl, SqL.of h1, h64, fun zs t pm hs ht => ?_⟩
        have := srt_of hs pm
        subst this
        obtain ⟨x1, c1, r1⟩ := new_own c ht (VRs.texts (K := K) (mg := mg) (W := W) (H := H) (srtS ss))
        exact k _ _ _ x1 c1 r1
      · cases hz
  · cases hz
end
end Mw

namespace Mw
open PySem PySem.Spec L2
/-- d[k] = v, d the def's own dict -/
def mDPutN (i : Nat) (me mk : EM PV) : SM := fun ep et R => ∃ ks, ep[i]? = some (.own (.dic ks)) ∧ me ep et fun v et1 => mk ep et1 fun k et2 => ∃ key, keyP (deref et2 k) = some key ∧ ks.length < sizeLine ∧ R .nx (ep.set i (.own (.dic (putP ks key v)))) et2
theorem deref_key {et : Hi} {k : PV} {key : Key} (h : keyP (deref et k) = some key) : deref et k = k := by
  cases k <;> first | rfl | (exfalso; unfold deref at h; dsimp only at h; split at h <;> cases h)
section
variable {X : Cx}
theorem s_dputN {i : Nat} {x : Str} {px p2 pos : Pos} {ik e : Expr} {me mk : EM PV} (hu : X.A.units + 1 < cLine) (ho : PE X (.Name x px) (tVar i)) (hk : SimP X ik mk) (he : SimE X e me) (hs : swapsWith e (some (.Subscript (.Name x px) ik p2)) pos.line X.env = pure false) :
    SimS X (.Assign [.Subscript (.Name x px) ik p2] e pos) (mDPutN i me mk) :=
  weakS (ps_dput hu ho hk he hs) fun D σ H ⟨ep, et, W, R, c, s, e, q⟩ => by
  obtain ⟨ks, hi, e⟩ := e
  have hlt := (List.getElem?_eq_some_iff.mp hi).1
  have hσ0 : σ[i]? = some (σ[i]'(by rw [← s.len]; exact hlt)) := List.getElem?_eq_getElem _
  obtain ⟨a, e1, e2⟩ := s.ok i _ _ hi hσ0
  have hσ : σ[i]? = some (some (V.ref a)) := by rw [hσ0, e1]
  refine ⟨ep, et, W, _, c, s, e, fun p et1 r1 v H1 W1 x1 c1 p1 => ⟨V.ref a, hσ, ep, et1, W1, _, c1, s.ext c x1, r1, fun k et2 r2 u H2 W2 x2 c2 p2 => ?_⟩⟩
  obtain ⟨key, hk, hz, r⟩ := r2
  have x12 := x1.NoO_trans x2
  have s2 := s.ext c x12
  obtain ⟨a', ea, o2⟩ := s2.ok i _ _ hi hσ
  cases ea
  obtain ⟨kvs, h1, h2⟩ := o2
  have ek : u = kV key := by
    have p2' : Pk X.K X.mg k u H2 et2 W2 := p2
    have hpl : deref et2 k = k := deref_key hk
    rw [hpl] at hk
    rcases p2' with h | ⟨b, rfl, _, h⟩
    · exact h.key hk
    · cases k <;> first | (cases hk; done) | cases h
  obtain ⟨x3, c3, s3, o3, _⟩ := own_write c2 s2 (i := i) (p := .dic ks) (p' := .dic (putP ks key p)) (a := a) (o := .dK (putK kvs key v)) hi hσ (VRk.put (VR.ext x2 c1.stays0 _ _ p1) h2)
  refine ⟨a, _, rfl, ek ▸ DPut.k h1 (by rw [← h2.len]; exact hz), ?_⟩
  have x13 : Ext (Own ep σ) H et W (upd H2 a (.dK (putK kvs key v))) et2 W2 := (x12.mono (fun _ h => h.elim)).trans x3 fun _ h => .inl h
  exact q .nx _ et2 r σ _ W2 x13 c3 s3 fun b h => .inl (o3 b h)
end
end Mw

namespace Lw
open PySem L2 Mw
def r__law_pot_1 : SM := (mSet 1 (mBin gMod (mBin gAdd (mBin gAdd (mBin gMul (mPeek 1) (mC (.int 1000003))) (mBin gMod (mPeek 2) (mBin gPow (mC (.int 10)) (mC (.int 30))))) (mC (.int 13))) (mC (.int 2305843009213693951))))
def r__law_pot_2 : SM := (mRet (mShare (mLst (mCons (mShare (mLc (mIter (mSl gSlA (mPeek 0) mO0 (mO1 (mC (.int 63))))) [2] (tgN 2) (mBinT gGe (mPeek 2) (mBin gPow (mC (.int 10)) (mC (.int 18)))) (mVar 2))) (mCons (mVar 1) (mCons (mC (.int 0)) mNil))))))
def r__law_pot_0 : SM := (mSeq (mFor (mIter (mSl gSlA (mPeek 0) mO0 (mO1 (mC (.int 63))))) (tgN 2) (r__law_pot_1)) (r__law_pot_2))
def r__law_pot : SM := (mSeq (mSet 1 (mBin gAdd (mArg gLen (mCons (mPeek 0) mNil)) (mC (.int 7)))) (r__law_pot_0))
abbrev N__law_pot : List Str := ["_law_script", "_law_seed", "_law_cell"]
def r__law_take_0 : SM := (mExpr (mMutR gmPopAt (mBin gIx (mPeek 0) (mC (.int 0))) (mCons (mC (.int 0)) mNil)))
def r__law_take_4 : SM := (mRet (mVar 2))
def r__law_take_3 : SM := (mSeq (mSubSet (mBin gDiv (mBin gIx (mBin gIx (mPeek 0) (mC (.int 0))) (mC (.int 0))) (mPeek 1)) (mBin gIx (mPeek 0) (mC (.int 0))) (mC (.int 0))) (r__law_take_4))
def r__law_take_2 : SM := (mSeq (mSet 2 (mBin gMod (mBin gIx (mBin gIx (mPeek 0) (mC (.int 0))) (mC (.int 0))) (mPeek 1))) (r__law_take_3))
def r__law_take_8 : SM := (mRet (mBin gMod (mBin gAdd (mBin gDiv (mPeek 3) (mC (.int 97))) (mBin gDiv (mPeek 3) (mC (.int 1000033)))) (mPeek 1)))
def r__law_take_7 : SM := (mSeq (mSet 3 (mBin gMod (mBin gMul (mPeek 3) (mBin gAdd (mBin gMod (mPeek 3) (mC (.int 1000003))) (mBin gMul (mC (.int 99991)) (mBin gIx (mPeek 0) (mC (.int 2)))))) (mC (.int 2305843009213693907)))) (r__law_take_8))
def r__law_take_6 : SM := (mSeq (mSet 3 (mBin gMod (mBin gMul (mBin gAdd (mBin gAdd (mBin gIx (mPeek 0) (mC (.int 1))) (mBin gMul (mBin gMul (mC (.int 65537)) (mBin gIx (mPeek 0) (mC (.int 2)))) (mBin gIx (mPeek 0) (mC (.int 2))))) (mC (.int 11))) (mC (.int 48271))) (mC (.int 2305843009213693921)))) (r__law_take_7))
def r__law_take_5 : SM := (mSeq (mSubSet (mBin gAdd (mBin gIx (mPeek 0) (mC (.int 2))) (mC (.int 1))) (mVar 0) (mC (.int 2))) (r__law_take_6))
def r__law_take_1 : SM := (mSeq (mIf (mBinT gNe (mBin gIx (mPeek 0) (mC (.int 0))) (mLst mNil)) (r__law_take_2) mNext) (r__law_take_5))
def r__law_take : SM := (mSeq (mWhile (mAndT (mBinT gNe (mBin gIx (mPeek 0) (mC (.int 0))) (mLst mNil)) (mBinT gEq (mBin gIx (mBin gIx (mPeek 0) (mC (.int 0))) (mC (.int 0))) (mC (.int 0)))) (r__law_take_0)) (r__law_take_1))
abbrev N__law_take : List Str := ["_law_pot_here", "_law_many", "_law_digit", "_law_mixed"]
def r__law_of (S__law_take : FSpec) : SM := (mRet (mBin gIx (mPeek 1) (mCall 2 S__law_take (mCons (mVar 0) (mCons (mArg gLen (mCons (mPeek 1) mNil)) mNil)))))
abbrev N__law_of : List Str := ["_law_pot_here", "_law_some"]
def r__law_words_5 : SM := (mExprX (mMut 6 gmAppend (mCons (mBin gAdd (mPeek 8) (mBin gIx (mPeek 5) (mBin gMod (mBin gAdd (mPeek 3) (mBin gMul (mPeek 7) (mPeek 7))) (mC (.int 5))))) mNil)))
def r__law_words_4 : SM := (mSeq (mSet 8 (mBin gIx (mPeek 2) (mBin gMod (mBin gAdd (mPeek 3) (mBin gMul (mPeek 4) (mPeek 7))) (mC (.int 26))))) (r__law_words_5))
def r__law_words_6 : SM := (mFrz [6] (mRet (mVar 6)))
def r__law_words_3 : SM := (mSeq (mFor (mRng1 (mCons (mVar 1) mNil)) (tgN 7) (r__law_words_4)) (r__law_words_6))
def r__law_words_2 : SM := (mSeq (mSetN 6 (mLst mNil)) (r__law_words_3))
def r__law_words_1 : SM := (mSeq (mSet 5 (mLst (mCons (mC (.str "")) (mCons (mC (.str "zq")) (mCons (mC (.str "x")) (mCons (mC (.str "qqzzx")) (mCons (mC (.str "zqzqzqz")) mNil))))))) (r__law_words_2))
def r__law_words_0 (S__law_of : FSpec) (S__law_take : FSpec) : SM := (mSeq (mPar 3 4 (mCons (mCall 2 S__law_take (mCons (mVar 0) (mCons (mC (.int 26)) mNil))) (mCons (mCall 2 S__law_of (mCons (mVar 0) (mCons (mLst (mCons (mC (.int 1)) (mCons (mC (.int 3)) (mCons (mC (.int 5)) (mCons (mC (.int 7)) (mCons (mC (.int 9)) (mCons (mC (.int 11)) mNil))))))) mNil))) mNil))) (r__law_words_1))
def r__law_words (S__law_of : FSpec) (S__law_take : FSpec) : SM := (mSeq (mSet 2 (mC (.str "abcdefghijklmnopqrstuvwxyz"))) (r__law_words_0 S__law_of S__law_take))
abbrev N__law_words : List Str := ["_law_pot_here", "_law_many", "_law_letters", "_law_first", "_law_turn", "_law_ends", "_law_found", "_law_k", "_law_sign"]
def r__law_bare_1 (S__law_of : FSpec) : SM := (mRet (mCall 2 S__law_of (mCons (mVar 0) (mCons (mVar 1) mNil))))
def r__law_bare_3 (S__law_of : FSpec) : SM := (mRet (mTup (mCons (mC (.str "waits")) (mCons (mCall 2 S__law_of (mCons (mVar 0) (mCons (mVar 2) mNil))) mNil))))
def r__law_bare_4 (S__law_take : FSpec) : SM := (mRet (mCall 2 S__law_take (mCons (mVar 0) (mCons (mBin gIx (mLst (mCons (mC (.int 3)) (mCons (mC (.int 10)) mNil))) (mCall 2 S__law_take (mCons (mVar 0) (mCons (mC (.int 2)) mNil)))) mNil))))
def r__law_bare_2 (S__law_take : FSpec) (S__law_of : FSpec) : SM := (mSeq (mIf (mAndT (mBinT gEq (mPeek 3) (mC (.int 2))) (mBinT gNe (mPeek 2) (mLst mNil))) (r__law_bare_3 S__law_of) mNext) (r__law_bare_4 S__law_take))
def r__law_bare_0 (S__law_take : FSpec) (S__law_of : FSpec) : SM := (mSeq (mIf (mAndT (mBinT gLt (mPeek 3) (mC (.int 2))) (mBinT gNe (mPeek 1) (mLst mNil))) (r__law_bare_1 S__law_of) mNext) (r__law_bare_2 S__law_take S__law_of))
def r__law_bare (S__law_take : FSpec) (S__law_of : FSpec) : SM := (mSeq (mSet 3 (mCall 2 S__law_take (mCons (mVar 0) (mCons (mC (.int 6)) mNil)))) (r__law_bare_0 S__law_take S__law_of))
abbrev N__law_bare : List Str := ["_law_pot_here", "_law_words_here", "_law_bells", "_law_way"]
def r__law_sum_1 (S__law_bare : FSpec) : SM := (mRet (mCall 3 S__law_bare (mCons (mVar 0) (mCons (mVar 1) (mCons (mVar 2) mNil)))))
def r__law_sum_3 (S__law_sum : FSpec) : SM := (mRet (mTup (mCons (mC (.str "not")) (mCons (mCall 4 S__law_sum (mCons (mVar 0) (mCons (mVar 1) (mCons (mVar 2) (mCons (mBin gSubI (mPeek 3) (mC (.int 1))) mNil))))) mNil))))
def r__law_sum_5 (S__law_sum : FSpec) : SM := (mRet (mTup (mCons (mVar 5) (mCons (mCall 4 S__law_sum (mCons (mVar 0) (mCons (mVar 1) (mCons (mVar 2) (mCons (mBin gSubI (mPeek 3) (mC (.int 1))) mNil))))) (mCons (mCall 4 S__law_sum (mCons (mVar 0) (mCons (mVar 1) (mCons (mVar 2) (mCons (mBin gSubI (mPeek 3) (mC (.int 1))) mNil))))) mNil)))))
def r__law_sum_4 (S__law_sum : FSpec) (S__law_of : FSpec) : SM := (mSeq (mSet 5 (mCall 2 S__law_of (mCons (mVar 0) (mCons (mLst (mCons (mC (.str "plus")) (mCons (mC (.str "minus")) (mCons (mC (.str "less")) (mCons (mC (.str "same")) (mCons (mC (.str "both")) mNil)))))) mNil)))) (r__law_sum_5 S__law_sum))
def r__law_sum_2 (S__law_sum : FSpec) (S__law_of : FSpec) : SM := (mSeq (mIf (mBinT gEq (mPeek 4) (mC (.int 2))) (r__law_sum_3 S__law_sum) mNext) (r__law_sum_4 S__law_sum S__law_of))
def r__law_sum_0 (S__law_bare : FSpec) (S__law_sum : FSpec) (S__law_of : FSpec) : SM := (mSeq (mIf (mOrT (mBinT gLt (mPeek 3) (mC (.int 2))) (mBinT gLt (mPeek 4) (mC (.int 2)))) (r__law_sum_1 S__law_bare) mNext) (r__law_sum_2 S__law_sum S__law_of))
def r__law_sum (S__law_take : FSpec) (S__law_bare : FSpec) (S__law_sum : FSpec) (S__law_of : FSpec) : SM := (mSeq (mSet 4 (mCall 2 S__law_take (mCons (mVar 0) (mCons (mC (.int 8)) mNil)))) (r__law_sum_0 S__law_bare S__law_sum S__law_of))
abbrev N__law_sum : List Str := ["_law_pot_here", "_law_words_here", "_law_bells", "_law_deep", "_law_way", "_law_word"]
theorem take_ok (args : List PV) (et : Hi) (R : PV → Hi → Prop) (h : spTakeC args et R) : r__law_take (env0 N__law_take args) et (retK R) := by
  obtain ⟨r, k, m, sd, ct, is, rfl, hrk, hr, hk, hi, s0, s1, c0, c1, m0, m1, hR⟩ := h
  show r__law_take [.val (.ref r), .val (.int m), .no, .no] et (retK R)
  have hkl := (List.getElem?_eq_some_iff.mp hk).1
  unfold r__law_take
  simp only [mSeq, mWhile]
  refine ⟨fun n ep et1 => ep = [.val (.ref r), .val (.int m), .no, .no] ∧ ∃ is1 : List Int, n = is1.length ∧ (∀ i ∈ is1, 0 ≤ i) ∧ et1 = et.set k (.lst (is1.map .int)), ⟨is.length, rfl, is, rfl, hi, ?_⟩, ?_⟩
  · apply List.ext_getElem?
    intro j
    by_cases e : j = k
    · subst e; rw [List.getElem?_set_self hkl, hk]
    · rw [List.getElem?_set_ne (Ne.symm e)]
  rintro n ep et1 ⟨rfl, is1, rfl, hi1, he1⟩
  have hr1 : et1[r]? = some (.lst [.ref k, .int sd, .int ct]) := by rw [he1, List.getElem?_set_ne (Ne.symm hrk)]; exact hr
  have hk1 : et1[k]? = some (.lst (is1.map .int)) := by rw [he1, List.getElem?_set_self hkl]
  have dr := deref_ref hr1
  have dk := deref_ref hk1
  have e1 := gNe_nil (doks_ints is1).1 (by rw [(doks_ints is1).2]; omega)
  -- behind the loop
  have fin : r__law_take_1 [.val (.ref r), .val (.int m), .no, .no] et1 (retK R) := by
    unfold r__law_take_1
    simp only [mSeq, mSet, mSetN, mSetX, mExpr, mExprX, mRet, mRetN, mRetX, mIf, mNext, mPass, mBrk, mCnt, mFrz, mAsg, mAsgX, mPar, mParN, mBin, mUn, mArg, mC, mVar, mPeek, mCall, mCons, mNil, mTup, mLst, mBinT, mAsT, mNotT, mAndT, mOrT, mAndE, mOrE, mNotE, mIfE, mChain, mChainT, mSl, mO0, mO1, mIter, mRng1, mRng2, mZip, mEnum, mMut, mMutR, mSubSet, mShare, mMeth, mFor, mLc, mYes, slotV, frzS, tgN, tgT, tgNs, wipeE, retK, mAug, List.foldl_cons, List.foldl_nil, deref_int, deref_str, deref_bl, deref_non, deref_tup, deref_lst, deref_scr, deref_dic, deref_ty, isLst, cellP, List.getElem?_cons_zero, List.getElem?_cons_succ, List.getElem?_nil, List.set_cons_zero, List.set_cons_succ, List.map_cons, List.map_nil, List.length_cons, List.length_nil, List.cons_append, List.nil_append, Option.some.injEq, Slot.val.injEq, Slot.own.injEq, PV.int.injEq, PV.bl.injEq, PV.str.injEq, PV.ref.injEq, PV.lst.injEq, PV.tup.injEq, exists_eq_left', exists_eq_left, and_true, true_and, true_or, or_true, and_self, reduceCtorEq, gAdd, gSubI, gMul, gDiv, gMod, gPow, gLt, gLe, gGt, gGe, gIx, gNeg, eqB_int, gEq_int, gNe_int, gEq_str, gNe_str, if_true, if_false, Bool.false_eq_true, Nat.reduceAdd, Nat.zero_add, Bool.not_true, Bool.not_false, atI_c0, atI_c1, atI_c2, dr, dk, e1]
    refine ⟨Nat.zero_le _, ?_⟩
    cases is1 with
    | nil =>
      simp only [List.map_nil, List.isEmpty_nil, Bool.not_true, Bool.false_eq_true, if_false]
      unfold r__law_take_5
      simp only [mSeq, mSet, mSetN, mSetX, mExpr, mExprX, mRet, mRetN, mRetX, mIf, mNext, mPass, mBrk, mCnt, mFrz, mAsg, mAsgX, mPar, mParN, mBin, mUn, mArg, mC, mVar, mPeek, mCall, mCons, mNil, mTup, mLst, mBinT, mAsT, mNotT, mAndT, mOrT, mAndE, mOrE, mNotE, mIfE, mChain, mChainT, mSl, mO0, mO1, mIter, mRng1, mRng2, mZip, mEnum, mMut, mMutR, mSubSet, mShare, mMeth, mFor, mLc, mYes, slotV, frzS, tgN, tgT, tgNs, wipeE, retK, mAug, List.foldl_cons, List.foldl_nil, deref_int, deref_str, deref_bl, deref_non, deref_tup, deref_lst, deref_scr, deref_dic, deref_ty, isLst, cellP, List.getElem?_cons_zero, List.getElem?_cons_succ, List.getElem?_nil, List.set_cons_zero, List.set_cons_succ, List.map_cons, List.map_nil, List.length_cons, List.length_nil, List.cons_append, List.nil_append, Option.some.injEq, Slot.val.injEq, Slot.own.injEq, PV.int.injEq, PV.bl.injEq, PV.str.injEq, PV.ref.injEq, PV.lst.injEq, PV.tup.injEq, exists_eq_left', exists_eq_left, and_true, true_and, true_or, or_true, and_self, reduceCtorEq, gAdd, gSubI, gMul, gDiv, gMod, gPow, gLt, gLe, gGt, gGe, gIx, gNeg, eqB_int, gEq_int, gNe_int, gEq_str, gNe_str, if_true, if_false, Bool.false_eq_true, Nat.reduceAdd, Nat.zero_add, Bool.not_true, Bool.not_false, atI_c0, atI_c1, atI_c2, dr, dk, hr1]
      refine ⟨r, [.ref k, .int sd, .int ct], 2, 2, rfl, hr1, rfl, rfl, ?_⟩
      simp only [List.set_cons_succ, List.set_cons_zero]
      have hr2 : (et1.set r (.lst [PV.ref k, .int sd, .int (ct + 1)]))[r]? = some (.lst [.ref k, .int sd, .int (ct + 1)]) := by
        rw [List.getElem?_set_self (List.getElem?_eq_some_iff.mp hr1).1]
      have dr2 := deref_ref hr2
      unfold r__law_take_6
      have m2 : -18446744073709551616 < 65537 * (ct + 1) ∧ 65537 * (ct + 1) < 18446744073709551616 := ⟨by omega, by omega⟩
      simp only [mSeq, mSet, mSetN, mSetX, mExpr, mExprX, mRet, mRetN, mRetX, mIf, mNext, mPass, mBrk, mCnt, mFrz, mAsg, mAsgX, mPar, mParN, mBin, mUn, mArg, mC, mVar, mPeek, mCall, mCons, mNil, mTup, mLst, mBinT, mAsT, mNotT, mAndT, mOrT, mAndE, mOrE, mNotE, mIfE, mChain, mChainT, mSl, mO0, mO1, mIter, mRng1, mRng2, mZip, mEnum, mMut, mMutR, mSubSet, mShare, mMeth, mFor, mLc, mYes, slotV, frzS, tgN, tgT, tgNs, wipeE, retK, mAug, List.foldl_cons, List.foldl_nil, deref_int, deref_str, deref_bl, deref_non, deref_tup, deref_lst, deref_scr, deref_dic, deref_ty, isLst, cellP, List.getElem?_cons_zero, List.getElem?_cons_succ, List.getElem?_nil, List.set_cons_zero, List.set_cons_succ, List.map_cons, List.map_nil, List.length_cons, List.length_nil, List.cons_append, List.nil_append, Option.some.injEq, Slot.val.injEq, Slot.own.injEq, PV.int.injEq, PV.bl.injEq, PV.str.injEq, PV.ref.injEq, PV.lst.injEq, PV.tup.injEq, exists_eq_left', exists_eq_left, and_true, true_and, true_or, or_true, and_self, reduceCtorEq, gAdd, gSubI, gMul, gDiv, gMod, gPow, gLt, gLe, gGt, gGe, gIx, gNeg, eqB_int, gEq_int, gNe_int, gEq_str, gNe_str, if_true, if_false, Bool.false_eq_true, Nat.reduceAdd, Nat.zero_add, Bool.not_true, Bool.not_false, atI_c0, atI_c1, atI_c2, dr2, m2, Int.reduceNeg, Int.reducePow, Int.reduceLT]
      generalize hx : (sd + 65537 * (ct + 1) * (ct + 1) + 11) * 48271 % 2305843009213693921 = x
      have hx0 : 0 ≤ x := by rw [← hx]; exact Int.emod_nonneg _ (by decide)
      have hx1 : x < 2305843009213693921 := by rw [← hx]; exact Int.emod_lt_of_pos _ (by decide)
      have m3 : -18446744073709551616 < x ∧ x < 18446744073709551616 := ⟨by omega, by omega⟩
      unfold r__law_take_7
      simp only [mSeq, mSet, mSetN, mSetX, mExpr, mExprX, mRet, mRetN, mRetX, mIf, mNext, mPass, mBrk, mCnt, mFrz, mAsg, mAsgX, mPar, mParN, mBin, mUn, mArg, mC, mVar, mPeek, mCall, mCons, mNil, mTup, mLst, mBinT, mAsT, mNotT, mAndT, mOrT, mAndE, mOrE, mNotE, mIfE, mChain, mChainT, mSl, mO0, mO1, mIter, mRng1, mRng2, mZip, mEnum, mMut, mMutR, mSubSet, mShare, mMeth, mFor, mLc, mYes, slotV, frzS, tgN, tgT, tgNs, wipeE, retK, mAug, List.foldl_cons, List.foldl_nil, deref_int, deref_str, deref_bl, deref_non, deref_tup, deref_lst, deref_scr, deref_dic, deref_ty, isLst, cellP, List.getElem?_cons_zero, List.getElem?_cons_succ, List.getElem?_nil, List.set_cons_zero, List.set_cons_succ, List.map_cons, List.map_nil, List.length_cons, List.length_nil, List.cons_append, List.nil_append, Option.some.injEq, Slot.val.injEq, Slot.own.injEq, PV.int.injEq, PV.bl.injEq, PV.str.injEq, PV.ref.injEq, PV.lst.injEq, PV.tup.injEq, exists_eq_left', exists_eq_left, and_true, true_and, true_or, or_true, and_self, reduceCtorEq, gAdd, gSubI, gMul, gDiv, gMod, gPow, gLt, gLe, gGt, gGe, gIx, gNeg, eqB_int, gEq_int, gNe_int, gEq_str, gNe_str, if_true, if_false, Bool.false_eq_true, Nat.reduceAdd, Nat.zero_add, Bool.not_true, Bool.not_false, atI_c0, atI_c1, atI_c2, dr2, m3, Int.reduceNeg, Int.reducePow, Int.reduceLT]
      unfold r__law_take_8
      simp only [mSeq, mSet, mSetN, mSetX, mExpr, mExprX, mRet, mRetN, mRetX, mIf, mNext, mPass, mBrk, mCnt, mFrz, mAsg, mAsgX, mPar, mParN, mBin, mUn, mArg, mC, mVar, mPeek, mCall, mCons, mNil, mTup, mLst, mBinT, mAsT, mNotT, mAndT, mOrT, mAndE, mOrE, mNotE, mIfE, mChain, mChainT, mSl, mO0, mO1, mIter, mRng1, mRng2, mZip, mEnum, mMut, mMutR, mSubSet, mShare, mMeth, mFor, mLc, mYes, slotV, frzS, tgN, tgT, tgNs, wipeE, retK, mAug, List.foldl_cons, List.foldl_nil, deref_int, deref_str, deref_bl, deref_non, deref_tup, deref_lst, deref_scr, deref_dic, deref_ty, isLst, cellP, List.getElem?_cons_zero, List.getElem?_cons_succ, List.getElem?_nil, List.set_cons_zero, List.set_cons_succ, List.map_cons, List.map_nil, List.length_cons, List.length_nil, List.cons_append, List.nil_append, Option.some.injEq, Slot.val.injEq, Slot.own.injEq, PV.int.injEq, PV.bl.injEq, PV.str.injEq, PV.ref.injEq, PV.lst.injEq, PV.tup.injEq, exists_eq_left', exists_eq_left, and_true, true_and, true_or, or_true, and_self, reduceCtorEq, gAdd, gSubI, gMul, gDiv, gMod, gPow, gLt, gLe, gGt, gGe, gIx, gNeg, eqB_int, gEq_int, gNe_int, gEq_str, gNe_str, if_true, if_false, Bool.false_eq_true, Nat.reduceAdd, Nat.zero_add, Bool.not_true, Bool.not_false, atI_c0, atI_c1, atI_c2, m0, Int.reduceLT]
      have hz := hR ((x * (x % 1000003 + 99991 * (ct + 1)) % 2305843009213693907 / 97 + x * (x % 1000003 + 99991 * (ct + 1)) % 2305843009213693907 / 1000033) % m) (ct + 1) [] (Int.emod_nonneg _ (by omega)) (Int.emod_lt_of_pos _ m0) (by omega) (Int.le_refl _) (fun j hj => by cases hj)
      have he : et1.set r (.lst [.ref k, .int sd, .int (ct + 1)]) = (et.set k (.lst (([] : List Int).map .int))).set r (.lst [.ref k, .int sd, .int (ct + 1)]) := by rw [he1]
      rw [he]
      exact hz
    | cons i is2 =>
      simp only [List.map_cons, List.isEmpty_cons, Bool.not_false, if_true]
      unfold r__law_take_2
      simp only [mSeq, mSet, mSetN, mSetX, mExpr, mExprX, mRet, mRetN, mRetX, mIf, mNext, mPass, mBrk, mCnt, mFrz, mAsg, mAsgX, mPar, mParN, mBin, mUn, mArg, mC, mVar, mPeek, mCall, mCons, mNil, mTup, mLst, mBinT, mAsT, mNotT, mAndT, mOrT, mAndE, mOrE, mNotE, mIfE, mChain, mChainT, mSl, mO0, mO1, mIter, mRng1, mRng2, mZip, mEnum, mMut, mMutR, mSubSet, mShare, mMeth, mFor, mLc, mYes, slotV, frzS, tgN, tgT, tgNs, wipeE, retK, mAug, List.foldl_cons, List.foldl_nil, deref_int, deref_str, deref_bl, deref_non, deref_tup, deref_lst, deref_scr, deref_dic, deref_ty, isLst, cellP, List.getElem?_cons_zero, List.getElem?_cons_succ, List.getElem?_nil, List.set_cons_zero, List.set_cons_succ, List.map_cons, List.map_nil, List.length_cons, List.length_nil, List.cons_append, List.nil_append, Option.some.injEq, Slot.val.injEq, Slot.own.injEq, PV.int.injEq, PV.bl.injEq, PV.str.injEq, PV.ref.injEq, PV.lst.injEq, PV.tup.injEq, exists_eq_left', exists_eq_left, and_true, true_and, true_or, or_true, and_self, reduceCtorEq, gAdd, gSubI, gMul, gDiv, gMod, gPow, gLt, gLe, gGt, gGe, gIx, gNeg, eqB_int, gEq_int, gNe_int, gEq_str, gNe_str, if_true, if_false, Bool.false_eq_true, Nat.reduceAdd, Nat.zero_add, Bool.not_true, Bool.not_false, atI_c0, atI_c1, atI_c2, dr, dk]
      refine ⟨_, if_pos m0, ?_⟩
      unfold r__law_take_3
      simp only [mSeq, mSet, mSetN, mSetX, mExpr, mExprX, mRet, mRetN, mRetX, mIf, mNext, mPass, mBrk, mCnt, mFrz, mAsg, mAsgX, mPar, mParN, mBin, mUn, mArg, mC, mVar, mPeek, mCall, mCons, mNil, mTup, mLst, mBinT, mAsT, mNotT, mAndT, mOrT, mAndE, mOrE, mNotE, mIfE, mChain, mChainT, mSl, mO0, mO1, mIter, mRng1, mRng2, mZip, mEnum, mMut, mMutR, mSubSet, mShare, mMeth, mFor, mLc, mYes, slotV, frzS, tgN, tgT, tgNs, wipeE, retK, mAug, List.foldl_cons, List.foldl_nil, deref_int, deref_str, deref_bl, deref_non, deref_tup, deref_lst, deref_scr, deref_dic, deref_ty, isLst, cellP, List.getElem?_cons_zero, List.getElem?_cons_succ, List.getElem?_nil, List.set_cons_zero, List.set_cons_succ, List.map_cons, List.map_nil, List.length_cons, List.length_nil, List.cons_append, List.nil_append, Option.some.injEq, Slot.val.injEq, Slot.own.injEq, PV.int.injEq, PV.bl.injEq, PV.str.injEq, PV.ref.injEq, PV.lst.injEq, PV.tup.injEq, exists_eq_left', exists_eq_left, and_true, true_and, true_or, or_true, and_self, reduceCtorEq, gAdd, gSubI, gMul, gDiv, gMod, gPow, gLt, gLe, gGt, gGe, gIx, gNeg, eqB_int, gEq_int, gNe_int, gEq_str, gNe_str, if_true, if_false, Bool.false_eq_true, Nat.reduceAdd, Nat.zero_add, Bool.not_true, Bool.not_false, atI_c0, atI_c1, atI_c2, dr, dk]
      refine ⟨_, if_pos ⟨m0, m1⟩, k, _, _, 0, rfl, hk1, rfl, ixN_0 (by simp), ?_⟩
      unfold r__law_take_4
      simp only [mSeq, mSet, mSetN, mSetX, mExpr, mExprX, mRet, mRetN, mRetX, mIf, mNext, mPass, mBrk, mCnt, mFrz, mAsg, mAsgX, mPar, mParN, mBin, mUn, mArg, mC, mVar, mPeek, mCall, mCons, mNil, mTup, mLst, mBinT, mAsT, mNotT, mAndT, mOrT, mAndE, mOrE, mNotE, mIfE, mChain, mChainT, mSl, mO0, mO1, mIter, mRng1, mRng2, mZip, mEnum, mMut, mMutR, mSubSet, mShare, mMeth, mFor, mLc, mYes, slotV, frzS, tgN, tgT, tgNs, wipeE, retK, mAug, List.foldl_cons, List.foldl_nil, deref_int, deref_str, deref_bl, deref_non, deref_tup, deref_lst, deref_scr, deref_dic, deref_ty, isLst, cellP, List.getElem?_cons_zero, List.getElem?_cons_succ, List.getElem?_nil, List.set_cons_zero, List.set_cons_succ, List.map_cons, List.map_nil, List.length_cons, List.length_nil, List.cons_append, List.nil_append, Option.some.injEq, Slot.val.injEq, Slot.own.injEq, PV.int.injEq, PV.bl.injEq, PV.str.injEq, PV.ref.injEq, PV.lst.injEq, PV.tup.injEq, exists_eq_left', exists_eq_left, and_true, true_and, true_or, or_true, and_self, reduceCtorEq, gAdd, gSubI, gMul, gDiv, gMod, gPow, gLt, gLe, gGt, gGe, gIx, gNeg, eqB_int, gEq_int, gNe_int, gEq_str, gNe_str, if_true, if_false, Bool.false_eq_true, Nat.reduceAdd, Nat.zero_add, Bool.not_true, Bool.not_false, atI_c0, atI_c1, atI_c2]
      have hz := hR (i % m) ct (i / m :: is2) (Int.emod_nonneg _ (by omega)) (Int.emod_lt_of_pos _ m0) c0 (by omega) (by
        intro j hj
        rcases List.mem_cons.mp hj with rfl | hj
        · exact Int.ediv_nonneg (hi1 i (by simp)) (by omega)
        · exact hi1 j (by simp [hj]))
      have he : et1.set k (.lst (.int (i / m) :: is2.map .int)) = (et.set k (.lst ((i / m :: is2).map .int))).set r (.lst [.ref k, .int sd, .int ct]) := by
        rw [he1]
        apply List.ext_getElem?
        intro j
        by_cases h1 : j = r
        · subst h1
          rw [List.getElem?_set_ne (Ne.symm hrk), List.getElem?_set_ne (Ne.symm hrk), List.getElem?_set_self (by simpa using (List.getElem?_eq_some_iff.mp hr).1), hr]
        · rw [List.getElem?_set_ne (i := r) (Ne.symm h1)]
          by_cases h2 : j = k
          · subst h2
            rw [List.getElem?_set_self (by simpa using hkl), List.getElem?_set_self hkl]; rfl
          · rw [List.getElem?_set_ne (Ne.symm h2), List.getElem?_set_ne (Ne.symm h2), List.getElem?_set_ne (Ne.symm h2)]
      rw [he]
      exact hz
  simp only [mSeq, mSet, mSetN, mSetX, mExpr, mExprX, mRet, mRetN, mRetX, mIf, mNext, mPass, mBrk, mCnt, mFrz, mAsg, mAsgX, mPar, mParN, mBin, mUn, mArg, mC, mVar, mPeek, mCall, mCons, mNil, mTup, mLst, mBinT, mAsT, mNotT, mAndT, mOrT, mAndE, mOrE, mNotE, mIfE, mChain, mChainT, mSl, mO0, mO1, mIter, mRng1, mRng2, mZip, mEnum, mMut, mMutR, mSubSet, mShare, mMeth, mFor, mLc, mYes, slotV, frzS, tgN, tgT, tgNs, wipeE, retK, mAug, List.foldl_cons, List.foldl_nil, deref_int, deref_str, deref_bl, deref_non, deref_tup, deref_lst, deref_scr, deref_dic, deref_ty, isLst, cellP, List.getElem?_cons_zero, List.getElem?_cons_succ, List.getElem?_nil, List.set_cons_zero, List.set_cons_succ, List.map_cons, List.map_nil, List.length_cons, List.length_nil, List.cons_append, List.nil_append, Option.some.injEq, Slot.val.injEq, Slot.own.injEq, PV.int.injEq, PV.bl.injEq, PV.str.injEq, PV.ref.injEq, PV.lst.injEq, PV.tup.injEq, exists_eq_left', exists_eq_left, and_true, true_and, true_or, or_true, and_self, reduceCtorEq, gAdd, gSubI, gMul, gDiv, gMod, gPow, gLt, gLe, gGt, gGe, gIx, gNeg, eqB_int, gEq_int, gNe_int, gEq_str, gNe_str, if_true, if_false, Bool.false_eq_true, Nat.reduceAdd, Nat.zero_add, Bool.not_true, Bool.not_false, atI_c0, atI_c1, atI_c2, dr, dk, e1]
  refine ⟨Nat.zero_le _, ?_⟩
  cases is1 with
  | nil => exact fin
  | cons i is2 =>
    simp only [List.map_cons, List.isEmpty_cons, Bool.not_false, if_true]
    refine ⟨_, atI_c0 _ _, _, gEq_int i 0, ?_⟩
    by_cases h0 : i = 0
    · rw [if_pos (by simpa using h0)]
      unfold r__law_take_0
      simp only [mSeq, mSet, mSetN, mSetX, mExpr, mExprX, mRet, mRetN, mRetX, mIf, mNext, mPass, mBrk, mCnt, mFrz, mAsg, mAsgX, mPar, mParN, mBin, mUn, mArg, mC, mVar, mPeek, mCall, mCons, mNil, mTup, mLst, mBinT, mAsT, mNotT, mAndT, mOrT, mAndE, mOrE, mNotE, mIfE, mChain, mChainT, mSl, mO0, mO1, mIter, mRng1, mRng2, mZip, mEnum, mMut, mMutR, mSubSet, mShare, mMeth, mFor, mLc, mYes, slotV, frzS, tgN, tgT, tgNs, wipeE, retK, mAug, List.foldl_cons, List.foldl_nil, deref_int, deref_str, deref_bl, deref_non, deref_tup, deref_lst, deref_scr, deref_dic, deref_ty, isLst, cellP, List.getElem?_cons_zero, List.getElem?_cons_succ, List.getElem?_nil, List.set_cons_zero, List.set_cons_succ, List.map_cons, List.map_nil, List.length_cons, List.length_nil, List.cons_append, List.nil_append, Option.some.injEq, Slot.val.injEq, Slot.own.injEq, PV.int.injEq, PV.bl.injEq, PV.str.injEq, PV.ref.injEq, PV.lst.injEq, PV.tup.injEq, exists_eq_left', exists_eq_left, and_true, true_and, true_or, or_true, and_self, reduceCtorEq, gAdd, gSubI, gMul, gDiv, gMod, gPow, gLt, gLe, gGt, gGe, gIx, gNeg, eqB_int, gEq_int, gNe_int, gEq_str, gNe_str, if_true, if_false, Bool.false_eq_true, Nat.reduceAdd, Nat.zero_add, Bool.not_true, Bool.not_false, atI_c0, atI_c1, atI_c2, dr, dk]
      refine ⟨.lst (is2.map .int), .int i, .lst (is2.map .int), ?_, rfl, is2.length, by simp, is2, rfl, fun j hj => hi1 j (by simp [hj]), ?_⟩
      · simp only [gmPopAt, List.map_cons, List.length_cons]
        rw [if_pos (by decide), ixN_0 (by omega)]; rfl
      · rw [he1]
        apply List.ext_getElem?
        intro j
        by_cases h2 : j = k
        · subst h2
          rw [List.getElem?_set_self (by simpa using hkl), List.getElem?_set_self hkl]
        · rw [List.getElem?_set_ne (Ne.symm h2), List.getElem?_set_ne (Ne.symm h2), List.getElem?_set_ne (Ne.symm h2)]
    · rw [if_neg (by simpa using h0)]
      exact fin
theorem cutP_63 {α : Type} {xs : List α} (h : xs.length ≤ 63) : cutP xs none (some 63) = xs := by
  unfold cutP
  have e1 : HT.sIx xs.length 0 none = 0 := rfl
  have e2 : HT.sIx xs.length xs.length (some 63) = xs.length := by
    show (if (63 : Int) < 0 then ((63 : Int) + (xs.length : Int)).toNat else min (63 : Int).toNat xs.length) = xs.length
    rw [if_neg (by decide)]
    have : (63 : Int).toNat = 63 := rfl
    omega
  rw [e1, e2]; simp
theorem pot_ok (args : List PV) (et : Hi) (R : PV → Hi → Prop) (h : spPotC args et R) : r__law_pot (env0 N__law_pot args) et (retK R) := by
  obtain ⟨ns, rfl, hl, hR⟩ := h
  show r__law_pot [.val (.scr ns), .no, .no] et (retK R)
  unfold r__law_pot
  have hlen : gLen [.scr ns] = some (.int ns.length) := rfl
  simp only [mSeq, mSet, mSetN, mSetX, mExpr, mExprX, mRet, mRetN, mRetX, mIf, mNext, mPass, mBrk, mCnt, mFrz, mAsg, mAsgX, mPar, mParN, mBin, mUn, mArg, mC, mVar, mPeek, mCall, mCons, mNil, mTup, mLst, mBinT, mAsT, mNotT, mAndT, mOrT, mAndE, mOrE, mNotE, mIfE, mChain, mChainT, mSl, mO0, mO1, mIter, mRng1, mRng2, mZip, mEnum, mMut, mMutR, mSubSet, mShare, mMeth, mFor, mLc, mYes, slotV, frzS, tgN, tgT, tgNs, wipeE, retK, mAug, List.foldl_cons, List.foldl_nil, deref_int, deref_str, deref_bl, deref_non, deref_tup, deref_lst, deref_scr, deref_dic, deref_ty, isLst, cellP, List.getElem?_cons_zero, List.getElem?_cons_succ, List.getElem?_nil, List.set_cons_zero, List.set_cons_succ, List.map_cons, List.map_nil, List.length_cons, List.length_nil, List.cons_append, List.nil_append, Option.some.injEq, Slot.val.injEq, Slot.own.injEq, PV.int.injEq, PV.bl.injEq, PV.str.injEq, PV.ref.injEq, PV.lst.injEq, PV.tup.injEq, exists_eq_left', exists_eq_left, and_true, true_and, true_or, or_true, and_self, reduceCtorEq, gAdd, gSubI, gMul, gDiv, gMod, gPow, gLt, gLe, gGt, gGe, gIx, gNeg, eqB_int, gEq_int, gNe_int, gEq_str, gNe_str, if_true, if_false, Bool.false_eq_true, Nat.reduceAdd, Nat.zero_add, Bool.not_true, Bool.not_false, atI_c0, atI_c1, atI_c2, hlen]
  unfold r__law_pot_0
  have hsl : gSlA (.scr ns) none (some 63) = some (.lst (ns.map .int)) := by
    show some (PV.lst ((cutP ns none (some 63)).map .int)) = _
    rw [cutP_63 hl]
  simp only [mSeq, mSet, mSetN, mSetX, mExpr, mExprX, mRet, mRetN, mRetX, mIf, mNext, mPass, mBrk, mCnt, mFrz, mAsg, mAsgX, mPar, mParN, mBin, mUn, mArg, mC, mVar, mPeek, mCall, mCons, mNil, mTup, mLst, mBinT, mAsT, mNotT, mAndT, mOrT, mAndE, mOrE, mNotE, mIfE, mChain, mChainT, mSl, mO0, mO1, mIter, mRng1, mRng2, mZip, mEnum, mMut, mMutR, mSubSet, mShare, mMeth, mFor, mLc, mYes, slotV, frzS, tgN, tgT, tgNs, wipeE, retK, mAug, List.foldl_cons, List.foldl_nil, deref_int, deref_str, deref_bl, deref_non, deref_tup, deref_lst, deref_scr, deref_dic, deref_ty, isLst, cellP, List.getElem?_cons_zero, List.getElem?_cons_succ, List.getElem?_nil, List.set_cons_zero, List.set_cons_succ, List.map_cons, List.map_nil, List.length_cons, List.length_nil, List.cons_append, List.nil_append, Option.some.injEq, Slot.val.injEq, Slot.own.injEq, PV.int.injEq, PV.bl.injEq, PV.str.injEq, PV.ref.injEq, PV.lst.injEq, PV.tup.injEq, exists_eq_left', exists_eq_left, and_true, true_and, true_or, or_true, and_self, reduceCtorEq, gAdd, gSubI, gMul, gDiv, gMod, gPow, gLt, gLe, gGt, gGe, gIx, gNeg, eqB_int, gEq_int, gNe_int, gEq_str, gNe_str, if_true, if_false, Bool.false_eq_true, Nat.reduceAdd, Nat.zero_add, Bool.not_true, Bool.not_false, atI_c0, atI_c1, atI_c2, hsl, itemsP]
  refine ⟨fun i ep et1 => et1 = et ∧ ∃ (sd : Int) (s : Slot), ep = [.val (.scr ns), .val (.int sd), s] ∧ 0 ≤ sd ∧ sd < 2305843009213693951, ⟨rfl, _, _, rfl, by omega, by omega⟩, ?_⟩
  rintro i ep et1 ⟨rfl, sd, s, rfl, h0, h1⟩
  refine ⟨rfl, fun p hp => ⟨_, rfl, ?_⟩, fun hi => ?_⟩
  · rw [List.getElem?_map] at hp
    obtain ⟨c, hc, rfl⟩ : ∃ c, ns[i]? = some c ∧ p = .int c := by
      cases e : ns[i]? with
      | none => rw [e] at hp; cases hp
      | some c => rw [e] at hp; cases hp; exact ⟨c, rfl, rfl⟩
    unfold r__law_pot_1
    have m1 : -18446744073709551616 < sd ∧ sd < 18446744073709551616 := ⟨by omega, by omega⟩
    have m2 : (-18446744073709551616 : Int) < 1000003 ∧ (1000003 : Int) < 18446744073709551616 := by decide
    have m3 : (10 : Int).natAbs < 18446744073709551616 := by decide
    have m4 : (10 : Int) ^ (30 : Int).toNat = 1000000000000000000000000000000 := by decide
    simp only [mSeq, mSet, mSetN, mSetX, mExpr, mExprX, mRet, mRetN, mRetX, mIf, mNext, mPass, mBrk, mCnt, mFrz, mAsg, mAsgX, mPar, mParN, mBin, mUn, mArg, mC, mVar, mPeek, mCall, mCons, mNil, mTup, mLst, mBinT, mAsT, mNotT, mAndT, mOrT, mAndE, mOrE, mNotE, mIfE, mChain, mChainT, mSl, mO0, mO1, mIter, mRng1, mRng2, mZip, mEnum, mMut, mMutR, mSubSet, mShare, mMeth, mFor, mLc, mYes, slotV, frzS, tgN, tgT, tgNs, wipeE, retK, mAug, List.foldl_cons, List.foldl_nil, deref_int, deref_str, deref_bl, deref_non, deref_tup, deref_lst, deref_scr, deref_dic, deref_ty, isLst, cellP, List.getElem?_cons_zero, List.getElem?_cons_succ, List.getElem?_nil, List.set_cons_zero, List.set_cons_succ, List.map_cons, List.map_nil, List.length_cons, List.length_nil, List.cons_append, List.nil_append, Option.some.injEq, Slot.val.injEq, Slot.own.injEq, PV.int.injEq, PV.bl.injEq, PV.str.injEq, PV.ref.injEq, PV.lst.injEq, PV.tup.injEq, exists_eq_left', exists_eq_left, and_true, true_and, true_or, or_true, and_self, reduceCtorEq, gAdd, gSubI, gMul, gDiv, gMod, gPow, gLt, gLe, gGt, gGe, gIx, gNeg, eqB_int, gEq_int, gNe_int, gEq_str, gNe_str, if_true, if_false, Bool.false_eq_true, Nat.reduceAdd, Nat.zero_add, Bool.not_true, Bool.not_false, atI_c0, atI_c1, atI_c2, m1, m2, m3, m4, Int.reduceNeg, Int.reducePow, Int.reduceLT, Int.reduceLE, Nat.reducePow]
    exact ⟨_, _, rfl, Int.emod_nonneg _ (by decide), Int.emod_lt_of_pos _ (by decide)⟩
  · unfold r__law_pot_2
    simp only [mSeq, mSet, mSetN, mSetX, mExpr, mExprX, mRet, mRetN, mRetX, mIf, mNext, mPass, mBrk, mCnt, mFrz, mAsg, mAsgX, mPar, mParN, mBin, mUn, mArg, mC, mVar, mPeek, mCall, mCons, mNil, mTup, mLst, mBinT, mAsT, mNotT, mAndT, mOrT, mAndE, mOrE, mNotE, mIfE, mChain, mChainT, mSl, mO0, mO1, mIter, mRng1, mRng2, mZip, mEnum, mMut, mMutR, mSubSet, mShare, mMeth, mFor, mLc, mYes, slotV, frzS, tgN, tgT, tgNs, wipeE, retK, mAug, List.foldl_cons, List.foldl_nil, deref_int, deref_str, deref_bl, deref_non, deref_tup, deref_lst, deref_scr, deref_dic, deref_ty, isLst, cellP, List.getElem?_cons_zero, List.getElem?_cons_succ, List.getElem?_nil, List.set_cons_zero, List.set_cons_succ, List.map_cons, List.map_nil, List.length_cons, List.length_nil, List.cons_append, List.nil_append, Option.some.injEq, Slot.val.injEq, Slot.own.injEq, PV.int.injEq, PV.bl.injEq, PV.str.injEq, PV.ref.injEq, PV.lst.injEq, PV.tup.injEq, exists_eq_left', exists_eq_left, and_true, true_and, true_or, or_true, and_self, reduceCtorEq, gAdd, gSubI, gMul, gDiv, gMod, gPow, gLt, gLe, gGt, gGe, gIx, gNeg, eqB_int, gEq_int, gNe_int, gEq_str, gNe_str, if_true, if_false, Bool.false_eq_true, Nat.reduceAdd, Nat.zero_add, Bool.not_true, Bool.not_false, atI_c0, atI_c1, atI_c2, hsl, itemsP]
    refine ⟨fun i acc et2 => et2 = et1 ∧ ∃ is : List Int, acc = is.map .int ∧ is.length ≤ i ∧ ∀ j ∈ is, 0 ≤ j, ⟨rfl, [], rfl, Nat.le_refl _, fun j hj => by cases hj⟩, ?_⟩
    rintro i2 acc et2 ⟨rfl, is, rfl, hli, hn⟩
    refine ⟨rfl, fun p hp => ?_, fun hi2 => ?_⟩
    · have hi2 : i2 < ns.length := by
        have := (List.getElem?_eq_some_iff.mp hp).1
        simpa using this
      rw [List.getElem?_map] at hp
      obtain ⟨c, hc, rfl⟩ : ∃ c, ns[i2]? = some c ∧ p = .int c := by
        cases e : ns[i2]? with
        | none => rw [e] at hp; cases hp
        | some c => rw [e] at hp; cases hp; exact ⟨c, rfl, rfl⟩
      have m3 : (10 : Int).natAbs < 18446744073709551616 := by decide
      have m4 : (10 : Int) ^ (18 : Int).toNat = 1000000000000000000 := by decide
      simp only [mSeq, mSet, mSetN, mSetX, mExpr, mExprX, mRet, mRetN, mRetX, mIf, mNext, mPass, mBrk, mCnt, mFrz, mAsg, mAsgX, mPar, mParN, mBin, mUn, mArg, mC, mVar, mPeek, mCall, mCons, mNil, mTup, mLst, mBinT, mAsT, mNotT, mAndT, mOrT, mAndE, mOrE, mNotE, mIfE, mChain, mChainT, mSl, mO0, mO1, mIter, mRng1, mRng2, mZip, mEnum, mMut, mMutR, mSubSet, mShare, mMeth, mFor, mLc, mYes, slotV, frzS, tgN, tgT, tgNs, wipeE, retK, mAug, List.foldl_cons, List.foldl_nil, deref_int, deref_str, deref_bl, deref_non, deref_tup, deref_lst, deref_scr, deref_dic, deref_ty, isLst, cellP, List.getElem?_cons_zero, List.getElem?_cons_succ, List.getElem?_nil, List.set_cons_zero, List.set_cons_succ, List.map_cons, List.map_nil, List.length_cons, List.length_nil, List.cons_append, List.nil_append, Option.some.injEq, Slot.val.injEq, Slot.own.injEq, PV.int.injEq, PV.bl.injEq, PV.str.injEq, PV.ref.injEq, PV.lst.injEq, PV.tup.injEq, exists_eq_left', exists_eq_left, and_true, true_and, true_or, or_true, and_self, reduceCtorEq, gAdd, gSubI, gMul, gDiv, gMod, gPow, gLt, gLe, gGt, gGe, gIx, gNeg, eqB_int, gEq_int, gNe_int, gEq_str, gNe_str, if_true, if_false, Bool.false_eq_true, Nat.reduceAdd, Nat.zero_add, Bool.not_true, Bool.not_false, atI_c0, atI_c1, atI_c2, m3, m4, Int.reduceNeg, Int.reducePow, Int.reduceLT, Int.reduceLE, Nat.reducePow]
      by_cases hc2 : (1000000000000000000 : Int) ≤ c
      · simp only [hc2, decide_true, if_true]
        refine ⟨by rw [List.length_map]; have := (show (63 : Nat) < sizeLine by decide); omega, is ++ [c], by simp, by simp; omega, fun j hj => ?_⟩
        rcases List.mem_append.mp hj with hj | hj
        · exact hn j hj
        · rw [List.mem_singleton.mp hj]; omega
      · simp only [hc2, decide_false, Bool.false_eq_true, if_false]
        exact ⟨is, rfl, by omega, hn⟩
    · have s3 : (0 + 1 + 1 + 1 : Nat) ≤ sizeLine := by decide
      refine ⟨_, rfl, s3, ?_⟩
      have := hR sd is h0 h1 hn
      simpa using this
abbrev pt (n : Nat) : Hi := [.potI, .potO 0 n]
theorem take_pt {m : Int} {n : Nat} {R : PV → Hi → Prop} (m0 : 0 < m) (m1 : m < 1073741824) (h : ∀ d : Int, 0 ≤ d → d < m → R (.int d) (pt n)) : spTake [.ref 1, .int m] (pt (n + 1)) R :=
  ⟨1, 0, n, m, rfl, by decide, rfl, rfl, m0, m1, h⟩
def spOf : FSpec := fun args et R => ∃ (n : Nat) (xs : List PV), args = [.ref 1, .lst xs] ∧ et = pt (n + 1) ∧ 0 < xs.length ∧ xs.length < 1073741824 ∧ ∀ x ∈ xs, R x (pt n)
theorem of_ok (args : List PV) (et : Hi) (R : PV → Hi → Prop) (h : spOf args et R) : r__law_of spTake (env0 N__law_of args) et (retK R) := by
  obtain ⟨n, xs, rfl, rfl, h0, h1, hR⟩ := h
  show r__law_of spTake [.val (.ref 1), .val (.lst xs)] _ (retK R)
  unfold r__law_of
  have hlen : gLen [.lst xs] = some (.int xs.length) := rfl
  simp only [mSeq, mSet, mSetN, mSetX, mExpr, mExprX, mRet, mRetN, mRetX, mIf, mNext, mPass, mBrk, mCnt, mFrz, mAsg, mAsgX, mPar, mParN, mBin, mUn, mArg, mC, mVar, mPeek, mCall, mCons, mNil, mTup, mLst, mBinT, mAsT, mNotT, mAndT, mOrT, mAndE, mOrE, mNotE, mIfE, mChain, mChainT, mSl, mO0, mO1, mIter, mRng1, mRng2, mZip, mEnum, mMut, mMutR, mSubSet, mShare, mMeth, mFor, mLc, mYes, slotV, frzS, tgN, tgT, tgNs, wipeE, retK, mAug, List.foldl_cons, List.foldl_nil, deref_int, deref_str, deref_bl, deref_non, deref_tup, deref_lst, deref_scr, deref_dic, deref_ty, isLst, cellP, List.getElem?_cons_zero, List.getElem?_cons_succ, List.getElem?_nil, List.set_cons_zero, List.set_cons_succ, List.map_cons, List.map_nil, List.length_cons, List.length_nil, List.cons_append, List.nil_append, Option.some.injEq, Slot.val.injEq, Slot.own.injEq, PV.int.injEq, PV.bl.injEq, PV.str.injEq, PV.ref.injEq, PV.lst.injEq, PV.tup.injEq, exists_eq_left', exists_eq_left, and_true, true_and, true_or, or_true, and_self, reduceCtorEq, gAdd, gSubI, gMul, gDiv, gMod, gPow, gLt, gLe, gGt, gGe, gIx, gNeg, eqB_int, gEq_int, gNe_int, gEq_str, gNe_str, if_true, if_false, Bool.false_eq_true, Nat.reduceAdd, Nat.zero_add, Bool.not_true, Bool.not_false, atI_c0, atI_c1, atI_c2, hlen]
  refine take_pt (by omega) (by omega) fun d d0 d1 => ?_
  obtain ⟨j, rfl⟩ : ∃ j : Nat, d = (j : Int) := ⟨d.toNat, by omega⟩
  have hj : j < xs.length := by omega
  have e : atI xs (j : Int) = some xs[j] := atI_nat (List.getElem?_eq_getElem hj)
  simp only [mSeq, mSet, mSetN, mSetX, mExpr, mExprX, mRet, mRetN, mRetX, mIf, mNext, mPass, mBrk, mCnt, mFrz, mAsg, mAsgX, mPar, mParN, mBin, mUn, mArg, mC, mVar, mPeek, mCall, mCons, mNil, mTup, mLst, mBinT, mAsT, mNotT, mAndT, mOrT, mAndE, mOrE, mNotE, mIfE, mChain, mChainT, mSl, mO0, mO1, mIter, mRng1, mRng2, mZip, mEnum, mMut, mMutR, mSubSet, mShare, mMeth, mFor, mLc, mYes, slotV, frzS, tgN, tgT, tgNs, wipeE, retK, mAug, List.foldl_cons, List.foldl_nil, deref_int, deref_str, deref_bl, deref_non, deref_tup, deref_lst, deref_scr, deref_dic, deref_ty, isLst, cellP, List.getElem?_cons_zero, List.getElem?_cons_succ, List.getElem?_nil, List.set_cons_zero, List.set_cons_succ, List.map_cons, List.map_nil, List.length_cons, List.length_nil, List.cons_append, List.nil_append, Option.some.injEq, Slot.val.injEq, Slot.own.injEq, PV.int.injEq, PV.bl.injEq, PV.str.injEq, PV.ref.injEq, PV.lst.injEq, PV.tup.injEq, exists_eq_left', exists_eq_left, and_true, true_and, true_or, or_true, and_self, reduceCtorEq, gAdd, gSubI, gMul, gDiv, gMod, gPow, gLt, gLe, gGt, gGe, gIx, gNeg, eqB_int, gEq_int, gNe_int, gEq_str, gNe_str, if_true, if_false, Bool.false_eq_true, Nat.reduceAdd, Nat.zero_add, Bool.not_true, Bool.not_false, atI_c0, atI_c1, atI_c2, e]
  exact hR _ (List.getElem_mem hj)

/-! ### words -/
def isWord (x : Str) : Bool := decide (1 ≤ x.cps.size) && decide (x.cps.size ≤ 8) && x.cps.toList.all fun c => decide (97 ≤ c) && decide (c ≤ 122)
def letters : Str := "abcdefghijklmnopqrstuvwxyz"
theorem letters_list : letters.cps.toList = (List.range 26).map (· + 97) := by decide +kernel
def endsL : List Str := ["", "zq", "x", "qqzzx", "zqzqzqz"]
theorem endsL_ok : ∀ x ∈ endsL, x.cps.size ≤ 7 ∧ (x.cps.toList.all fun c => decide (97 ≤ c) && decide (c ≤ 122)) = true := by decide +kernel
theorem cps_append (x y : Str) : (x ++ y).cps = x.cps ++ y.cps := rfl
theorem len_cps (x : Str) : x.length = x.cps.size := rfl
/-- the k-th word of a draw -/
def wd (f t k : Nat) : Str := ⟨#[97 + (f + t * k) % 26]⟩ ++ endsL[(f + k * k) % 5]!
theorem ends_get (j : Nat) : endsL[j % 5]! ∈ endsL := by
  have : j % 5 < endsL.length := Nat.mod_lt _ (by decide)
  rw [getElem!_pos endsL (j % 5) this]; exact List.getElem_mem this
theorem wd_ok (f t k : Nat) : isWord (wd f t k) = true := by
  obtain ⟨h1, h2⟩ := endsL_ok _ (ends_get (f + k * k))
  unfold isWord wd
  rw [cps_append]
  have h3 : (f + t * k) % 26 < 26 := Nat.mod_lt _ (by decide)
  simp only [Array.size_append, Array.toList_append, List.all_append, h2]
  simp only [List.all_cons, List.all_nil, Bool.and_true, Bool.and_eq_true, decide_eq_true_eq]
  refine ⟨⟨?_, ?_⟩, ?_, ?_⟩
  · show 1 ≤ 1 + _; omega
  · show 1 + _ ≤ 8; omega
  · omega
  · omega
theorem wd_first (f t k : Nat) : (wd f t k).cps.toList[0]? = some (97 + (f + t * k) % 26) := by
  unfold wd; rw [cps_append, Array.toList_append]; rfl
def turns : List Nat := [1, 3, 5, 7, 9, 11]
theorem turn_inj : ∀ t ∈ turns, ∀ d : Nat, d < 26 → t * d % 26 = 0 → d = 0 := by decide
theorem wd_inj {f t j k : Nat} (ht : t ∈ turns) (hj : j < 26) (hk : k < 26) (h : wd f t j = wd f t k) : j = k := by
  have h1 := wd_first f t j
  rw [h, wd_first] at h1
  have h2 : (f + t * k) % 26 = (f + t * j) % 26 := by
    have := Option.some.inj h1; omega
  rcases Nat.le_total j k with hle | hle
  · obtain ⟨d, rfl⟩ := Nat.exists_eq_add_of_le hle
    have h3 : t * (j + d) = t * j + t * d := Nat.mul_add _ _ _
    have := turn_inj t ht d (by omega) (by omega)
    omega
  · obtain ⟨d, rfl⟩ := Nat.exists_eq_add_of_le hle
    have h3 : t * (k + d) = t * k + t * d := Nat.mul_add _ _ _
    have := turn_inj t ht d (by omega) (by omega)
    omega
def wds (f t n : Nat) : List Str := (List.range n).map (wd f t)
theorem wds_ok (f t n : Nat) : ∀ x ∈ wds f t n, isWord x = true := fun x hx => by
  obtain ⟨k, _, rfl⟩ := List.mem_map.mp hx; exact wd_ok f t k
theorem nodup_map_on {α β : Type} {f : α → β} : ∀ {l : List α}, l.Nodup → (∀ x ∈ l, ∀ y ∈ l, f x = f y → x = y) → (l.map f).Nodup
  | [], _, _ => by simp
  | a :: l, h, hi => by
    rw [List.map_cons, List.nodup_cons]
    rw [List.nodup_cons] at h
    refine ⟨fun hm => ?_, nodup_map_on h.2 fun x hx y hy => hi x (by simp [hx]) y (by simp [hy])⟩
    obtain ⟨b, hb, e⟩ := List.mem_map.mp hm
    exact h.1 (hi b (by simp [hb]) a (by simp) e ▸ hb)
theorem wds_nodup {f t n : Nat} (ht : t ∈ turns) (hn : n ≤ 26) : (wds f t n).Nodup := nodup_map_on List.nodup_range fun x hx y hy h =>
  wd_inj ht (by have := List.mem_range.mp hx; omega) (by have := List.mem_range.mp hy; omega) h
def spWords : FSpec := fun args et R => ∃ (n many : Nat), args = [.ref 1, .int many] ∧ many ≤ 26 ∧ et = pt (n + 2) ∧
  ∀ ws : List Str, ws.length = many → (∀ x ∈ ws, isWord x = true) → ws.Nodup → R (.lst (ws.map .str)) (pt n)
theorem words_ok (args : List PV) (et : Hi) (R : PV → Hi → Prop) (h : spWords args et R) : r__law_words spOf spTake (env0 N__law_words args) et (retK R) := by
  obtain ⟨n, many, rfl, hm, rfl, hR⟩ := h
  show r__law_words spOf spTake [.val (.ref 1), .val (.int many), .no, .no, .no, .no, .no, .no, .no] _ (retK R)
  unfold r__law_words
  simp only [mSeq, mSet, mSetN, mSetX, mExpr, mExprX, mRet, mRetN, mRetX, mIf, mNext, mPass, mBrk, mCnt, mFrz, mAsg, mAsgX, mPar, mParN, mBin, mUn, mArg, mC, mVar, mPeek, mCall, mCons, mNil, mTup, mLst, mBinT, mAsT, mNotT, mAndT, mOrT, mAndE, mOrE, mNotE, mIfE, mChain, mChainT, mSl, mO0, mO1, mIter, mRng1, mRng2, mZip, mEnum, mMut, mMutR, mSubSet, mShare, mMeth, mFor, mLc, mYes, slotV, frzS, tgN, tgT, tgNs, wipeE, retK, mAug, List.foldl_cons, List.foldl_nil, deref_int, deref_str, deref_bl, deref_non, deref_tup, deref_lst, deref_scr, deref_dic, deref_ty, isLst, cellP, List.getElem?_cons_zero, List.getElem?_cons_succ, List.getElem?_nil, List.set_cons_zero, List.set_cons_succ, List.map_cons, List.map_nil, List.length_cons, List.length_nil, List.cons_append, List.nil_append, Option.some.injEq, Slot.val.injEq, Slot.own.injEq, PV.int.injEq, PV.bl.injEq, PV.str.injEq, PV.ref.injEq, PV.lst.injEq, PV.tup.injEq, exists_eq_left', exists_eq_left, and_true, true_and, true_or, or_true, and_self, reduceCtorEq, gAdd, gSubI, gMul, gDiv, gMod, gPow, gLt, gLe, gGt, gGe, gIx, gNeg, eqB_int, gEq_int, gNe_int, gEq_str, gNe_str, if_true, if_false, Bool.false_eq_true, Nat.reduceAdd, Nat.zero_add, Bool.not_true, Bool.not_false, atI_c0, atI_c1, atI_c2]
  unfold r__law_words_0
  simp only [mSeq, mSet, mSetN, mSetX, mExpr, mExprX, mRet, mRetN, mRetX, mIf, mNext, mPass, mBrk, mCnt, mFrz, mAsg, mAsgX, mPar, mParN, mBin, mUn, mArg, mC, mVar, mPeek, mCall, mCons, mNil, mTup, mLst, mBinT, mAsT, mNotT, mAndT, mOrT, mAndE, mOrE, mNotE, mIfE, mChain, mChainT, mSl, mO0, mO1, mIter, mRng1, mRng2, mZip, mEnum, mMut, mMutR, mSubSet, mShare, mMeth, mFor, mLc, mYes, slotV, frzS, tgN, tgT, tgNs, wipeE, retK, mAug, List.foldl_cons, List.foldl_nil, deref_int, deref_str, deref_bl, deref_non, deref_tup, deref_lst, deref_scr, deref_dic, deref_ty, isLst, cellP, List.getElem?_cons_zero, List.getElem?_cons_succ, List.getElem?_nil, List.set_cons_zero, List.set_cons_succ, List.map_cons, List.map_nil, List.length_cons, List.length_nil, List.cons_append, List.nil_append, Option.some.injEq, Slot.val.injEq, Slot.own.injEq, PV.int.injEq, PV.bl.injEq, PV.str.injEq, PV.ref.injEq, PV.lst.injEq, PV.tup.injEq, exists_eq_left', exists_eq_left, and_true, true_and, true_or, or_true, and_self, reduceCtorEq, gAdd, gSubI, gMul, gDiv, gMod, gPow, gLt, gLe, gGt, gGe, gIx, gNeg, eqB_int, gEq_int, gNe_int, gEq_str, gNe_str, if_true, if_false, Bool.false_eq_true, Nat.reduceAdd, Nat.zero_add, Bool.not_true, Bool.not_false, atI_c0, atI_c1, atI_c2]
  refine take_pt (by decide) (by decide) fun f f0 f1 => ?_
  have s6 : (0 + 1 + 1 + 1 + 1 + 1 + 1 : Nat) ≤ sizeLine := by decide
  refine ⟨s6, n, _, rfl, rfl, by simp, by simp, fun x hx => ?_⟩
  obtain ⟨t, ht, rfl⟩ : ∃ t : Nat, t ∈ turns ∧ x = .int t := by
    simp only [List.mem_cons, List.not_mem_nil, or_false] at hx
    rcases hx with rfl | rfl | rfl | rfl | rfl | rfl
    · exact ⟨1, by decide, rfl⟩
    · exact ⟨3, by decide, rfl⟩
    · exact ⟨5, by decide, rfl⟩
    · exact ⟨7, by decide, rfl⟩
    · exact ⟨9, by decide, rfl⟩
    · exact ⟨11, by decide, rfl⟩
  obtain ⟨f, rfl⟩ : ∃ j : Nat, f = (j : Int) := ⟨f.toNat, by omega⟩
  refine ⟨_, _, rfl, ?_⟩
  unfold r__law_words_1
  simp only [mSeq, mSet, mSetN, mSetX, mExpr, mExprX, mRet, mRetN, mRetX, mIf, mNext, mPass, mBrk, mCnt, mFrz, mAsg, mAsgX, mPar, mParN, mBin, mUn, mArg, mC, mVar, mPeek, mCall, mCons, mNil, mTup, mLst, mBinT, mAsT, mNotT, mAndT, mOrT, mAndE, mOrE, mNotE, mIfE, mChain, mChainT, mSl, mO0, mO1, mIter, mRng1, mRng2, mZip, mEnum, mMut, mMutR, mSubSet, mShare, mMeth, mFor, mLc, mYes, slotV, frzS, tgN, tgT, tgNs, wipeE, retK, mAug, List.foldl_cons, List.foldl_nil, deref_int, deref_str, deref_bl, deref_non, deref_tup, deref_lst, deref_scr, deref_dic, deref_ty, isLst, cellP, List.getElem?_cons_zero, List.getElem?_cons_succ, List.getElem?_nil, List.set_cons_zero, List.set_cons_succ, List.map_cons, List.map_nil, List.length_cons, List.length_nil, List.cons_append, List.nil_append, Option.some.injEq, Slot.val.injEq, Slot.own.injEq, PV.int.injEq, PV.bl.injEq, PV.str.injEq, PV.ref.injEq, PV.lst.injEq, PV.tup.injEq, exists_eq_left', exists_eq_left, and_true, true_and, true_or, or_true, and_self, reduceCtorEq, gAdd, gSubI, gMul, gDiv, gMod, gPow, gLt, gLe, gGt, gGe, gIx, gNeg, eqB_int, gEq_int, gNe_int, gEq_str, gNe_str, if_true, if_false, Bool.false_eq_true, Nat.reduceAdd, Nat.zero_add, Bool.not_true, Bool.not_false, atI_c0, atI_c1, atI_c2]
  refine ⟨by decide, ?_⟩
  unfold r__law_words_2
  simp only [mSeq, mSet, mSetN, mSetX, mExpr, mExprX, mRet, mRetN, mRetX, mIf, mNext, mPass, mBrk, mCnt, mFrz, mAsg, mAsgX, mPar, mParN, mBin, mUn, mArg, mC, mVar, mPeek, mCall, mCons, mNil, mTup, mLst, mBinT, mAsT, mNotT, mAndT, mOrT, mAndE, mOrE, mNotE, mIfE, mChain, mChainT, mSl, mO0, mO1, mIter, mRng1, mRng2, mZip, mEnum, mMut, mMutR, mSubSet, mShare, mMeth, mFor, mLc, mYes, slotV, frzS, tgN, tgT, tgNs, wipeE, retK, mAug, List.foldl_cons, List.foldl_nil, deref_int, deref_str, deref_bl, deref_non, deref_tup, deref_lst, deref_scr, deref_dic, deref_ty, isLst, cellP, List.getElem?_cons_zero, List.getElem?_cons_succ, List.getElem?_nil, List.set_cons_zero, List.set_cons_succ, List.map_cons, List.map_nil, List.length_cons, List.length_nil, List.cons_append, List.nil_append, Option.some.injEq, Slot.val.injEq, Slot.own.injEq, PV.int.injEq, PV.bl.injEq, PV.str.injEq, PV.ref.injEq, PV.lst.injEq, PV.tup.injEq, exists_eq_left', exists_eq_left, and_true, true_and, true_or, or_true, and_self, reduceCtorEq, gAdd, gSubI, gMul, gDiv, gMod, gPow, gLt, gLe, gGt, gGe, gIx, gNeg, eqB_int, gEq_int, gNe_int, gEq_str, gNe_str, if_true, if_false, Bool.false_eq_true, Nat.reduceAdd, Nat.zero_add, Bool.not_true, Bool.not_false, atI_c0, atI_c1, atI_c2]
  refine ⟨by decide, ?_⟩
  unfold r__law_words_3
  simp only [mSeq, mSet, mSetN, mSetX, mExpr, mExprX, mRet, mRetN, mRetX, mIf, mNext, mPass, mBrk, mCnt, mFrz, mAsg, mAsgX, mPar, mParN, mBin, mUn, mArg, mC, mVar, mPeek, mCall, mCons, mNil, mTup, mLst, mBinT, mAsT, mNotT, mAndT, mOrT, mAndE, mOrE, mNotE, mIfE, mChain, mChainT, mSl, mO0, mO1, mIter, mRng1, mRng2, mZip, mEnum, mMut, mMutR, mSubSet, mShare, mMeth, mFor, mLc, mYes, slotV, frzS, tgN, tgT, tgNs, wipeE, retK, mAug, List.foldl_cons, List.foldl_nil, deref_int, deref_str, deref_bl, deref_non, deref_tup, deref_lst, deref_scr, deref_dic, deref_ty, isLst, cellP, List.getElem?_cons_zero, List.getElem?_cons_succ, List.getElem?_nil, List.set_cons_zero, List.set_cons_succ, List.map_cons, List.map_nil, List.length_cons, List.length_nil, List.cons_append, List.nil_append, Option.some.injEq, Slot.val.injEq, Slot.own.injEq, PV.int.injEq, PV.bl.injEq, PV.str.injEq, PV.ref.injEq, PV.lst.injEq, PV.tup.injEq, exists_eq_left', exists_eq_left, and_true, true_and, true_or, or_true, and_self, reduceCtorEq, gAdd, gSubI, gMul, gDiv, gMod, gPow, gLt, gLe, gGt, gGe, gIx, gNeg, eqB_int, gEq_int, gNe_int, gEq_str, gNe_str, if_true, if_false, Bool.false_eq_true, Nat.reduceAdd, Nat.zero_add, Bool.not_true, Bool.not_false, atI_c0, atI_c1, atI_c2]
  refine ⟨many, rfl, by omega, by omega, fun i ep et1 => et1 = pt n ∧ ∃ s1 s2, ep = [.val (.ref 1), .val (.int many), .val (.str letters), .val (.int f), .val (.int t), .val (.lst (endsL.map .str)), .own (.lst ((wds f t i).map .str)), s1, s2], ⟨rfl, _, _, rfl⟩, ?_⟩
  rintro i ep et1 ⟨rfl, s1, s2, rfl⟩
  have hlenR : (rng 0 (many : Int).toNat).length = many := by simp [rng]
  refine ⟨rfl, fun p hp => ⟨_, rfl, ?_⟩, fun hi => ?_⟩
  · have hi : i < many := by
      have := (List.getElem?_eq_some_iff.mp hp).1
      rw [hlenR] at this; exact this
    have hpe : p = .int i := by
      unfold rng at hp
      rw [List.getElem?_map, List.getElem?_range (by omega)] at hp
      cases hp; simp
    subst hpe
    unfold r__law_words_4
    have ht26 : t ≤ 11 := by
      simp only [turns, List.mem_cons, List.not_mem_nil, or_false] at ht
      omega
    have m1 : (-18446744073709551616 : Int) < t ∧ (t : Int) < 18446744073709551616 := ⟨by omega, by omega⟩
    have m2 : (-18446744073709551616 : Int) < i ∧ (i : Int) < 18446744073709551616 := ⟨by omega, by omega⟩
    have l1 : letters.length ≤ sizeLine := by decide +kernel
    have e1 : atI letters.cps.toList (((f : Int) + t * i) % 26) = some (97 + (f + t * i) % 26) := by
      have : ((f : Int) + t * i) % 26 = (((f + t * i) % 26 : Nat) : Int) := by simp
      rw [this]
      refine atI_nat ?_
      rw [letters_list, List.getElem?_map, List.getElem?_range (Nat.mod_lt _ (by decide))]
      simp [Nat.add_comm]
    simp only [mSeq, mSet, mSetN, mSetX, mExpr, mExprX, mRet, mRetN, mRetX, mIf, mNext, mPass, mBrk, mCnt, mFrz, mAsg, mAsgX, mPar, mParN, mBin, mUn, mArg, mC, mVar, mPeek, mCall, mCons, mNil, mTup, mLst, mBinT, mAsT, mNotT, mAndT, mOrT, mAndE, mOrE, mNotE, mIfE, mChain, mChainT, mSl, mO0, mO1, mIter, mRng1, mRng2, mZip, mEnum, mMut, mMutR, mSubSet, mShare, mMeth, mFor, mLc, mYes, slotV, frzS, tgN, tgT, tgNs, wipeE, retK, mAug, List.foldl_cons, List.foldl_nil, deref_int, deref_str, deref_bl, deref_non, deref_tup, deref_lst, deref_scr, deref_dic, deref_ty, isLst, cellP, List.getElem?_cons_zero, List.getElem?_cons_succ, List.getElem?_nil, List.set_cons_zero, List.set_cons_succ, List.map_cons, List.map_nil, List.length_cons, List.length_nil, List.cons_append, List.nil_append, Option.some.injEq, Slot.val.injEq, Slot.own.injEq, PV.int.injEq, PV.bl.injEq, PV.str.injEq, PV.ref.injEq, PV.lst.injEq, PV.tup.injEq, exists_eq_left', exists_eq_left, and_true, true_and, true_or, or_true, and_self, reduceCtorEq, gAdd, gSubI, gMul, gDiv, gMod, gPow, gLt, gLe, gGt, gGe, gIx, gNeg, eqB_int, gEq_int, gNe_int, gEq_str, gNe_str, if_true, if_false, Bool.false_eq_true, Nat.reduceAdd, Nat.zero_add, Bool.not_true, Bool.not_false, atI_c0, atI_c1, atI_c2, m1, m2, Int.reduceNeg, Int.reducePow, Int.reduceLT, l1, e1, Option.map_some]
    unfold r__law_words_5
    have e2 : atI (endsL.map PV.str) (((f : Int) + i * i) % 5) = some (.str endsL[(f + i * i) % 5]!) := by
      have : ((f : Int) + i * i) % 5 = (((f + i * i) % 5 : Nat) : Int) := by simp
      rw [this]
      refine atI_nat ?_
      have hlt : (f + i * i) % 5 < endsL.length := Nat.mod_lt _ (by decide)
      rw [List.getElem?_map, List.getElem?_eq_getElem hlt, getElem!_pos endsL _ hlt]; rfl
    have hel := (endsL_ok _ (ends_get (f + i * i))).1
    have l2 : (⟨#[97 + (f + t * i) % 26]⟩ : Str).length + (endsL[(f + i * i) % 5]!).length ≤ sizeLine := by
      rw [len_cps, len_cps]
      have : (8 : Nat) ≤ sizeLine := by decide
      show 1 + _ ≤ _
      omega
    have l3 : ((wds f t i).map PV.str).length < sizeLine := by
      rw [List.length_map]; unfold wds; rw [List.length_map, List.length_range]
      have : (26 : Nat) < sizeLine := by decide
      omega
    simp only [mSeq, mSet, mSetN, mSetX, mExpr, mExprX, mRet, mRetN, mRetX, mIf, mNext, mPass, mBrk, mCnt, mFrz, mAsg, mAsgX, mPar, mParN, mBin, mUn, mArg, mC, mVar, mPeek, mCall, mCons, mNil, mTup, mLst, mBinT, mAsT, mNotT, mAndT, mOrT, mAndE, mOrE, mNotE, mIfE, mChain, mChainT, mSl, mO0, mO1, mIter, mRng1, mRng2, mZip, mEnum, mMut, mMutR, mSubSet, mShare, mMeth, mFor, mLc, mYes, slotV, frzS, tgN, tgT, tgNs, wipeE, retK, mAug, List.foldl_cons, List.foldl_nil, deref_int, deref_str, deref_bl, deref_non, deref_tup, deref_lst, deref_scr, deref_dic, deref_ty, isLst, cellP, List.getElem?_cons_zero, List.getElem?_cons_succ, List.getElem?_nil, List.set_cons_zero, List.set_cons_succ, List.map_cons, List.map_nil, List.length_cons, List.length_nil, List.cons_append, List.nil_append, Option.some.injEq, Slot.val.injEq, Slot.own.injEq, PV.int.injEq, PV.bl.injEq, PV.str.injEq, PV.ref.injEq, PV.lst.injEq, PV.tup.injEq, exists_eq_left', exists_eq_left, and_true, true_and, true_or, or_true, and_self, reduceCtorEq, gAdd, gSubI, gMul, gDiv, gMod, gPow, gLt, gLe, gGt, gGe, gIx, gNeg, eqB_int, gEq_int, gNe_int, gEq_str, gNe_str, if_true, if_false, Bool.false_eq_true, Nat.reduceAdd, Nat.zero_add, Bool.not_true, Bool.not_false, atI_c0, atI_c1, atI_c2, m1, m2, Int.reduceNeg, Int.reducePow, Int.reduceLT, e2, l2, gmAppend, l3]
    have : (wds f t (i + 1)).map PV.str = (wds f t i).map PV.str ++ [.str (wd f t i)] := by
      unfold wds; rw [List.range_succ, List.map_append, List.map_append]; rfl
    rw [this]
    exact ⟨_, _, rfl, _, _, rfl⟩
  · rw [hlenR] at hi
    unfold r__law_words_6
    simp only [mSeq, mSet, mSetN, mSetX, mExpr, mExprX, mRet, mRetN, mRetX, mIf, mNext, mPass, mBrk, mCnt, mFrz, mAsg, mAsgX, mPar, mParN, mBin, mUn, mArg, mC, mVar, mPeek, mCall, mCons, mNil, mTup, mLst, mBinT, mAsT, mNotT, mAndT, mOrT, mAndE, mOrE, mNotE, mIfE, mChain, mChainT, mSl, mO0, mO1, mIter, mRng1, mRng2, mZip, mEnum, mMut, mMutR, mSubSet, mShare, mMeth, mFor, mLc, mYes, slotV, frzS, tgN, tgT, tgNs, wipeE, retK, mAug, List.foldl_cons, List.foldl_nil, deref_int, deref_str, deref_bl, deref_non, deref_tup, deref_lst, deref_scr, deref_dic, deref_ty, isLst, cellP, List.getElem?_cons_zero, List.getElem?_cons_succ, List.getElem?_nil, List.set_cons_zero, List.set_cons_succ, List.map_cons, List.map_nil, List.length_cons, List.length_nil, List.cons_append, List.nil_append, Option.some.injEq, Slot.val.injEq, Slot.own.injEq, PV.int.injEq, PV.bl.injEq, PV.str.injEq, PV.ref.injEq, PV.lst.injEq, PV.tup.injEq, exists_eq_left', exists_eq_left, and_true, true_and, true_or, or_true, and_self, reduceCtorEq, gAdd, gSubI, gMul, gDiv, gMod, gPow, gLt, gLe, gGt, gGe, gIx, gNeg, eqB_int, gEq_int, gNe_int, gEq_str, gNe_str, if_true, if_false, Bool.false_eq_true, Nat.reduceAdd, Nat.zero_add, Bool.not_true, Bool.not_false, atI_c0, atI_c1, atI_c2]
    exact hR _ (by rw [hi]; simp [wds]) (wds_ok f t i) (wds_nodup ht (by omega))

/-! ### sums -/
inductive Tw where
  | plus | minus | less | same | both
  deriving DecidableEq
def Tw.str : Tw → Str
  | .plus => "plus" | .minus => "minus" | .less => "less" | .same => "same" | .both => "both"
inductive Sm where
  | val (n : Nat) | wrd (x : Str) | wts (x : Str) | not (a : Sm) | two (w : Tw) (a b : Sm)
def Sm.pv : Sm → PV
  | .val n => .int n
  | .wrd x => .str x
  | .wts x => .tup [.str "waits", .str x]
  | .not a => .tup [.str "not", a.pv]
  | .two w a b => .tup [.str w.str, a.pv, b.pv]
def Sm.dep : Sm → Nat
  | .val _ => 1
  | .wrd _ => 1
  | .wts _ => 1
  | .not a => a.dep + 1
  | .two _ a b => max a.dep b.dep + 1
def Sm.ok (ws bs : List Str) : Sm → Prop
  | .val n => n ≤ 9
  | .wrd x => x ∈ ws
  | .wts x => x ∈ bs
  | .not a => a.ok ws bs
  | .two _ a b => a.ok ws bs ∧ b.ok ws bs
theorem isWord_strOk {x : Str} (h : isWord x = true) : PyData.strOk x = true := by
  unfold isWord at h
  simp only [Bool.and_eq_true, List.all_eq_true, decide_eq_true_eq] at h
  unfold PyData.strOk
  rw [← Array.all_toList, List.all_eq_true]
  intro c hc
  have := h.2 c hc
  simp; omega
theorem doks_words {ws : List Str} (h : ∀ x ∈ ws, isWord x = true) : doks (ws.map .str) = true ∧ dpts (ws.map .str) = 0 := by
  induction ws with
  | nil => simp [doks, dpts]
  | cons x ws ih =>
    have := ih fun y hy => h y (by simp [hy])
    simp [doks, dpts, dok, dpt, isWord_strOk (h x (by simp)), this]
theorem gNe_words {ws : List Str} (h : ∀ x ∈ ws, isWord x = true) : gNe (.lst (ws.map .str)) (.lst []) = some (.bl (!ws.isEmpty)) := by
  rw [gNe_nil (doks_words h).1 (by rw [(doks_words h).2]; omega)]
  cases ws <;> rfl
def spBare : FSpec := fun args et R => ∃ (n : Nat) (ws bs : List Str), args = [.ref 1, .lst (ws.map .str), .lst (bs.map .str)] ∧ (∀ x ∈ ws, isWord x = true) ∧ (∀ x ∈ bs, isWord x = true) ∧ ws.length < 1000 ∧ bs.length < 1000 ∧ et = pt (n + 3) ∧
  ∀ n', n ≤ n' → ∀ s : Sm, s.dep = 1 → s.ok ws bs → R s.pv (pt n')
theorem str_ne {a b : String} (h : (Str.ofString a == Str.ofString b) = false) : Str.ofString a ≠ Str.ofString b := by
  intro e; rw [e] at h; simp at h
theorem of_intro {n : Nat} {xs : List PV} {R : PV → Hi → Prop} (h0 : 0 < xs.length) (h1 : xs.length < 1073741824) (h : ∀ x ∈ xs, R x (pt n)) : spOf [.ref 1, .lst xs] (pt (n + 1)) R := ⟨n, xs, rfl, rfl, h0, h1, h⟩
theorem bare_ok (args : List PV) (et : Hi) (R : PV → Hi → Prop) (h : spBare args et R) : r__law_bare spTake spOf (env0 N__law_bare args) et (retK R) := by
  obtain ⟨n, ws, bs, rfl, hw, hb, lw, lb, rfl, hR⟩ := h
  show r__law_bare spTake spOf [.val (.ref 1), .val (.lst (ws.map .str)), .val (.lst (bs.map .str)), .no] _ (retK R)
  unfold r__law_bare
  simp only [mSeq, mSet, mSetN, mSetX, mExpr, mExprX, mRet, mRetN, mRetX, mIf, mNext, mPass, mBrk, mCnt, mFrz, mAsg, mAsgX, mPar, mParN, mBin, mUn, mArg, mC, mVar, mPeek, mCall, mCons, mNil, mTup, mLst, mBinT, mAsT, mNotT, mAndT, mOrT, mAndE, mOrE, mNotE, mIfE, mChain, mChainT, mSl, mO0, mO1, mIter, mRng1, mRng2, mZip, mEnum, mMut, mMutR, mSubSet, mShare, mMeth, mFor, mLc, mYes, slotV, frzS, tgN, tgT, tgNs, wipeE, retK, mAug, List.foldl_cons, List.foldl_nil, deref_int, deref_str, deref_bl, deref_non, deref_tup, deref_lst, deref_scr, deref_dic, deref_ty, isLst, cellP, List.getElem?_cons_zero, List.getElem?_cons_succ, List.getElem?_nil, List.set_cons_zero, List.set_cons_succ, List.map_cons, List.map_nil, List.length_cons, List.length_nil, List.cons_append, List.nil_append, Option.some.injEq, Slot.val.injEq, Slot.own.injEq, PV.int.injEq, PV.bl.injEq, PV.str.injEq, PV.ref.injEq, PV.lst.injEq, PV.tup.injEq, exists_eq_left', exists_eq_left, and_true, true_and, true_or, or_true, and_self, reduceCtorEq, gAdd, gSubI, gMul, gDiv, gMod, gPow, gLt, gLe, gGt, gGe, gIx, gNeg, eqB_int, gEq_int, gNe_int, gEq_str, gNe_str, if_true, if_false, Bool.false_eq_true, Nat.reduceAdd, Nat.zero_add, Bool.not_true, Bool.not_false, atI_c0, atI_c1, atI_c2]
  refine take_pt (by decide) (by decide) fun d d0 d1 => ?_
  unfold r__law_bare_0
  have ew := gNe_words hw
  have eb := gNe_words hb
  simp only [mSeq, mSet, mSetN, mSetX, mExpr, mExprX, mRet, mRetN, mRetX, mIf, mNext, mPass, mBrk, mCnt, mFrz, mAsg, mAsgX, mPar, mParN, mBin, mUn, mArg, mC, mVar, mPeek, mCall, mCons, mNil, mTup, mLst, mBinT, mAsT, mNotT, mAndT, mOrT, mAndE, mOrE, mNotE, mIfE, mChain, mChainT, mSl, mO0, mO1, mIter, mRng1, mRng2, mZip, mEnum, mMut, mMutR, mSubSet, mShare, mMeth, mFor, mLc, mYes, slotV, frzS, tgN, tgT, tgNs, wipeE, retK, mAug, List.foldl_cons, List.foldl_nil, deref_int, deref_str, deref_bl, deref_non, deref_tup, deref_lst, deref_scr, deref_dic, deref_ty, isLst, cellP, List.getElem?_cons_zero, List.getElem?_cons_succ, List.getElem?_nil, List.set_cons_zero, List.set_cons_succ, List.map_cons, List.map_nil, List.length_cons, List.length_nil, List.cons_append, List.nil_append, Option.some.injEq, Slot.val.injEq, Slot.own.injEq, PV.int.injEq, PV.bl.injEq, PV.str.injEq, PV.ref.injEq, PV.lst.injEq, PV.tup.injEq, exists_eq_left', exists_eq_left, and_true, true_and, true_or, or_true, and_self, reduceCtorEq, gAdd, gSubI, gMul, gDiv, gMod, gPow, gLt, gLe, gGt, gGe, gIx, gNeg, eqB_int, gEq_int, gNe_int, gEq_str, gNe_str, if_true, if_false, Bool.false_eq_true, Nat.reduceAdd, Nat.zero_add, Bool.not_true, Bool.not_false, atI_c0, atI_c1, atI_c2, ew, eb]
  -- the rest
  have fin : r__law_bare_2 spTake spOf [.val (.ref 1), .val (.lst (ws.map .str)), .val (.lst (bs.map .str)), .val (.int d)] (pt (n + 2)) (retK R) := by
    unfold r__law_bare_2
    simp only [mSeq, mSet, mSetN, mSetX, mExpr, mExprX, mRet, mRetN, mRetX, mIf, mNext, mPass, mBrk, mCnt, mFrz, mAsg, mAsgX, mPar, mParN, mBin, mUn, mArg, mC, mVar, mPeek, mCall, mCons, mNil, mTup, mLst, mBinT, mAsT, mNotT, mAndT, mOrT, mAndE, mOrE, mNotE, mIfE, mChain, mChainT, mSl, mO0, mO1, mIter, mRng1, mRng2, mZip, mEnum, mMut, mMutR, mSubSet, mShare, mMeth, mFor, mLc, mYes, slotV, frzS, tgN, tgT, tgNs, wipeE, retK, mAug, List.foldl_cons, List.foldl_nil, deref_int, deref_str, deref_bl, deref_non, deref_tup, deref_lst, deref_scr, deref_dic, deref_ty, isLst, cellP, List.getElem?_cons_zero, List.getElem?_cons_succ, List.getElem?_nil, List.set_cons_zero, List.set_cons_succ, List.map_cons, List.map_nil, List.length_cons, List.length_nil, List.cons_append, List.nil_append, Option.some.injEq, Slot.val.injEq, Slot.own.injEq, PV.int.injEq, PV.bl.injEq, PV.str.injEq, PV.ref.injEq, PV.lst.injEq, PV.tup.injEq, exists_eq_left', exists_eq_left, and_true, true_and, true_or, or_true, and_self, reduceCtorEq, gAdd, gSubI, gMul, gDiv, gMod, gPow, gLt, gLe, gGt, gGe, gIx, gNeg, eqB_int, gEq_int, gNe_int, gEq_str, gNe_str, if_true, if_false, Bool.false_eq_true, Nat.reduceAdd, Nat.zero_add, Bool.not_true, Bool.not_false, atI_c0, atI_c1, atI_c2, eb]
    have last : r__law_bare_4 spTake [.val (.ref 1), .val (.lst (ws.map .str)), .val (.lst (bs.map .str)), .val (.int d)] (pt (n + 2)) (retK R) := by
      unfold r__law_bare_4
      simp only [mSeq, mSet, mSetN, mSetX, mExpr, mExprX, mRet, mRetN, mRetX, mIf, mNext, mPass, mBrk, mCnt, mFrz, mAsg, mAsgX, mPar, mParN, mBin, mUn, mArg, mC, mVar, mPeek, mCall, mCons, mNil, mTup, mLst, mBinT, mAsT, mNotT, mAndT, mOrT, mAndE, mOrE, mNotE, mIfE, mChain, mChainT, mSl, mO0, mO1, mIter, mRng1, mRng2, mZip, mEnum, mMut, mMutR, mSubSet, mShare, mMeth, mFor, mLc, mYes, slotV, frzS, tgN, tgT, tgNs, wipeE, retK, mAug, List.foldl_cons, List.foldl_nil, deref_int, deref_str, deref_bl, deref_non, deref_tup, deref_lst, deref_scr, deref_dic, deref_ty, isLst, cellP, List.getElem?_cons_zero, List.getElem?_cons_succ, List.getElem?_nil, List.set_cons_zero, List.set_cons_succ, List.map_cons, List.map_nil, List.length_cons, List.length_nil, List.cons_append, List.nil_append, Option.some.injEq, Slot.val.injEq, Slot.own.injEq, PV.int.injEq, PV.bl.injEq, PV.str.injEq, PV.ref.injEq, PV.lst.injEq, PV.tup.injEq, exists_eq_left', exists_eq_left, and_true, true_and, true_or, or_true, and_self, reduceCtorEq, gAdd, gSubI, gMul, gDiv, gMod, gPow, gLt, gLe, gGt, gGe, gIx, gNeg, eqB_int, gEq_int, gNe_int, gEq_str, gNe_str, if_true, if_false, Bool.false_eq_true, Nat.reduceAdd, Nat.zero_add, Bool.not_true, Bool.not_false, atI_c0, atI_c1, atI_c2]
      refine ⟨by decide, ?_⟩
      refine take_pt (by decide) (by decide) fun e e0 e1 => ?_
      have he : e = 0 ∨ e = 1 := by omega
      have fin2 : ∀ m : Int, 0 < m → m ≤ 10 → spTake [.ref 1, .int m] (pt (n + 1)) R := fun m h0 h1 => take_pt h0 (by omega) fun g g0 g1 => by
        obtain ⟨g, rfl⟩ : ∃ j : Nat, g = (j : Int) := ⟨g.toNat, by omega⟩
        exact hR n (Nat.le_refl _) (.val g) rfl (show g ≤ 9 by omega)
      rcases he with rfl | rfl
      · refine ⟨_, atI_c0 _ _, ?_⟩
        exact fin2 3 (by decide) (by decide)
      · refine ⟨_, atI_c1 _ _ _, ?_⟩
        exact fin2 10 (by decide) (by decide)
    by_cases h2 : d = 2
    · simp only [h2, decide_true, if_true]
      refine ⟨by decide, ?_⟩
      cases bs with
      | nil => exact h2 ▸ last
      | cons b bs =>
        simp only [List.isEmpty_cons, Bool.not_false, if_true]
        unfold r__law_bare_3
        simp only [mSeq, mSet, mSetN, mSetX, mExpr, mExprX, mRet, mRetN, mRetX, mIf, mNext, mPass, mBrk, mCnt, mFrz, mAsg, mAsgX, mPar, mParN, mBin, mUn, mArg, mC, mVar, mPeek, mCall, mCons, mNil, mTup, mLst, mBinT, mAsT, mNotT, mAndT, mOrT, mAndE, mOrE, mNotE, mIfE, mChain, mChainT, mSl, mO0, mO1, mIter, mRng1, mRng2, mZip, mEnum, mMut, mMutR, mSubSet, mShare, mMeth, mFor, mLc, mYes, slotV, frzS, tgN, tgT, tgNs, wipeE, retK, mAug, List.foldl_cons, List.foldl_nil, deref_int, deref_str, deref_bl, deref_non, deref_tup, deref_lst, deref_scr, deref_dic, deref_ty, isLst, cellP, List.getElem?_cons_zero, List.getElem?_cons_succ, List.getElem?_nil, List.set_cons_zero, List.set_cons_succ, List.map_cons, List.map_nil, List.length_cons, List.length_nil, List.cons_append, List.nil_append, Option.some.injEq, Slot.val.injEq, Slot.own.injEq, PV.int.injEq, PV.bl.injEq, PV.str.injEq, PV.ref.injEq, PV.lst.injEq, PV.tup.injEq, exists_eq_left', exists_eq_left, and_true, true_and, true_or, or_true, and_self, reduceCtorEq, gAdd, gSubI, gMul, gDiv, gMod, gPow, gLt, gLe, gGt, gGe, gIx, gNeg, eqB_int, gEq_int, gNe_int, gEq_str, gNe_str, if_true, if_false, Bool.false_eq_true, Nat.reduceAdd, Nat.zero_add, Bool.not_true, Bool.not_false, atI_c0, atI_c1, atI_c2]
        refine of_intro (by simp) (by simp only [List.length_cons, List.length_map] at lb ⊢; omega) fun x hx => ?_
        refine ⟨by decide, ?_⟩
        obtain ⟨y, hy, rfl⟩ := List.mem_map.mp (show x ∈ (b :: bs).map PV.str from hx)
        exact hR (n + 1) (by omega) (.wts y) rfl hy
    · simp only [h2, decide_false, Bool.false_eq_true, if_false]
      exact last
  by_cases h1 : d < 2
  · simp only [h1, decide_true, if_true]
    refine ⟨by decide, ?_⟩
    cases ws with
    | nil => exact fin
    | cons b ws =>
      simp only [List.isEmpty_cons, Bool.not_false, if_true]
      unfold r__law_bare_1
      simp only [mSeq, mSet, mSetN, mSetX, mExpr, mExprX, mRet, mRetN, mRetX, mIf, mNext, mPass, mBrk, mCnt, mFrz, mAsg, mAsgX, mPar, mParN, mBin, mUn, mArg, mC, mVar, mPeek, mCall, mCons, mNil, mTup, mLst, mBinT, mAsT, mNotT, mAndT, mOrT, mAndE, mOrE, mNotE, mIfE, mChain, mChainT, mSl, mO0, mO1, mIter, mRng1, mRng2, mZip, mEnum, mMut, mMutR, mSubSet, mShare, mMeth, mFor, mLc, mYes, slotV, frzS, tgN, tgT, tgNs, wipeE, retK, mAug, List.foldl_cons, List.foldl_nil, deref_int, deref_str, deref_bl, deref_non, deref_tup, deref_lst, deref_scr, deref_dic, deref_ty, isLst, cellP, List.getElem?_cons_zero, List.getElem?_cons_succ, List.getElem?_nil, List.set_cons_zero, List.set_cons_succ, List.map_cons, List.map_nil, List.length_cons, List.length_nil, List.cons_append, List.nil_append, Option.some.injEq, Slot.val.injEq, Slot.own.injEq, PV.int.injEq, PV.bl.injEq, PV.str.injEq, PV.ref.injEq, PV.lst.injEq, PV.tup.injEq, exists_eq_left', exists_eq_left, and_true, true_and, true_or, or_true, and_self, reduceCtorEq, gAdd, gSubI, gMul, gDiv, gMod, gPow, gLt, gLe, gGt, gGe, gIx, gNeg, eqB_int, gEq_int, gNe_int, gEq_str, gNe_str, if_true, if_false, Bool.false_eq_true, Nat.reduceAdd, Nat.zero_add, Bool.not_true, Bool.not_false, atI_c0, atI_c1, atI_c2]
      refine of_intro (by simp) (by simp only [List.length_cons, List.length_map] at lw ⊢; omega) fun x hx => ?_
      obtain ⟨y, hy, rfl⟩ := List.mem_map.mp (show x ∈ (b :: ws).map PV.str from hx)
      exact hR (n + 1) (by omega) (.wrd y) rfl hy
  · simp only [h1, decide_false, Bool.false_eq_true, if_false]
    exact fin
def cs : Nat → Nat
  | 0 => 4
  | k + 1 => 2 * cs k + 2
theorem cs_le (k : Nat) : 4 ≤ cs k := by induction k <;> simp [cs]; omega
/-- fewer than j deep -/
def spSum : Nat → FSpec := fun j args et R => ∃ (n deep : Nat) (ws bs : List Str), args = [.ref 1, .lst (ws.map .str), .lst (bs.map .str), .int deep] ∧ deep < j ∧ (∀ x ∈ ws, isWord x = true) ∧ (∀ x ∈ bs, isWord x = true) ∧ ws.length < 1000 ∧ bs.length < 1000 ∧ et = pt (n + cs deep) ∧
  ∀ n', n ≤ n' → ∀ s : Sm, s.dep ≤ max 1 deep → s.ok ws bs → R s.pv (pt n')
theorem sum_ok (j : Nat) (args : List PV) (et : Hi) (R : PV → Hi → Prop) (h : spSum (j + 1) args et R) : r__law_sum spTake spBare (spSum j) spOf (env0 N__law_sum args) et (retK R) := by
  obtain ⟨n, deep, ws, bs, rfl, hj, hw, hb, lw, lb, rfl, hR⟩ := h
  show r__law_sum _ _ _ _ [.val (.ref 1), .val (.lst (ws.map .str)), .val (.lst (bs.map .str)), .val (.int deep), .no, .no] _ (retK R)
  have hc := cs_le deep
  obtain ⟨c, hcc⟩ : ∃ c, cs deep = c + 4 := ⟨cs deep - 4, by omega⟩
  have e0 : n + cs deep = (n + c + 3) + 1 := by omega
  rw [e0]
  unfold r__law_sum
  simp only [mSeq, mSet, mSetN, mSetX, mExpr, mExprX, mRet, mRetN, mRetX, mIf, mNext, mPass, mBrk, mCnt, mFrz, mAsg, mAsgX, mPar, mParN, mBin, mUn, mArg, mC, mVar, mPeek, mCall, mCons, mNil, mTup, mLst, mBinT, mAsT, mNotT, mAndT, mOrT, mAndE, mOrE, mNotE, mIfE, mChain, mChainT, mSl, mO0, mO1, mIter, mRng1, mRng2, mZip, mEnum, mMut, mMutR, mSubSet, mShare, mMeth, mFor, mLc, mYes, slotV, frzS, tgN, tgT, tgNs, wipeE, retK, mAug, List.foldl_cons, List.foldl_nil, deref_int, deref_str, deref_bl, deref_non, deref_tup, deref_lst, deref_scr, deref_dic, deref_ty, isLst, cellP, List.getElem?_cons_zero, List.getElem?_cons_succ, List.getElem?_nil, List.set_cons_zero, List.set_cons_succ, List.map_cons, List.map_nil, List.length_cons, List.length_nil, List.cons_append, List.nil_append, Option.some.injEq, Slot.val.injEq, Slot.own.injEq, PV.int.injEq, PV.bl.injEq, PV.str.injEq, PV.ref.injEq, PV.lst.injEq, PV.tup.injEq, exists_eq_left', exists_eq_left, and_true, true_and, true_or, or_true, and_self, reduceCtorEq, gAdd, gSubI, gMul, gDiv, gMod, gPow, gLt, gLe, gGt, gGe, gIx, gNeg, eqB_int, gEq_int, gNe_int, gEq_str, gNe_str, if_true, if_false, Bool.false_eq_true, Nat.reduceAdd, Nat.zero_add, Bool.not_true, Bool.not_false, atI_c0, atI_c1, atI_c2]
  refine take_pt (m := 8) (by decide) (by decide) fun d d0 d1 => ?_
  unfold r__law_sum_0
  simp only [mSeq, mSet, mSetN, mSetX, mExpr, mExprX, mRet, mRetN, mRetX, mIf, mNext, mPass, mBrk, mCnt, mFrz, mAsg, mAsgX, mPar, mParN, mBin, mUn, mArg, mC, mVar, mPeek, mCall, mCons, mNil, mTup, mLst, mBinT, mAsT, mNotT, mAndT, mOrT, mAndE, mOrE, mNotE, mIfE, mChain, mChainT, mSl, mO0, mO1, mIter, mRng1, mRng2, mZip, mEnum, mMut, mMutR, mSubSet, mShare, mMeth, mFor, mLc, mYes, slotV, frzS, tgN, tgT, tgNs, wipeE, retK, mAug, List.foldl_cons, List.foldl_nil, deref_int, deref_str, deref_bl, deref_non, deref_tup, deref_lst, deref_scr, deref_dic, deref_ty, isLst, cellP, List.getElem?_cons_zero, List.getElem?_cons_succ, List.getElem?_nil, List.set_cons_zero, List.set_cons_succ, List.map_cons, List.map_nil, List.length_cons, List.length_nil, List.cons_append, List.nil_append, Option.some.injEq, Slot.val.injEq, Slot.own.injEq, PV.int.injEq, PV.bl.injEq, PV.str.injEq, PV.ref.injEq, PV.lst.injEq, PV.tup.injEq, exists_eq_left', exists_eq_left, and_true, true_and, true_or, or_true, and_self, reduceCtorEq, gAdd, gSubI, gMul, gDiv, gMod, gPow, gLt, gLe, gGt, gGe, gIx, gNeg, eqB_int, gEq_int, gNe_int, gEq_str, gNe_str, if_true, if_false, Bool.false_eq_true, Nat.reduceAdd, Nat.zero_add, Bool.not_true, Bool.not_false, atI_c0, atI_c1, atI_c2]
  have bare : r__law_sum_1 spBare [.val (.ref 1), .val (.lst (ws.map .str)), .val (.lst (bs.map .str)), .val (.int deep), .val (.int d), .no] (pt (n + c + 3)) (retK R) := by
    unfold r__law_sum_1
    simp only [mSeq, mSet, mSetN, mSetX, mExpr, mExprX, mRet, mRetN, mRetX, mIf, mNext, mPass, mBrk, mCnt, mFrz, mAsg, mAsgX, mPar, mParN, mBin, mUn, mArg, mC, mVar, mPeek, mCall, mCons, mNil, mTup, mLst, mBinT, mAsT, mNotT, mAndT, mOrT, mAndE, mOrE, mNotE, mIfE, mChain, mChainT, mSl, mO0, mO1, mIter, mRng1, mRng2, mZip, mEnum, mMut, mMutR, mSubSet, mShare, mMeth, mFor, mLc, mYes, slotV, frzS, tgN, tgT, tgNs, wipeE, retK, mAug, List.foldl_cons, List.foldl_nil, deref_int, deref_str, deref_bl, deref_non, deref_tup, deref_lst, deref_scr, deref_dic, deref_ty, isLst, cellP, List.getElem?_cons_zero, List.getElem?_cons_succ, List.getElem?_nil, List.set_cons_zero, List.set_cons_succ, List.map_cons, List.map_nil, List.length_cons, List.length_nil, List.cons_append, List.nil_append, Option.some.injEq, Slot.val.injEq, Slot.own.injEq, PV.int.injEq, PV.bl.injEq, PV.str.injEq, PV.ref.injEq, PV.lst.injEq, PV.tup.injEq, exists_eq_left', exists_eq_left, and_true, true_and, true_or, or_true, and_self, reduceCtorEq, gAdd, gSubI, gMul, gDiv, gMod, gPow, gLt, gLe, gGt, gGe, gIx, gNeg, eqB_int, gEq_int, gNe_int, gEq_str, gNe_str, if_true, if_false, Bool.false_eq_true, Nat.reduceAdd, Nat.zero_add, Bool.not_true, Bool.not_false, atI_c0, atI_c1, atI_c2]
    exact ⟨n + c, ws, bs, rfl, hw, hb, lw, lb, rfl, fun n' hn s hs ho => hR n' (by omega) s (by omega) ho⟩
  by_cases h1 : (deep : Int) < 2
  · simp only [h1, decide_true, if_true]
    exact bare
  simp only [h1, decide_false, Bool.false_eq_true, if_false]
  by_cases h2 : d < 2
  · simp only [h2, decide_true, if_true]
    exact bare
  simp only [h2, decide_false, Bool.false_eq_true, if_false]
  obtain ⟨k, rfl⟩ : ∃ k, deep = k + 1 := ⟨deep - 1, by omega⟩
  have ecs : cs (k + 1) = 2 * cs k + 2 := rfl
  have ek : (((k + 1 : Nat) : Int) - 1) = (k : Int) := by omega
  unfold r__law_sum_2
  simp only [mSeq, mSet, mSetN, mSetX, mExpr, mExprX, mRet, mRetN, mRetX, mIf, mNext, mPass, mBrk, mCnt, mFrz, mAsg, mAsgX, mPar, mParN, mBin, mUn, mArg, mC, mVar, mPeek, mCall, mCons, mNil, mTup, mLst, mBinT, mAsT, mNotT, mAndT, mOrT, mAndE, mOrE, mNotE, mIfE, mChain, mChainT, mSl, mO0, mO1, mIter, mRng1, mRng2, mZip, mEnum, mMut, mMutR, mSubSet, mShare, mMeth, mFor, mLc, mYes, slotV, frzS, tgN, tgT, tgNs, wipeE, retK, mAug, List.foldl_cons, List.foldl_nil, deref_int, deref_str, deref_bl, deref_non, deref_tup, deref_lst, deref_scr, deref_dic, deref_ty, isLst, cellP, List.getElem?_cons_zero, List.getElem?_cons_succ, List.getElem?_nil, List.set_cons_zero, List.set_cons_succ, List.map_cons, List.map_nil, List.length_cons, List.length_nil, List.cons_append, List.nil_append, Option.some.injEq, Slot.val.injEq, Slot.own.injEq, PV.int.injEq, PV.bl.injEq, PV.str.injEq, PV.ref.injEq, PV.lst.injEq, PV.tup.injEq, exists_eq_left', exists_eq_left, and_true, true_and, true_or, or_true, and_self, reduceCtorEq, gAdd, gSubI, gMul, gDiv, gMod, gPow, gLt, gLe, gGt, gGe, gIx, gNeg, eqB_int, gEq_int, gNe_int, gEq_str, gNe_str, if_true, if_false, Bool.false_eq_true, Nat.reduceAdd, Nat.zero_add, Bool.not_true, Bool.not_false, atI_c0, atI_c1, atI_c2, ek]
  by_cases h3 : d = 2
  · simp only [h3, decide_true, if_true]
    unfold r__law_sum_3
    simp only [mSeq, mSet, mSetN, mSetX, mExpr, mExprX, mRet, mRetN, mRetX, mIf, mNext, mPass, mBrk, mCnt, mFrz, mAsg, mAsgX, mPar, mParN, mBin, mUn, mArg, mC, mVar, mPeek, mCall, mCons, mNil, mTup, mLst, mBinT, mAsT, mNotT, mAndT, mOrT, mAndE, mOrE, mNotE, mIfE, mChain, mChainT, mSl, mO0, mO1, mIter, mRng1, mRng2, mZip, mEnum, mMut, mMutR, mSubSet, mShare, mMeth, mFor, mLc, mYes, slotV, frzS, tgN, tgT, tgNs, wipeE, retK, mAug, List.foldl_cons, List.foldl_nil, deref_int, deref_str, deref_bl, deref_non, deref_tup, deref_lst, deref_scr, deref_dic, deref_ty, isLst, cellP, List.getElem?_cons_zero, List.getElem?_cons_succ, List.getElem?_nil, List.set_cons_zero, List.set_cons_succ, List.map_cons, List.map_nil, List.length_cons, List.length_nil, List.cons_append, List.nil_append, Option.some.injEq, Slot.val.injEq, Slot.own.injEq, PV.int.injEq, PV.bl.injEq, PV.str.injEq, PV.ref.injEq, PV.lst.injEq, PV.tup.injEq, exists_eq_left', exists_eq_left, and_true, true_and, true_or, or_true, and_self, reduceCtorEq, gAdd, gSubI, gMul, gDiv, gMod, gPow, gLt, gLe, gGt, gGe, gIx, gNeg, eqB_int, gEq_int, gNe_int, gEq_str, gNe_str, if_true, if_false, Bool.false_eq_true, Nat.reduceAdd, Nat.zero_add, Bool.not_true, Bool.not_false, atI_c0, atI_c1, atI_c2, ek]
    refine ⟨n + c + 3 - cs k, k, ws, bs, rfl, by omega, hw, hb, lw, lb, by congr 1; omega, fun n' hn s hs ho => ?_⟩
    refine ⟨by decide, hR n' (by omega) (.not s) ?_ ho⟩
    show s.dep + 1 ≤ _; omega
  simp only [h3, decide_false, Bool.false_eq_true, if_false]
  unfold r__law_sum_4
  simp only [mSeq, mSet, mSetN, mSetX, mExpr, mExprX, mRet, mRetN, mRetX, mIf, mNext, mPass, mBrk, mCnt, mFrz, mAsg, mAsgX, mPar, mParN, mBin, mUn, mArg, mC, mVar, mPeek, mCall, mCons, mNil, mTup, mLst, mBinT, mAsT, mNotT, mAndT, mOrT, mAndE, mOrE, mNotE, mIfE, mChain, mChainT, mSl, mO0, mO1, mIter, mRng1, mRng2, mZip, mEnum, mMut, mMutR, mSubSet, mShare, mMeth, mFor, mLc, mYes, slotV, frzS, tgN, tgT, tgNs, wipeE, retK, mAug, List.foldl_cons, List.foldl_nil, deref_int, deref_str, deref_bl, deref_non, deref_tup, deref_lst, deref_scr, deref_dic, deref_ty, isLst, cellP, List.getElem?_cons_zero, List.getElem?_cons_succ, List.getElem?_nil, List.set_cons_zero, List.set_cons_succ, List.map_cons, List.map_nil, List.length_cons, List.length_nil, List.cons_append, List.nil_append, Option.some.injEq, Slot.val.injEq, Slot.own.injEq, PV.int.injEq, PV.bl.injEq, PV.str.injEq, PV.ref.injEq, PV.lst.injEq, PV.tup.injEq, exists_eq_left', exists_eq_left, and_true, true_and, true_or, or_true, and_self, reduceCtorEq, gAdd, gSubI, gMul, gDiv, gMod, gPow, gLt, gLe, gGt, gGe, gIx, gNeg, eqB_int, gEq_int, gNe_int, gEq_str, gNe_str, if_true, if_false, Bool.false_eq_true, Nat.reduceAdd, Nat.zero_add, Bool.not_true, Bool.not_false, atI_c0, atI_c1, atI_c2]
  refine ⟨by decide, ?_⟩
  have e1 : n + c + 3 = (n + c + 2) + 1 := by omega
  rw [e1]
  refine of_intro (by simp) (by simp) fun x hx => ?_
  obtain ⟨t, rfl⟩ : ∃ t : Tw, x = .str t.str := by
    simp only [List.mem_cons, List.not_mem_nil, or_false] at hx
    rcases hx with rfl | rfl | rfl | rfl | rfl
    · exact ⟨.plus, rfl⟩
    · exact ⟨.minus, rfl⟩
    · exact ⟨.less, rfl⟩
    · exact ⟨.same, rfl⟩
    · exact ⟨.both, rfl⟩
  unfold r__law_sum_5
  simp only [mSeq, mSet, mSetN, mSetX, mExpr, mExprX, mRet, mRetN, mRetX, mIf, mNext, mPass, mBrk, mCnt, mFrz, mAsg, mAsgX, mPar, mParN, mBin, mUn, mArg, mC, mVar, mPeek, mCall, mCons, mNil, mTup, mLst, mBinT, mAsT, mNotT, mAndT, mOrT, mAndE, mOrE, mNotE, mIfE, mChain, mChainT, mSl, mO0, mO1, mIter, mRng1, mRng2, mZip, mEnum, mMut, mMutR, mSubSet, mShare, mMeth, mFor, mLc, mYes, slotV, frzS, tgN, tgT, tgNs, wipeE, retK, mAug, List.foldl_cons, List.foldl_nil, deref_int, deref_str, deref_bl, deref_non, deref_tup, deref_lst, deref_scr, deref_dic, deref_ty, isLst, cellP, List.getElem?_cons_zero, List.getElem?_cons_succ, List.getElem?_nil, List.set_cons_zero, List.set_cons_succ, List.map_cons, List.map_nil, List.length_cons, List.length_nil, List.cons_append, List.nil_append, Option.some.injEq, Slot.val.injEq, Slot.own.injEq, PV.int.injEq, PV.bl.injEq, PV.str.injEq, PV.ref.injEq, PV.lst.injEq, PV.tup.injEq, exists_eq_left', exists_eq_left, and_true, true_and, true_or, or_true, and_self, reduceCtorEq, gAdd, gSubI, gMul, gDiv, gMod, gPow, gLt, gLe, gGt, gGe, gIx, gNeg, eqB_int, gEq_int, gNe_int, gEq_str, gNe_str, if_true, if_false, Bool.false_eq_true, Nat.reduceAdd, Nat.zero_add, Bool.not_true, Bool.not_false, atI_c0, atI_c1, atI_c2, ek]
  refine ⟨n + c + 2 - cs k, k, ws, bs, rfl, by omega, hw, hb, lw, lb, by congr 1; omega, fun n1 hn1 s1 hs1 ho1 => ?_⟩
  refine ⟨n1 - cs k, k, ws, bs, rfl, by omega, hw, hb, lw, lb, by congr 1; omega, fun n2 hn2 s2 hs2 ho2 => ?_⟩
  refine ⟨by decide, hR n2 (by omega) (.two t s1 s2) ?_ ⟨ho1, ho2⟩⟩
  show max s1.dep s2.dep + 1 ≤ _; omega
end Lw

namespace Vl
open PySem L2 Mw Lw
abbrev k_MOST_VALUE : PV := .int 9
def r_put_together_0 : SM := (mRet (mArg gMin2 (mCons (mC k_MOST_VALUE) (mCons (mBin gAdd (mPeek 1) (mPeek 2)) mNil))))
def r_put_together_2 : SM := (mRet (mArg gMax2 (mCons (mC (.int 0)) (mCons (mBin gSubI (mPeek 1) (mPeek 2)) mNil))))
def r_put_together_4 : SM := (mRet (mArg gInt (mCons (mBin gLt (mPeek 1) (mPeek 2)) mNil)))
def r_put_together_6 : SM := (mRet (mArg gInt (mCons (mBin gEq (mPeek 1) (mPeek 2)) mNil)))
def r_put_together_7 : SM := (mRet (mArg gInt (mCons (mAndE (mBin gNe (mPeek 1) (mC (.int 0))) (mBin gNe (mPeek 2) (mC (.int 0)))) mNil)))
def r_put_together_5 : SM := (mSeq (mIf (mBinT gEq (mPeek 0) (mC (.str "same"))) (r_put_together_6) mNext) (r_put_together_7))
def r_put_together_3 : SM := (mSeq (mIf (mBinT gEq (mPeek 0) (mC (.str "less"))) (r_put_together_4) mNext) (r_put_together_5))
def r_put_together_1 : SM := (mSeq (mIf (mBinT gEq (mPeek 0) (mC (.str "minus"))) (r_put_together_2) mNext) (r_put_together_3))
def r_put_together : SM := (mSeq (mIf (mBinT gEq (mPeek 0) (mC (.str "plus"))) (r_put_together_0) mNext) (r_put_together_1))
abbrev N_put_together : List Str := ["word", "one", "other"]
def r_value_of_0 : SM := (mRet (mBin gDGet (mPeek 1) (mPeek 0)))
def r_value_of_2 : SM := (mRet (mVar 0))
def r_value_of_4 : SM := (mRet (mArg gInt (mCons (mBin gGt (mBin gDGet (mPeek 2) (mBin gIx (mPeek 0) (mC (.int 1)))) (mC (.int 0))) mNil)))
def r_value_of_7 : SM := (mRet (mArg gInt (mCons (mBin gEq (mBin gIx (mPeek 4) (mC (.int 0))) (mC (.int 0))) mNil)))
def r_value_of_8 (S_put_together : FSpec) : SM := (mRet (mCall 3 S_put_together (mCons (mBin gIx (mPeek 0) (mC (.int 0))) (mCons (mBin gIx (mPeek 4) (mC (.int 0))) (mCons (mBin gIx (mPeek 4) (mC (.int 1))) mNil)))))
def r_value_of_6 (S_put_together : FSpec) : SM := (mSeq (mIf (mBinT gEq (mBin gIx (mPeek 0) (mC (.int 0))) (mC (.str "not"))) (r_value_of_7) mNext) (r_value_of_8 S_put_together))
def r_value_of_5 (S_value_of : FSpec) (S_put_together : FSpec) : SM := (mSeq (mSet 4 (mLc (mIter (mSl gSlA (mPeek 0) (mO1 (mC (.int 1))) mO0)) [3] (tgN 3) mYes (mCall 3 S_value_of (mCons (mVar 3) (mCons (mVar 1) (mCons (mVar 2) mNil)))))) (r_value_of_6 S_put_together))
def r_value_of_3 (S_value_of : FSpec) (S_put_together : FSpec) : SM := (mSeq (mIf (mBinT gEq (mBin gIx (mPeek 0) (mC (.int 0))) (mC (.str "waits"))) (r_value_of_4) mNext) (r_value_of_5 S_value_of S_put_together))
def r_value_of_1 (S_value_of : FSpec) (S_put_together : FSpec) : SM := (mSeq (mIf (mNotT (mAsT (mArg gIsi (mCons (mPeek 0) (mCons (mC (.ty .tup)) mNil))))) (r_value_of_2) mNext) (r_value_of_3 S_value_of S_put_together))
def r_value_of (S_value_of : FSpec) (S_put_together : FSpec) : SM := (mSeq (mIf (mAsT (mArg gIsi (mCons (mPeek 0) (mCons (mC (.ty .str)) mNil)))) (r_value_of_0) mNext) (r_value_of_1 S_value_of S_put_together))
abbrev N_value_of : List Str := ["told", "things", "waiting", "part", "values"]
/-- comprehensions that change nothing, item by item -/
theorem lc_rel {src want : List PV} {tg : PV → En → Option En} {me : EM PV} {epw : En} {ps rs : List PV} {et : Hi} {R : PV → Hi → Prop} (h : src.map (deref et) = want) (hl : ps.length ≤ sizeLine) (hr : ps.length = rs.length)
    (step : ∀ (i : Nat) (p r : PV), ps[i]? = some p → rs[i]? = some r → ∃ ep1, tg p epw = some ep1 ∧ ∀ Q : PV → Hi → Prop, Q r et → me ep1 et Q) (fin : R (.lst rs) et) : lcGo src want tg mYes me epw ps et R := by
  refine ⟨fun i acc et1 => et1 = et ∧ acc = rs.take i ∧ i ≤ ps.length, ⟨rfl, by simp, Nat.zero_le _⟩, ?_⟩
  rintro i acc et1 ⟨rfl, rfl, hi⟩
  refine ⟨h, fun p hp => ?_, fun e => ?_⟩
  · have hlt := (List.getElem?_eq_some_iff.mp hp).1
    obtain ⟨ep1, h1, h2⟩ := step i p rs[i] hp (List.getElem?_eq_getElem (by omega))
    refine ⟨ep1, h1, ?_⟩
    simp only [mYes, if_true]
    refine h2 _ ⟨by rw [List.length_take]; omega, rfl, ?_, hlt⟩
    rw [List.take_succ, List.getElem?_eq_getElem (by omega)]; rfl
  · rw [e, hr, List.take_length]; exact fin
def comb : Tw → Int → Int → Int
  | .plus, a, b => if a + b < 9 then a + b else 9
  | .minus, a, b => if a - b > 0 then a - b else 0
  | .less, a, b => if a < b then 1 else 0
  | .same, a, b => if a = b then 1 else 0
  | .both, a, b => if a ≠ 0 ∧ b ≠ 0 then 1 else 0
def ev (th wa : Str → Int) : Sm → Int
  | .val n => n
  | .wrd x => th x
  | .wts x => if wa x > 0 then 1 else 0
  | .not a => if ev th wa a = 0 then 1 else 0
  | .two w a b => comb w (ev th wa a) (ev th wa b)
/-- the words and bells stand in the dicts -/
def inD (ks qs : List (Key × PV)) (th wa : Str → Int) : Sm → Prop
  | .val _ => True
  | .wrd x => valP ks (.inr x) = some (.int (th x))
  | .wts x => valP qs (.inr x) = some (.int (wa x))
  | .not a => inD ks qs th wa a
  | .two _ a b => inD ks qs th wa a ∧ inD ks qs th wa b
theorem deref_sm (et : Hi) (s : Sm) : deref et s.pv = s.pv := by cases s <;> rfl
def spPut : FSpec := fun args et R => ∃ (t : Tw) (a b : Int), args = [.str t.str, .int a, .int b] ∧ R (.int (comb t a b)) et
theorem tw_ne (t u : Tw) : decide (t.str = u.str) = decide (t = u) := by cases t <;> cases u <;> decide
theorem put_ok (args : List PV) (et : Hi) (R : PV → Hi → Prop) (h : spPut args et R) : r_put_together (env0 N_put_together args) et (retK R) := by
  obtain ⟨t, a, b, rfl, hR⟩ := h
  show r_put_together [.val (.str t.str), .val (.int a), .val (.int b)] et (retK R)
  unfold r_put_together
  simp only [mSeq, mSet, mSetN, mSetX, mExpr, mExprX, mRet, mRetN, mRetX, mIf, mNext, mPass, mBrk, mCnt, mFrz, mAsg, mAsgX, mPar, mParN, mBin, mUn, mArg, mC, mVar, mPeek, mCall, mCons, mNil, mTup, mLst, mBinT, mAsT, mNotT, mAndT, mOrT, mAndE, mOrE, mNotE, mIfE, mChain, mChainT, mSl, mO0, mO1, mIter, mRng1, mRng2, mZip, mEnum, mMut, mMutR, mSubSet, mShare, mMeth, mFor, mLc, mYes, slotV, frzS, tgN, tgT, tgNs, wipeE, retK, mAug, List.foldl_cons, List.foldl_nil, deref_int, deref_str, deref_bl, deref_non, deref_tup, deref_lst, deref_scr, deref_dic, deref_ty, isLst, cellP, List.getElem?_cons_zero, List.getElem?_cons_succ, List.getElem?_nil, List.set_cons_zero, List.set_cons_succ, List.map_cons, List.map_nil, List.length_cons, List.length_nil, List.cons_append, List.nil_append, Option.some.injEq, Slot.val.injEq, Slot.own.injEq, PV.int.injEq, PV.bl.injEq, PV.str.injEq, PV.ref.injEq, PV.lst.injEq, PV.tup.injEq, exists_eq_left', exists_eq_left, and_true, true_and, true_or, or_true, and_self, reduceCtorEq, gAdd, gSubI, gMul, gDiv, gMod, gPow, gLt, gLe, gGt, gGe, gIx, gNeg, eqB_int, gEq_int, gNe_int, gEq_str, gNe_str, if_true, if_false, Bool.false_eq_true, Nat.reduceAdd, Nat.zero_add, Bool.not_true, Bool.not_false, atI_c0, atI_c1, atI_c2]
  cases t with
  | plus =>
    have e : Tw.plus.str = Str.ofString "plus" := rfl
    simp only [e, decide_true, if_true]
    unfold r_put_together_0
    simp only [mSeq, mSet, mSetN, mSetX, mExpr, mExprX, mRet, mRetN, mRetX, mIf, mNext, mPass, mBrk, mCnt, mFrz, mAsg, mAsgX, mPar, mParN, mBin, mUn, mArg, mC, mVar, mPeek, mCall, mCons, mNil, mTup, mLst, mBinT, mAsT, mNotT, mAndT, mOrT, mAndE, mOrE, mNotE, mIfE, mChain, mChainT, mSl, mO0, mO1, mIter, mRng1, mRng2, mZip, mEnum, mMut, mMutR, mSubSet, mShare, mMeth, mFor, mLc, mYes, slotV, frzS, tgN, tgT, tgNs, wipeE, retK, mAug, List.foldl_cons, List.foldl_nil, deref_int, deref_str, deref_bl, deref_non, deref_tup, deref_lst, deref_scr, deref_dic, deref_ty, isLst, cellP, List.getElem?_cons_zero, List.getElem?_cons_succ, List.getElem?_nil, List.set_cons_zero, List.set_cons_succ, List.map_cons, List.map_nil, List.length_cons, List.length_nil, List.cons_append, List.nil_append, Option.some.injEq, Slot.val.injEq, Slot.own.injEq, PV.int.injEq, PV.bl.injEq, PV.str.injEq, PV.ref.injEq, PV.lst.injEq, PV.tup.injEq, exists_eq_left', exists_eq_left, and_true, true_and, true_or, or_true, and_self, reduceCtorEq, gAdd, gSubI, gMul, gDiv, gMod, gPow, gLt, gLe, gGt, gGe, gIx, gNeg, eqB_int, gEq_int, gNe_int, gEq_str, gNe_str, if_true, if_false, Bool.false_eq_true, Nat.reduceAdd, Nat.zero_add, Bool.not_true, Bool.not_false, atI_c0, atI_c1, atI_c2, gMin2]
    exact hR
  | minus =>
    have e : decide (Tw.minus.str = Str.ofString "plus") = false := by decide
    simp only [e, Bool.false_eq_true, if_false]
    unfold r_put_together_1
    have e : Tw.minus.str = Str.ofString "minus" := rfl
    simp only [mSeq, mSet, mSetN, mSetX, mExpr, mExprX, mRet, mRetN, mRetX, mIf, mNext, mPass, mBrk, mCnt, mFrz, mAsg, mAsgX, mPar, mParN, mBin, mUn, mArg, mC, mVar, mPeek, mCall, mCons, mNil, mTup, mLst, mBinT, mAsT, mNotT, mAndT, mOrT, mAndE, mOrE, mNotE, mIfE, mChain, mChainT, mSl, mO0, mO1, mIter, mRng1, mRng2, mZip, mEnum, mMut, mMutR, mSubSet, mShare, mMeth, mFor, mLc, mYes, slotV, frzS, tgN, tgT, tgNs, wipeE, retK, mAug, List.foldl_cons, List.foldl_nil, deref_int, deref_str, deref_bl, deref_non, deref_tup, deref_lst, deref_scr, deref_dic, deref_ty, isLst, cellP, List.getElem?_cons_zero, List.getElem?_cons_succ, List.getElem?_nil, List.set_cons_zero, List.set_cons_succ, List.map_cons, List.map_nil, List.length_cons, List.length_nil, List.cons_append, List.nil_append, Option.some.injEq, Slot.val.injEq, Slot.own.injEq, PV.int.injEq, PV.bl.injEq, PV.str.injEq, PV.ref.injEq, PV.lst.injEq, PV.tup.injEq, exists_eq_left', exists_eq_left, and_true, true_and, true_or, or_true, and_self, reduceCtorEq, gAdd, gSubI, gMul, gDiv, gMod, gPow, gLt, gLe, gGt, gGe, gIx, gNeg, eqB_int, gEq_int, gNe_int, gEq_str, gNe_str, if_true, if_false, Bool.false_eq_true, Nat.reduceAdd, Nat.zero_add, Bool.not_true, Bool.not_false, atI_c0, atI_c1, atI_c2, e, decide_true]
    unfold r_put_together_2
    simp only [mSeq, mSet, mSetN, mSetX, mExpr, mExprX, mRet, mRetN, mRetX, mIf, mNext, mPass, mBrk, mCnt, mFrz, mAsg, mAsgX, mPar, mParN, mBin, mUn, mArg, mC, mVar, mPeek, mCall, mCons, mNil, mTup, mLst, mBinT, mAsT, mNotT, mAndT, mOrT, mAndE, mOrE, mNotE, mIfE, mChain, mChainT, mSl, mO0, mO1, mIter, mRng1, mRng2, mZip, mEnum, mMut, mMutR, mSubSet, mShare, mMeth, mFor, mLc, mYes, slotV, frzS, tgN, tgT, tgNs, wipeE, retK, mAug, List.foldl_cons, List.foldl_nil, deref_int, deref_str, deref_bl, deref_non, deref_tup, deref_lst, deref_scr, deref_dic, deref_ty, isLst, cellP, List.getElem?_cons_zero, List.getElem?_cons_succ, List.getElem?_nil, List.set_cons_zero, List.set_cons_succ, List.map_cons, List.map_nil, List.length_cons, List.length_nil, List.cons_append, List.nil_append, Option.some.injEq, Slot.val.injEq, Slot.own.injEq, PV.int.injEq, PV.bl.injEq, PV.str.injEq, PV.ref.injEq, PV.lst.injEq, PV.tup.injEq, exists_eq_left', exists_eq_left, and_true, true_and, true_or, or_true, and_self, reduceCtorEq, gAdd, gSubI, gMul, gDiv, gMod, gPow, gLt, gLe, gGt, gGe, gIx, gNeg, eqB_int, gEq_int, gNe_int, gEq_str, gNe_str, if_true, if_false, Bool.false_eq_true, Nat.reduceAdd, Nat.zero_add, Bool.not_true, Bool.not_false, atI_c0, atI_c1, atI_c2, gMax2]
    exact hR
  | less =>
    have e : decide (Tw.less.str = Str.ofString "plus") = false := by decide
    simp only [e, Bool.false_eq_true, if_false]
    unfold r_put_together_1
    have e : decide (Tw.less.str = Str.ofString "minus") = false := by decide
    simp only [mSeq, mSet, mSetN, mSetX, mExpr, mExprX, mRet, mRetN, mRetX, mIf, mNext, mPass, mBrk, mCnt, mFrz, mAsg, mAsgX, mPar, mParN, mBin, mUn, mArg, mC, mVar, mPeek, mCall, mCons, mNil, mTup, mLst, mBinT, mAsT, mNotT, mAndT, mOrT, mAndE, mOrE, mNotE, mIfE, mChain, mChainT, mSl, mO0, mO1, mIter, mRng1, mRng2, mZip, mEnum, mMut, mMutR, mSubSet, mShare, mMeth, mFor, mLc, mYes, slotV, frzS, tgN, tgT, tgNs, wipeE, retK, mAug, List.foldl_cons, List.foldl_nil, deref_int, deref_str, deref_bl, deref_non, deref_tup, deref_lst, deref_scr, deref_dic, deref_ty, isLst, cellP, List.getElem?_cons_zero, List.getElem?_cons_succ, List.getElem?_nil, List.set_cons_zero, List.set_cons_succ, List.map_cons, List.map_nil, List.length_cons, List.length_nil, List.cons_append, List.nil_append, Option.some.injEq, Slot.val.injEq, Slot.own.injEq, PV.int.injEq, PV.bl.injEq, PV.str.injEq, PV.ref.injEq, PV.lst.injEq, PV.tup.injEq, exists_eq_left', exists_eq_left, and_true, true_and, true_or, or_true, and_self, reduceCtorEq, gAdd, gSubI, gMul, gDiv, gMod, gPow, gLt, gLe, gGt, gGe, gIx, gNeg, eqB_int, gEq_int, gNe_int, gEq_str, gNe_str, if_true, if_false, Bool.false_eq_true, Nat.reduceAdd, Nat.zero_add, Bool.not_true, Bool.not_false, atI_c0, atI_c1, atI_c2, e]
    unfold r_put_together_3
    have e : Tw.less.str = Str.ofString "less" := rfl
    simp only [mSeq, mSet, mSetN, mSetX, mExpr, mExprX, mRet, mRetN, mRetX, mIf, mNext, mPass, mBrk, mCnt, mFrz, mAsg, mAsgX, mPar, mParN, mBin, mUn, mArg, mC, mVar, mPeek, mCall, mCons, mNil, mTup, mLst, mBinT, mAsT, mNotT, mAndT, mOrT, mAndE, mOrE, mNotE, mIfE, mChain, mChainT, mSl, mO0, mO1, mIter, mRng1, mRng2, mZip, mEnum, mMut, mMutR, mSubSet, mShare, mMeth, mFor, mLc, mYes, slotV, frzS, tgN, tgT, tgNs, wipeE, retK, mAug, List.foldl_cons, List.foldl_nil, deref_int, deref_str, deref_bl, deref_non, deref_tup, deref_lst, deref_scr, deref_dic, deref_ty, isLst, cellP, List.getElem?_cons_zero, List.getElem?_cons_succ, List.getElem?_nil, List.set_cons_zero, List.set_cons_succ, List.map_cons, List.map_nil, List.length_cons, List.length_nil, List.cons_append, List.nil_append, Option.some.injEq, Slot.val.injEq, Slot.own.injEq, PV.int.injEq, PV.bl.injEq, PV.str.injEq, PV.ref.injEq, PV.lst.injEq, PV.tup.injEq, exists_eq_left', exists_eq_left, and_true, true_and, true_or, or_true, and_self, reduceCtorEq, gAdd, gSubI, gMul, gDiv, gMod, gPow, gLt, gLe, gGt, gGe, gIx, gNeg, eqB_int, gEq_int, gNe_int, gEq_str, gNe_str, if_true, if_false, Bool.false_eq_true, Nat.reduceAdd, Nat.zero_add, Bool.not_true, Bool.not_false, atI_c0, atI_c1, atI_c2, e, decide_true]
    unfold r_put_together_4
    simp only [mSeq, mSet, mSetN, mSetX, mExpr, mExprX, mRet, mRetN, mRetX, mIf, mNext, mPass, mBrk, mCnt, mFrz, mAsg, mAsgX, mPar, mParN, mBin, mUn, mArg, mC, mVar, mPeek, mCall, mCons, mNil, mTup, mLst, mBinT, mAsT, mNotT, mAndT, mOrT, mAndE, mOrE, mNotE, mIfE, mChain, mChainT, mSl, mO0, mO1, mIter, mRng1, mRng2, mZip, mEnum, mMut, mMutR, mSubSet, mShare, mMeth, mFor, mLc, mYes, slotV, frzS, tgN, tgT, tgNs, wipeE, retK, mAug, List.foldl_cons, List.foldl_nil, deref_int, deref_str, deref_bl, deref_non, deref_tup, deref_lst, deref_scr, deref_dic, deref_ty, isLst, cellP, List.getElem?_cons_zero, List.getElem?_cons_succ, List.getElem?_nil, List.set_cons_zero, List.set_cons_succ, List.map_cons, List.map_nil, List.length_cons, List.length_nil, List.cons_append, List.nil_append, Option.some.injEq, Slot.val.injEq, Slot.own.injEq, PV.int.injEq, PV.bl.injEq, PV.str.injEq, PV.ref.injEq, PV.lst.injEq, PV.tup.injEq, exists_eq_left', exists_eq_left, and_true, true_and, true_or, or_true, and_self, reduceCtorEq, gAdd, gSubI, gMul, gDiv, gMod, gPow, gLt, gLe, gGt, gGe, gIx, gNeg, eqB_int, gEq_int, gNe_int, gEq_str, gNe_str, if_true, if_false, Bool.false_eq_true, Nat.reduceAdd, Nat.zero_add, Bool.not_true, Bool.not_false, atI_c0, atI_c1, atI_c2, gInt]
    simp only [comb] at hR
    simp only [decide_eq_true_eq]
    exact hR
  | same =>
    have e : decide (Tw.same.str = Str.ofString "plus") = false := by decide
    simp only [e, Bool.false_eq_true, if_false]
    unfold r_put_together_1
    have e : decide (Tw.same.str = Str.ofString "minus") = false := by decide
    simp only [mSeq, mSet, mSetN, mSetX, mExpr, mExprX, mRet, mRetN, mRetX, mIf, mNext, mPass, mBrk, mCnt, mFrz, mAsg, mAsgX, mPar, mParN, mBin, mUn, mArg, mC, mVar, mPeek, mCall, mCons, mNil, mTup, mLst, mBinT, mAsT, mNotT, mAndT, mOrT, mAndE, mOrE, mNotE, mIfE, mChain, mChainT, mSl, mO0, mO1, mIter, mRng1, mRng2, mZip, mEnum, mMut, mMutR, mSubSet, mShare, mMeth, mFor, mLc, mYes, slotV, frzS, tgN, tgT, tgNs, wipeE, retK, mAug, List.foldl_cons, List.foldl_nil, deref_int, deref_str, deref_bl, deref_non, deref_tup, deref_lst, deref_scr, deref_dic, deref_ty, isLst, cellP, List.getElem?_cons_zero, List.getElem?_cons_succ, List.getElem?_nil, List.set_cons_zero, List.set_cons_succ, List.map_cons, List.map_nil, List.length_cons, List.length_nil, List.cons_append, List.nil_append, Option.some.injEq, Slot.val.injEq, Slot.own.injEq, PV.int.injEq, PV.bl.injEq, PV.str.injEq, PV.ref.injEq, PV.lst.injEq, PV.tup.injEq, exists_eq_left', exists_eq_left, and_true, true_and, true_or, or_true, and_self, reduceCtorEq, gAdd, gSubI, gMul, gDiv, gMod, gPow, gLt, gLe, gGt, gGe, gIx, gNeg, eqB_int, gEq_int, gNe_int, gEq_str, gNe_str, if_true, if_false, Bool.false_eq_true, Nat.reduceAdd, Nat.zero_add, Bool.not_true, Bool.not_false, atI_c0, atI_c1, atI_c2, e]
    unfold r_put_together_3
    have e : decide (Tw.same.str = Str.ofString "less") = false := by decide
    simp only [mSeq, mSet, mSetN, mSetX, mExpr, mExprX, mRet, mRetN, mRetX, mIf, mNext, mPass, mBrk, mCnt, mFrz, mAsg, mAsgX, mPar, mParN, mBin, mUn, mArg, mC, mVar, mPeek, mCall, mCons, mNil, mTup, mLst, mBinT, mAsT, mNotT, mAndT, mOrT, mAndE, mOrE, mNotE, mIfE, mChain, mChainT, mSl, mO0, mO1, mIter, mRng1, mRng2, mZip, mEnum, mMut, mMutR, mSubSet, mShare, mMeth, mFor, mLc, mYes, slotV, frzS, tgN, tgT, tgNs, wipeE, retK, mAug, List.foldl_cons, List.foldl_nil, deref_int, deref_str, deref_bl, deref_non, deref_tup, deref_lst, deref_scr, deref_dic, deref_ty, isLst, cellP, List.getElem?_cons_zero, List.getElem?_cons_succ, List.getElem?_nil, List.set_cons_zero, List.set_cons_succ, List.map_cons, List.map_nil, List.length_cons, List.length_nil, List.cons_append, List.nil_append, Option.some.injEq, Slot.val.injEq, Slot.own.injEq, PV.int.injEq, PV.bl.injEq, PV.str.injEq, PV.ref.injEq, PV.lst.injEq, PV.tup.injEq, exists_eq_left', exists_eq_left, and_true, true_and, true_or, or_true, and_self, reduceCtorEq, gAdd, gSubI, gMul, gDiv, gMod, gPow, gLt, gLe, gGt, gGe, gIx, gNeg, eqB_int, gEq_int, gNe_int, gEq_str, gNe_str, if_true, if_false, Bool.false_eq_true, Nat.reduceAdd, Nat.zero_add, Bool.not_true, Bool.not_false, atI_c0, atI_c1, atI_c2, e]
    unfold r_put_together_5
    have e : Tw.same.str = Str.ofString "same" := rfl
    simp only [mSeq, mSet, mSetN, mSetX, mExpr, mExprX, mRet, mRetN, mRetX, mIf, mNext, mPass, mBrk, mCnt, mFrz, mAsg, mAsgX, mPar, mParN, mBin, mUn, mArg, mC, mVar, mPeek, mCall, mCons, mNil, mTup, mLst, mBinT, mAsT, mNotT, mAndT, mOrT, mAndE, mOrE, mNotE, mIfE, mChain, mChainT, mSl, mO0, mO1, mIter, mRng1, mRng2, mZip, mEnum, mMut, mMutR, mSubSet, mShare, mMeth, mFor, mLc, mYes, slotV, frzS, tgN, tgT, tgNs, wipeE, retK, mAug, List.foldl_cons, List.foldl_nil, deref_int, deref_str, deref_bl, deref_non, deref_tup, deref_lst, deref_scr, deref_dic, deref_ty, isLst, cellP, List.getElem?_cons_zero, List.getElem?_cons_succ, List.getElem?_nil, List.set_cons_zero, List.set_cons_succ, List.map_cons, List.map_nil, List.length_cons, List.length_nil, List.cons_append, List.nil_append, Option.some.injEq, Slot.val.injEq, Slot.own.injEq, PV.int.injEq, PV.bl.injEq, PV.str.injEq, PV.ref.injEq, PV.lst.injEq, PV.tup.injEq, exists_eq_left', exists_eq_left, and_true, true_and, true_or, or_true, and_self, reduceCtorEq, gAdd, gSubI, gMul, gDiv, gMod, gPow, gLt, gLe, gGt, gGe, gIx, gNeg, eqB_int, gEq_int, gNe_int, gEq_str, gNe_str, if_true, if_false, Bool.false_eq_true, Nat.reduceAdd, Nat.zero_add, Bool.not_true, Bool.not_false, atI_c0, atI_c1, atI_c2, e, decide_true]
    unfold r_put_together_6
    simp only [mSeq, mSet, mSetN, mSetX, mExpr, mExprX, mRet, mRetN, mRetX, mIf, mNext, mPass, mBrk, mCnt, mFrz, mAsg, mAsgX, mPar, mParN, mBin, mUn, mArg, mC, mVar, mPeek, mCall, mCons, mNil, mTup, mLst, mBinT, mAsT, mNotT, mAndT, mOrT, mAndE, mOrE, mNotE, mIfE, mChain, mChainT, mSl, mO0, mO1, mIter, mRng1, mRng2, mZip, mEnum, mMut, mMutR, mSubSet, mShare, mMeth, mFor, mLc, mYes, slotV, frzS, tgN, tgT, tgNs, wipeE, retK, mAug, List.foldl_cons, List.foldl_nil, deref_int, deref_str, deref_bl, deref_non, deref_tup, deref_lst, deref_scr, deref_dic, deref_ty, isLst, cellP, List.getElem?_cons_zero, List.getElem?_cons_succ, List.getElem?_nil, List.set_cons_zero, List.set_cons_succ, List.map_cons, List.map_nil, List.length_cons, List.length_nil, List.cons_append, List.nil_append, Option.some.injEq, Slot.val.injEq, Slot.own.injEq, PV.int.injEq, PV.bl.injEq, PV.str.injEq, PV.ref.injEq, PV.lst.injEq, PV.tup.injEq, exists_eq_left', exists_eq_left, and_true, true_and, true_or, or_true, and_self, reduceCtorEq, gAdd, gSubI, gMul, gDiv, gMod, gPow, gLt, gLe, gGt, gGe, gIx, gNeg, eqB_int, gEq_int, gNe_int, gEq_str, gNe_str, if_true, if_false, Bool.false_eq_true, Nat.reduceAdd, Nat.zero_add, Bool.not_true, Bool.not_false, atI_c0, atI_c1, atI_c2, gInt]
    simp only [comb] at hR
    simp only [decide_eq_true_eq]
    exact hR
  | both =>
    have e : decide (Tw.both.str = Str.ofString "plus") = false := by decide
    simp only [e, Bool.false_eq_true, if_false]
    unfold r_put_together_1
    have e : decide (Tw.both.str = Str.ofString "minus") = false := by decide
    simp only [mSeq, mSet, mSetN, mSetX, mExpr, mExprX, mRet, mRetN, mRetX, mIf, mNext, mPass, mBrk, mCnt, mFrz, mAsg, mAsgX, mPar, mParN, mBin, mUn, mArg, mC, mVar, mPeek, mCall, mCons, mNil, mTup, mLst, mBinT, mAsT, mNotT, mAndT, mOrT, mAndE, mOrE, mNotE, mIfE, mChain, mChainT, mSl, mO0, mO1, mIter, mRng1, mRng2, mZip, mEnum, mMut, mMutR, mSubSet, mShare, mMeth, mFor, mLc, mYes, slotV, frzS, tgN, tgT, tgNs, wipeE, retK, mAug, List.foldl_cons, List.foldl_nil, deref_int, deref_str, deref_bl, deref_non, deref_tup, deref_lst, deref_scr, deref_dic, deref_ty, isLst, cellP, List.getElem?_cons_zero, List.getElem?_cons_succ, List.getElem?_nil, List.set_cons_zero, List.set_cons_succ, List.map_cons, List.map_nil, List.length_cons, List.length_nil, List.cons_append, List.nil_append, Option.some.injEq, Slot.val.injEq, Slot.own.injEq, PV.int.injEq, PV.bl.injEq, PV.str.injEq, PV.ref.injEq, PV.lst.injEq, PV.tup.injEq, exists_eq_left', exists_eq_left, and_true, true_and, true_or, or_true, and_self, reduceCtorEq, gAdd, gSubI, gMul, gDiv, gMod, gPow, gLt, gLe, gGt, gGe, gIx, gNeg, eqB_int, gEq_int, gNe_int, gEq_str, gNe_str, if_true, if_false, Bool.false_eq_true, Nat.reduceAdd, Nat.zero_add, Bool.not_true, Bool.not_false, atI_c0, atI_c1, atI_c2, e]
    unfold r_put_together_3
    have e : decide (Tw.both.str = Str.ofString "less") = false := by decide
    simp only [mSeq, mSet, mSetN, mSetX, mExpr, mExprX, mRet, mRetN, mRetX, mIf, mNext, mPass, mBrk, mCnt, mFrz, mAsg, mAsgX, mPar, mParN, mBin, mUn, mArg, mC, mVar, mPeek, mCall, mCons, mNil, mTup, mLst, mBinT, mAsT, mNotT, mAndT, mOrT, mAndE, mOrE, mNotE, mIfE, mChain, mChainT, mSl, mO0, mO1, mIter, mRng1, mRng2, mZip, mEnum, mMut, mMutR, mSubSet, mShare, mMeth, mFor, mLc, mYes, slotV, frzS, tgN, tgT, tgNs, wipeE, retK, mAug, List.foldl_cons, List.foldl_nil, deref_int, deref_str, deref_bl, deref_non, deref_tup, deref_lst, deref_scr, deref_dic, deref_ty, isLst, cellP, List.getElem?_cons_zero, List.getElem?_cons_succ, List.getElem?_nil, List.set_cons_zero, List.set_cons_succ, List.map_cons, List.map_nil, List.length_cons, List.length_nil, List.cons_append, List.nil_append, Option.some.injEq, Slot.val.injEq, Slot.own.injEq, PV.int.injEq, PV.bl.injEq, PV.str.injEq, PV.ref.injEq, PV.lst.injEq, PV.tup.injEq, exists_eq_left', exists_eq_left, and_true, true_and, true_or, or_true, and_self, reduceCtorEq, gAdd, gSubI, gMul, gDiv, gMod, gPow, gLt, gLe, gGt, gGe, gIx, gNeg, eqB_int, gEq_int, gNe_int, gEq_str, gNe_str, if_true, if_false, Bool.false_eq_true, Nat.reduceAdd, Nat.zero_add, Bool.not_true, Bool.not_false, atI_c0, atI_c1, atI_c2, e]
    unfold r_put_together_5
    have e : decide (Tw.both.str = Str.ofString "same") = false := by decide
    simp only [mSeq, mSet, mSetN, mSetX, mExpr, mExprX, mRet, mRetN, mRetX, mIf, mNext, mPass, mBrk, mCnt, mFrz, mAsg, mAsgX, mPar, mParN, mBin, mUn, mArg, mC, mVar, mPeek, mCall, mCons, mNil, mTup, mLst, mBinT, mAsT, mNotT, mAndT, mOrT, mAndE, mOrE, mNotE, mIfE, mChain, mChainT, mSl, mO0, mO1, mIter, mRng1, mRng2, mZip, mEnum, mMut, mMutR, mSubSet, mShare, mMeth, mFor, mLc, mYes, slotV, frzS, tgN, tgT, tgNs, wipeE, retK, mAug, List.foldl_cons, List.foldl_nil, deref_int, deref_str, deref_bl, deref_non, deref_tup, deref_lst, deref_scr, deref_dic, deref_ty, isLst, cellP, List.getElem?_cons_zero, List.getElem?_cons_succ, List.getElem?_nil, List.set_cons_zero, List.set_cons_succ, List.map_cons, List.map_nil, List.length_cons, List.length_nil, List.cons_append, List.nil_append, Option.some.injEq, Slot.val.injEq, Slot.own.injEq, PV.int.injEq, PV.bl.injEq, PV.str.injEq, PV.ref.injEq, PV.lst.injEq, PV.tup.injEq, exists_eq_left', exists_eq_left, and_true, true_and, true_or, or_true, and_self, reduceCtorEq, gAdd, gSubI, gMul, gDiv, gMod, gPow, gLt, gLe, gGt, gGe, gIx, gNeg, eqB_int, gEq_int, gNe_int, gEq_str, gNe_str, if_true, if_false, Bool.false_eq_true, Nat.reduceAdd, Nat.zero_add, Bool.not_true, Bool.not_false, atI_c0, atI_c1, atI_c2, e]
    unfold r_put_together_7
    simp only [mSeq, mSet, mSetN, mSetX, mExpr, mExprX, mRet, mRetN, mRetX, mIf, mNext, mPass, mBrk, mCnt, mFrz, mAsg, mAsgX, mPar, mParN, mBin, mUn, mArg, mC, mVar, mPeek, mCall, mCons, mNil, mTup, mLst, mBinT, mAsT, mNotT, mAndT, mOrT, mAndE, mOrE, mNotE, mIfE, mChain, mChainT, mSl, mO0, mO1, mIter, mRng1, mRng2, mZip, mEnum, mMut, mMutR, mSubSet, mShare, mMeth, mFor, mLc, mYes, slotV, frzS, tgN, tgT, tgNs, wipeE, retK, mAug, List.foldl_cons, List.foldl_nil, deref_int, deref_str, deref_bl, deref_non, deref_tup, deref_lst, deref_scr, deref_dic, deref_ty, isLst, cellP, List.getElem?_cons_zero, List.getElem?_cons_succ, List.getElem?_nil, List.set_cons_zero, List.set_cons_succ, List.map_cons, List.map_nil, List.length_cons, List.length_nil, List.cons_append, List.nil_append, Option.some.injEq, Slot.val.injEq, Slot.own.injEq, PV.int.injEq, PV.bl.injEq, PV.str.injEq, PV.ref.injEq, PV.lst.injEq, PV.tup.injEq, exists_eq_left', exists_eq_left, and_true, true_and, true_or, or_true, and_self, reduceCtorEq, gAdd, gSubI, gMul, gDiv, gMod, gPow, gLt, gLe, gGt, gGe, gIx, gNeg, eqB_int, gEq_int, gNe_int, gEq_str, gNe_str, if_true, if_false, Bool.false_eq_true, Nat.reduceAdd, Nat.zero_add, Bool.not_true, Bool.not_false, atI_c0, atI_c1, atI_c2]
    simp only [comb] at hR
    by_cases ha : a = 0
    · simp only [ha, decide_true, Bool.not_true, Bool.false_eq_true, if_false, gInt]
      simp only [ha, ne_eq, not_true_eq_false, false_and, if_false] at hR
      exact ⟨_, rfl, hR⟩
    · simp only [ha, decide_false, Bool.not_false, if_true, gInt]
      by_cases hb : b = 0
      · simp only [hb, decide_true, Bool.not_true, Bool.false_eq_true, if_false]
        simp only [hb, ne_eq, not_true_eq_false, and_false, if_false] at hR
        exact ⟨_, rfl, hR⟩
      · simp only [hb, decide_false, Bool.not_false, if_true]
        simp only [ha, hb, ne_eq, not_false_eq_true, and_self, if_true] at hR
        exact ⟨_, rfl, hR⟩
/-- a sum at most j deep -/
def spVal : Nat → FSpec := fun j args et R => ∃ (s : Sm) (ks qs : List (Key × PV)) (th wa : Str → Int), args = [s.pv, .dic ks, .dic qs] ∧ s.dep ≤ j ∧ inD ks qs th wa s ∧ R (.int (ev th wa s)) et
theorem val_ok (j : Nat) (args : List PV) (et : Hi) (R : PV → Hi → Prop) (h : spVal (j + 1) args et R) : r_value_of (spVal j) spPut (env0 N_value_of args) et (retK R) := by
  obtain ⟨s, ks, qs, th, wa, rfl, hj, hi, hR⟩ := h
  show r_value_of (spVal j) spPut [.val s.pv, .val (.dic ks), .val (.dic qs), .no, .no] et (retK R)
  unfold r_value_of
  cases s with
  | val n =>
    have e : gIsi [PV.int n, .ty .str] = some (.bl false) := rfl
    simp only [mSeq, mSet, mSetN, mSetX, mExpr, mExprX, mRet, mRetN, mRetX, mIf, mNext, mPass, mBrk, mCnt, mFrz, mAsg, mAsgX, mPar, mParN, mBin, mUn, mArg, mC, mVar, mPeek, mCall, mCons, mNil, mTup, mLst, mBinT, mAsT, mNotT, mAndT, mOrT, mAndE, mOrE, mNotE, mIfE, mChain, mChainT, mSl, mO0, mO1, mIter, mRng1, mRng2, mZip, mEnum, mMut, mMutR, mSubSet, mShare, mMeth, mFor, mLc, mYes, slotV, frzS, tgN, tgT, tgNs, wipeE, retK, mAug, List.foldl_cons, List.foldl_nil, deref_int, deref_str, deref_bl, deref_non, deref_tup, deref_lst, deref_scr, deref_dic, deref_ty, isLst, cellP, List.getElem?_cons_zero, List.getElem?_cons_succ, List.getElem?_nil, List.set_cons_zero, List.set_cons_succ, List.map_cons, List.map_nil, List.length_cons, List.length_nil, List.cons_append, List.nil_append, Option.some.injEq, Slot.val.injEq, Slot.own.injEq, PV.int.injEq, PV.bl.injEq, PV.str.injEq, PV.ref.injEq, PV.lst.injEq, PV.tup.injEq, exists_eq_left', exists_eq_left, and_true, true_and, true_or, or_true, and_self, reduceCtorEq, gAdd, gSubI, gMul, gDiv, gMod, gPow, gLt, gLe, gGt, gGe, gIx, gNeg, eqB_int, gEq_int, gNe_int, gEq_str, gNe_str, if_true, if_false, Bool.false_eq_true, Nat.reduceAdd, Nat.zero_add, Bool.not_true, Bool.not_false, atI_c0, atI_c1, atI_c2, Sm.pv, e]
    unfold r_value_of_1
    have e : gIsi [PV.int n, .ty .tup] = some (.bl false) := rfl
    simp only [mSeq, mSet, mSetN, mSetX, mExpr, mExprX, mRet, mRetN, mRetX, mIf, mNext, mPass, mBrk, mCnt, mFrz, mAsg, mAsgX, mPar, mParN, mBin, mUn, mArg, mC, mVar, mPeek, mCall, mCons, mNil, mTup, mLst, mBinT, mAsT, mNotT, mAndT, mOrT, mAndE, mOrE, mNotE, mIfE, mChain, mChainT, mSl, mO0, mO1, mIter, mRng1, mRng2, mZip, mEnum, mMut, mMutR, mSubSet, mShare, mMeth, mFor, mLc, mYes, slotV, frzS, tgN, tgT, tgNs, wipeE, retK, mAug, List.foldl_cons, List.foldl_nil, deref_int, deref_str, deref_bl, deref_non, deref_tup, deref_lst, deref_scr, deref_dic, deref_ty, isLst, cellP, List.getElem?_cons_zero, List.getElem?_cons_succ, List.getElem?_nil, List.set_cons_zero, List.set_cons_succ, List.map_cons, List.map_nil, List.length_cons, List.length_nil, List.cons_append, List.nil_append, Option.some.injEq, Slot.val.injEq, Slot.own.injEq, PV.int.injEq, PV.bl.injEq, PV.str.injEq, PV.ref.injEq, PV.lst.injEq, PV.tup.injEq, exists_eq_left', exists_eq_left, and_true, true_and, true_or, or_true, and_self, reduceCtorEq, gAdd, gSubI, gMul, gDiv, gMod, gPow, gLt, gLe, gGt, gGe, gIx, gNeg, eqB_int, gEq_int, gNe_int, gEq_str, gNe_str, if_true, if_false, Bool.false_eq_true, Nat.reduceAdd, Nat.zero_add, Bool.not_true, Bool.not_false, atI_c0, atI_c1, atI_c2, e]
    unfold r_value_of_2
    simp only [mSeq, mSet, mSetN, mSetX, mExpr, mExprX, mRet, mRetN, mRetX, mIf, mNext, mPass, mBrk, mCnt, mFrz, mAsg, mAsgX, mPar, mParN, mBin, mUn, mArg, mC, mVar, mPeek, mCall, mCons, mNil, mTup, mLst, mBinT, mAsT, mNotT, mAndT, mOrT, mAndE, mOrE, mNotE, mIfE, mChain, mChainT, mSl, mO0, mO1, mIter, mRng1, mRng2, mZip, mEnum, mMut, mMutR, mSubSet, mShare, mMeth, mFor, mLc, mYes, slotV, frzS, tgN, tgT, tgNs, wipeE, retK, mAug, List.foldl_cons, List.foldl_nil, deref_int, deref_str, deref_bl, deref_non, deref_tup, deref_lst, deref_scr, deref_dic, deref_ty, isLst, cellP, List.getElem?_cons_zero, List.getElem?_cons_succ, List.getElem?_nil, List.set_cons_zero, List.set_cons_succ, List.map_cons, List.map_nil, List.length_cons, List.length_nil, List.cons_append, List.nil_append, Option.some.injEq, Slot.val.injEq, Slot.own.injEq, PV.int.injEq, PV.bl.injEq, PV.str.injEq, PV.ref.injEq, PV.lst.injEq, PV.tup.injEq, exists_eq_left', exists_eq_left, and_true, true_and, true_or, or_true, and_self, reduceCtorEq, gAdd, gSubI, gMul, gDiv, gMod, gPow, gLt, gLe, gGt, gGe, gIx, gNeg, eqB_int, gEq_int, gNe_int, gEq_str, gNe_str, if_true, if_false, Bool.false_eq_true, Nat.reduceAdd, Nat.zero_add, Bool.not_true, Bool.not_false, atI_c0, atI_c1, atI_c2]
    exact hR
  | wrd x =>
    have e : gIsi [PV.str x, .ty .str] = some (.bl true) := rfl
    simp only [mSeq, mSet, mSetN, mSetX, mExpr, mExprX, mRet, mRetN, mRetX, mIf, mNext, mPass, mBrk, mCnt, mFrz, mAsg, mAsgX, mPar, mParN, mBin, mUn, mArg, mC, mVar, mPeek, mCall, mCons, mNil, mTup, mLst, mBinT, mAsT, mNotT, mAndT, mOrT, mAndE, mOrE, mNotE, mIfE, mChain, mChainT, mSl, mO0, mO1, mIter, mRng1, mRng2, mZip, mEnum, mMut, mMutR, mSubSet, mShare, mMeth, mFor, mLc, mYes, slotV, frzS, tgN, tgT, tgNs, wipeE, retK, mAug, List.foldl_cons, List.foldl_nil, deref_int, deref_str, deref_bl, deref_non, deref_tup, deref_lst, deref_scr, deref_dic, deref_ty, isLst, cellP, List.getElem?_cons_zero, List.getElem?_cons_succ, List.getElem?_nil, List.set_cons_zero, List.set_cons_succ, List.map_cons, List.map_nil, List.length_cons, List.length_nil, List.cons_append, List.nil_append, Option.some.injEq, Slot.val.injEq, Slot.own.injEq, PV.int.injEq, PV.bl.injEq, PV.str.injEq, PV.ref.injEq, PV.lst.injEq, PV.tup.injEq, exists_eq_left', exists_eq_left, and_true, true_and, true_or, or_true, and_self, reduceCtorEq, gAdd, gSubI, gMul, gDiv, gMod, gPow, gLt, gLe, gGt, gGe, gIx, gNeg, eqB_int, gEq_int, gNe_int, gEq_str, gNe_str, if_true, if_false, Bool.false_eq_true, Nat.reduceAdd, Nat.zero_add, Bool.not_true, Bool.not_false, atI_c0, atI_c1, atI_c2, Sm.pv, e]
    unfold r_value_of_0
    have e : gDGet (.dic ks) (.str x) = some (.int (th x)) := hi
    simp only [mSeq, mSet, mSetN, mSetX, mExpr, mExprX, mRet, mRetN, mRetX, mIf, mNext, mPass, mBrk, mCnt, mFrz, mAsg, mAsgX, mPar, mParN, mBin, mUn, mArg, mC, mVar, mPeek, mCall, mCons, mNil, mTup, mLst, mBinT, mAsT, mNotT, mAndT, mOrT, mAndE, mOrE, mNotE, mIfE, mChain, mChainT, mSl, mO0, mO1, mIter, mRng1, mRng2, mZip, mEnum, mMut, mMutR, mSubSet, mShare, mMeth, mFor, mLc, mYes, slotV, frzS, tgN, tgT, tgNs, wipeE, retK, mAug, List.foldl_cons, List.foldl_nil, deref_int, deref_str, deref_bl, deref_non, deref_tup, deref_lst, deref_scr, deref_dic, deref_ty, isLst, cellP, List.getElem?_cons_zero, List.getElem?_cons_succ, List.getElem?_nil, List.set_cons_zero, List.set_cons_succ, List.map_cons, List.map_nil, List.length_cons, List.length_nil, List.cons_append, List.nil_append, Option.some.injEq, Slot.val.injEq, Slot.own.injEq, PV.int.injEq, PV.bl.injEq, PV.str.injEq, PV.ref.injEq, PV.lst.injEq, PV.tup.injEq, exists_eq_left', exists_eq_left, and_true, true_and, true_or, or_true, and_self, reduceCtorEq, gAdd, gSubI, gMul, gDiv, gMod, gPow, gLt, gLe, gGt, gGe, gIx, gNeg, eqB_int, gEq_int, gNe_int, gEq_str, gNe_str, if_true, if_false, Bool.false_eq_true, Nat.reduceAdd, Nat.zero_add, Bool.not_true, Bool.not_false, atI_c0, atI_c1, atI_c2, e]
    exact hR
  | wts x =>
    have e : gIsi [PV.tup [.str "waits", .str x], .ty .str] = some (.bl false) := rfl
    simp only [mSeq, mSet, mSetN, mSetX, mExpr, mExprX, mRet, mRetN, mRetX, mIf, mNext, mPass, mBrk, mCnt, mFrz, mAsg, mAsgX, mPar, mParN, mBin, mUn, mArg, mC, mVar, mPeek, mCall, mCons, mNil, mTup, mLst, mBinT, mAsT, mNotT, mAndT, mOrT, mAndE, mOrE, mNotE, mIfE, mChain, mChainT, mSl, mO0, mO1, mIter, mRng1, mRng2, mZip, mEnum, mMut, mMutR, mSubSet, mShare, mMeth, mFor, mLc, mYes, slotV, frzS, tgN, tgT, tgNs, wipeE, retK, mAug, List.foldl_cons, List.foldl_nil, deref_int, deref_str, deref_bl, deref_non, deref_tup, deref_lst, deref_scr, deref_dic, deref_ty, isLst, cellP, List.getElem?_cons_zero, List.getElem?_cons_succ, List.getElem?_nil, List.set_cons_zero, List.set_cons_succ, List.map_cons, List.map_nil, List.length_cons, List.length_nil, List.cons_append, List.nil_append, Option.some.injEq, Slot.val.injEq, Slot.own.injEq, PV.int.injEq, PV.bl.injEq, PV.str.injEq, PV.ref.injEq, PV.lst.injEq, PV.tup.injEq, exists_eq_left', exists_eq_left, and_true, true_and, true_or, or_true, and_self, reduceCtorEq, gAdd, gSubI, gMul, gDiv, gMod, gPow, gLt, gLe, gGt, gGe, gIx, gNeg, eqB_int, gEq_int, gNe_int, gEq_str, gNe_str, if_true, if_false, Bool.false_eq_true, Nat.reduceAdd, Nat.zero_add, Bool.not_true, Bool.not_false, atI_c0, atI_c1, atI_c2, Sm.pv, e]
    unfold r_value_of_1
    have e : gIsi [PV.tup [.str "waits", .str x], .ty .tup] = some (.bl true) := rfl
    simp only [mSeq, mSet, mSetN, mSetX, mExpr, mExprX, mRet, mRetN, mRetX, mIf, mNext, mPass, mBrk, mCnt, mFrz, mAsg, mAsgX, mPar, mParN, mBin, mUn, mArg, mC, mVar, mPeek, mCall, mCons, mNil, mTup, mLst, mBinT, mAsT, mNotT, mAndT, mOrT, mAndE, mOrE, mNotE, mIfE, mChain, mChainT, mSl, mO0, mO1, mIter, mRng1, mRng2, mZip, mEnum, mMut, mMutR, mSubSet, mShare, mMeth, mFor, mLc, mYes, slotV, frzS, tgN, tgT, tgNs, wipeE, retK, mAug, List.foldl_cons, List.foldl_nil, deref_int, deref_str, deref_bl, deref_non, deref_tup, deref_lst, deref_scr, deref_dic, deref_ty, isLst, cellP, List.getElem?_cons_zero, List.getElem?_cons_succ, List.getElem?_nil, List.set_cons_zero, List.set_cons_succ, List.map_cons, List.map_nil, List.length_cons, List.length_nil, List.cons_append, List.nil_append, Option.some.injEq, Slot.val.injEq, Slot.own.injEq, PV.int.injEq, PV.bl.injEq, PV.str.injEq, PV.ref.injEq, PV.lst.injEq, PV.tup.injEq, exists_eq_left', exists_eq_left, and_true, true_and, true_or, or_true, and_self, reduceCtorEq, gAdd, gSubI, gMul, gDiv, gMod, gPow, gLt, gLe, gGt, gGe, gIx, gNeg, eqB_int, gEq_int, gNe_int, gEq_str, gNe_str, if_true, if_false, Bool.false_eq_true, Nat.reduceAdd, Nat.zero_add, Bool.not_true, Bool.not_false, atI_c0, atI_c1, atI_c2, e]
    unfold r_value_of_3
    simp only [mSeq, mSet, mSetN, mSetX, mExpr, mExprX, mRet, mRetN, mRetX, mIf, mNext, mPass, mBrk, mCnt, mFrz, mAsg, mAsgX, mPar, mParN, mBin, mUn, mArg, mC, mVar, mPeek, mCall, mCons, mNil, mTup, mLst, mBinT, mAsT, mNotT, mAndT, mOrT, mAndE, mOrE, mNotE, mIfE, mChain, mChainT, mSl, mO0, mO1, mIter, mRng1, mRng2, mZip, mEnum, mMut, mMutR, mSubSet, mShare, mMeth, mFor, mLc, mYes, slotV, frzS, tgN, tgT, tgNs, wipeE, retK, mAug, List.foldl_cons, List.foldl_nil, deref_int, deref_str, deref_bl, deref_non, deref_tup, deref_lst, deref_scr, deref_dic, deref_ty, isLst, cellP, List.getElem?_cons_zero, List.getElem?_cons_succ, List.getElem?_nil, List.set_cons_zero, List.set_cons_succ, List.map_cons, List.map_nil, List.length_cons, List.length_nil, List.cons_append, List.nil_append, Option.some.injEq, Slot.val.injEq, Slot.own.injEq, PV.int.injEq, PV.bl.injEq, PV.str.injEq, PV.ref.injEq, PV.lst.injEq, PV.tup.injEq, exists_eq_left', exists_eq_left, and_true, true_and, true_or, or_true, and_self, reduceCtorEq, gAdd, gSubI, gMul, gDiv, gMod, gPow, gLt, gLe, gGt, gGe, gIx, gNeg, eqB_int, gEq_int, gNe_int, gEq_str, gNe_str, if_true, if_false, Bool.false_eq_true, Nat.reduceAdd, Nat.zero_add, Bool.not_true, Bool.not_false, atI_c0, atI_c1, atI_c2, decide_true]
    unfold r_value_of_4
    have e : gDGet (.dic qs) (.str x) = some (.int (wa x)) := hi
    simp only [mSeq, mSet, mSetN, mSetX, mExpr, mExprX, mRet, mRetN, mRetX, mIf, mNext, mPass, mBrk, mCnt, mFrz, mAsg, mAsgX, mPar, mParN, mBin, mUn, mArg, mC, mVar, mPeek, mCall, mCons, mNil, mTup, mLst, mBinT, mAsT, mNotT, mAndT, mOrT, mAndE, mOrE, mNotE, mIfE, mChain, mChainT, mSl, mO0, mO1, mIter, mRng1, mRng2, mZip, mEnum, mMut, mMutR, mSubSet, mShare, mMeth, mFor, mLc, mYes, slotV, frzS, tgN, tgT, tgNs, wipeE, retK, mAug, List.foldl_cons, List.foldl_nil, deref_int, deref_str, deref_bl, deref_non, deref_tup, deref_lst, deref_scr, deref_dic, deref_ty, isLst, cellP, List.getElem?_cons_zero, List.getElem?_cons_succ, List.getElem?_nil, List.set_cons_zero, List.set_cons_succ, List.map_cons, List.map_nil, List.length_cons, List.length_nil, List.cons_append, List.nil_append, Option.some.injEq, Slot.val.injEq, Slot.own.injEq, PV.int.injEq, PV.bl.injEq, PV.str.injEq, PV.ref.injEq, PV.lst.injEq, PV.tup.injEq, exists_eq_left', exists_eq_left, and_true, true_and, true_or, or_true, and_self, reduceCtorEq, gAdd, gSubI, gMul, gDiv, gMod, gPow, gLt, gLe, gGt, gGe, gIx, gNeg, eqB_int, gEq_int, gNe_int, gEq_str, gNe_str, if_true, if_false, Bool.false_eq_true, Nat.reduceAdd, Nat.zero_add, Bool.not_true, Bool.not_false, atI_c0, atI_c1, atI_c2, e, gInt]
    simp only [ev] at hR
    simp only [decide_eq_true_eq]
    exact hR
  | not a =>
    have e : gIsi [PV.tup [.str "not", a.pv], .ty .str] = some (.bl false) := rfl
    simp only [mSeq, mSet, mSetN, mSetX, mExpr, mExprX, mRet, mRetN, mRetX, mIf, mNext, mPass, mBrk, mCnt, mFrz, mAsg, mAsgX, mPar, mParN, mBin, mUn, mArg, mC, mVar, mPeek, mCall, mCons, mNil, mTup, mLst, mBinT, mAsT, mNotT, mAndT, mOrT, mAndE, mOrE, mNotE, mIfE, mChain, mChainT, mSl, mO0, mO1, mIter, mRng1, mRng2, mZip, mEnum, mMut, mMutR, mSubSet, mShare, mMeth, mFor, mLc, mYes, slotV, frzS, tgN, tgT, tgNs, wipeE, retK, mAug, List.foldl_cons, List.foldl_nil, deref_int, deref_str, deref_bl, deref_non, deref_tup, deref_lst, deref_scr, deref_dic, deref_ty, isLst, cellP, List.getElem?_cons_zero, List.getElem?_cons_succ, List.getElem?_nil, List.set_cons_zero, List.set_cons_succ, List.map_cons, List.map_nil, List.length_cons, List.length_nil, List.cons_append, List.nil_append, Option.some.injEq, Slot.val.injEq, Slot.own.injEq, PV.int.injEq, PV.bl.injEq, PV.str.injEq, PV.ref.injEq, PV.lst.injEq, PV.tup.injEq, exists_eq_left', exists_eq_left, and_true, true_and, true_or, or_true, and_self, reduceCtorEq, gAdd, gSubI, gMul, gDiv, gMod, gPow, gLt, gLe, gGt, gGe, gIx, gNeg, eqB_int, gEq_int, gNe_int, gEq_str, gNe_str, if_true, if_false, Bool.false_eq_true, Nat.reduceAdd, Nat.zero_add, Bool.not_true, Bool.not_false, atI_c0, atI_c1, atI_c2, Sm.pv, e]
    unfold r_value_of_1
    have e : gIsi [PV.tup [.str "not", a.pv], .ty .tup] = some (.bl true) := rfl
    simp only [mSeq, mSet, mSetN, mSetX, mExpr, mExprX, mRet, mRetN, mRetX, mIf, mNext, mPass, mBrk, mCnt, mFrz, mAsg, mAsgX, mPar, mParN, mBin, mUn, mArg, mC, mVar, mPeek, mCall, mCons, mNil, mTup, mLst, mBinT, mAsT, mNotT, mAndT, mOrT, mAndE, mOrE, mNotE, mIfE, mChain, mChainT, mSl, mO0, mO1, mIter, mRng1, mRng2, mZip, mEnum, mMut, mMutR, mSubSet, mShare, mMeth, mFor, mLc, mYes, slotV, frzS, tgN, tgT, tgNs, wipeE, retK, mAug, List.foldl_cons, List.foldl_nil, deref_int, deref_str, deref_bl, deref_non, deref_tup, deref_lst, deref_scr, deref_dic, deref_ty, isLst, cellP, List.getElem?_cons_zero, List.getElem?_cons_succ, List.getElem?_nil, List.set_cons_zero, List.set_cons_succ, List.map_cons, List.map_nil, List.length_cons, List.length_nil, List.cons_append, List.nil_append, Option.some.injEq, Slot.val.injEq, Slot.own.injEq, PV.int.injEq, PV.bl.injEq, PV.str.injEq, PV.ref.injEq, PV.lst.injEq, PV.tup.injEq, exists_eq_left', exists_eq_left, and_true, true_and, true_or, or_true, and_self, reduceCtorEq, gAdd, gSubI, gMul, gDiv, gMod, gPow, gLt, gLe, gGt, gGe, gIx, gNeg, eqB_int, gEq_int, gNe_int, gEq_str, gNe_str, if_true, if_false, Bool.false_eq_true, Nat.reduceAdd, Nat.zero_add, Bool.not_true, Bool.not_false, atI_c0, atI_c1, atI_c2, e]
    unfold r_value_of_3
    have e1 : decide (Str.ofString "not" = Str.ofString "waits") = false := by decide
    simp only [mSeq, mSet, mSetN, mSetX, mExpr, mExprX, mRet, mRetN, mRetX, mIf, mNext, mPass, mBrk, mCnt, mFrz, mAsg, mAsgX, mPar, mParN, mBin, mUn, mArg, mC, mVar, mPeek, mCall, mCons, mNil, mTup, mLst, mBinT, mAsT, mNotT, mAndT, mOrT, mAndE, mOrE, mNotE, mIfE, mChain, mChainT, mSl, mO0, mO1, mIter, mRng1, mRng2, mZip, mEnum, mMut, mMutR, mSubSet, mShare, mMeth, mFor, mLc, mYes, slotV, frzS, tgN, tgT, tgNs, wipeE, retK, mAug, List.foldl_cons, List.foldl_nil, deref_int, deref_str, deref_bl, deref_non, deref_tup, deref_lst, deref_scr, deref_dic, deref_ty, isLst, cellP, List.getElem?_cons_zero, List.getElem?_cons_succ, List.getElem?_nil, List.set_cons_zero, List.set_cons_succ, List.map_cons, List.map_nil, List.length_cons, List.length_nil, List.cons_append, List.nil_append, Option.some.injEq, Slot.val.injEq, Slot.own.injEq, PV.int.injEq, PV.bl.injEq, PV.str.injEq, PV.ref.injEq, PV.lst.injEq, PV.tup.injEq, exists_eq_left', exists_eq_left, and_true, true_and, true_or, or_true, and_self, reduceCtorEq, gAdd, gSubI, gMul, gDiv, gMod, gPow, gLt, gLe, gGt, gGe, gIx, gNeg, eqB_int, gEq_int, gNe_int, gEq_str, gNe_str, if_true, if_false, Bool.false_eq_true, Nat.reduceAdd, Nat.zero_add, Bool.not_true, Bool.not_false, atI_c0, atI_c1, atI_c2, e1]
    unfold r_value_of_5
    have esl : gSlA (PV.tup [.str "not", a.pv]) (some 1) none = some (.tup [a.pv]) := rfl
    simp only [mSeq, mSet, mSetN, mSetX, mExpr, mExprX, mRet, mRetN, mRetX, mIf, mNext, mPass, mBrk, mCnt, mFrz, mAsg, mAsgX, mPar, mParN, mBin, mUn, mArg, mC, mVar, mPeek, mCall, mCons, mNil, mTup, mLst, mBinT, mAsT, mNotT, mAndT, mOrT, mAndE, mOrE, mNotE, mIfE, mChain, mChainT, mSl, mO0, mO1, mIter, mRng1, mRng2, mZip, mEnum, mMut, mMutR, mSubSet, mShare, mMeth, mFor, mLc, mYes, slotV, frzS, tgN, tgT, tgNs, wipeE, retK, mAug, List.foldl_cons, List.foldl_nil, deref_int, deref_str, deref_bl, deref_non, deref_tup, deref_lst, deref_scr, deref_dic, deref_ty, isLst, cellP, List.getElem?_cons_zero, List.getElem?_cons_succ, List.getElem?_nil, List.set_cons_zero, List.set_cons_succ, List.map_cons, List.map_nil, List.length_cons, List.length_nil, List.cons_append, List.nil_append, Option.some.injEq, Slot.val.injEq, Slot.own.injEq, PV.int.injEq, PV.bl.injEq, PV.str.injEq, PV.ref.injEq, PV.lst.injEq, PV.tup.injEq, exists_eq_left', exists_eq_left, and_true, true_and, true_or, or_true, and_self, reduceCtorEq, gAdd, gSubI, gMul, gDiv, gMod, gPow, gLt, gLe, gGt, gGe, gIx, gNeg, eqB_int, gEq_int, gNe_int, gEq_str, gNe_str, if_true, if_false, Bool.false_eq_true, Nat.reduceAdd, Nat.zero_add, Bool.not_true, Bool.not_false, atI_c0, atI_c1, atI_c2, esl, itemsP]
    refine lc_rel (rs := [.int (ev th wa a)]) rfl (by show (1 : Nat) ≤ sizeLine; decide) rfl (fun i p r hp hr => ?_) ?_
    · match i, hp, hr with
      | 0, hp, hr =>
        cases hp; cases hr
        refine ⟨_, rfl, fun Q hQ => ?_⟩
        simp only [mSeq, mSet, mSetN, mSetX, mExpr, mExprX, mRet, mRetN, mRetX, mIf, mNext, mPass, mBrk, mCnt, mFrz, mAsg, mAsgX, mPar, mParN, mBin, mUn, mArg, mC, mVar, mPeek, mCall, mCons, mNil, mTup, mLst, mBinT, mAsT, mNotT, mAndT, mOrT, mAndE, mOrE, mNotE, mIfE, mChain, mChainT, mSl, mO0, mO1, mIter, mRng1, mRng2, mZip, mEnum, mMut, mMutR, mSubSet, mShare, mMeth, mFor, mLc, mYes, slotV, frzS, tgN, tgT, tgNs, wipeE, retK, mAug, List.foldl_cons, List.foldl_nil, deref_int, deref_str, deref_bl, deref_non, deref_tup, deref_lst, deref_scr, deref_dic, deref_ty, isLst, cellP, List.getElem?_cons_zero, List.getElem?_cons_succ, List.getElem?_nil, List.set_cons_zero, List.set_cons_succ, List.map_cons, List.map_nil, List.length_cons, List.length_nil, List.cons_append, List.nil_append, Option.some.injEq, Slot.val.injEq, Slot.own.injEq, PV.int.injEq, PV.bl.injEq, PV.str.injEq, PV.ref.injEq, PV.lst.injEq, PV.tup.injEq, exists_eq_left', exists_eq_left, and_true, true_and, true_or, or_true, and_self, reduceCtorEq, gAdd, gSubI, gMul, gDiv, gMod, gPow, gLt, gLe, gGt, gGe, gIx, gNeg, eqB_int, gEq_int, gNe_int, gEq_str, gNe_str, if_true, if_false, Bool.false_eq_true, Nat.reduceAdd, Nat.zero_add, Bool.not_true, Bool.not_false, atI_c0, atI_c1, atI_c2]
        exact ⟨a, ks, qs, th, wa, rfl, by simp [Sm.dep] at hj; omega, hi, hQ⟩
      | i + 1, hp, _ => simp at hp
    · unfold r_value_of_6
      simp only [mSeq, mSet, mSetN, mSetX, mExpr, mExprX, mRet, mRetN, mRetX, mIf, mNext, mPass, mBrk, mCnt, mFrz, mAsg, mAsgX, mPar, mParN, mBin, mUn, mArg, mC, mVar, mPeek, mCall, mCons, mNil, mTup, mLst, mBinT, mAsT, mNotT, mAndT, mOrT, mAndE, mOrE, mNotE, mIfE, mChain, mChainT, mSl, mO0, mO1, mIter, mRng1, mRng2, mZip, mEnum, mMut, mMutR, mSubSet, mShare, mMeth, mFor, mLc, mYes, slotV, frzS, tgN, tgT, tgNs, wipeE, retK, mAug, List.foldl_cons, List.foldl_nil, deref_int, deref_str, deref_bl, deref_non, deref_tup, deref_lst, deref_scr, deref_dic, deref_ty, isLst, cellP, List.getElem?_cons_zero, List.getElem?_cons_succ, List.getElem?_nil, List.set_cons_zero, List.set_cons_succ, List.map_cons, List.map_nil, List.length_cons, List.length_nil, List.cons_append, List.nil_append, Option.some.injEq, Slot.val.injEq, Slot.own.injEq, PV.int.injEq, PV.bl.injEq, PV.str.injEq, PV.ref.injEq, PV.lst.injEq, PV.tup.injEq, exists_eq_left', exists_eq_left, and_true, true_and, true_or, or_true, and_self, reduceCtorEq, gAdd, gSubI, gMul, gDiv, gMod, gPow, gLt, gLe, gGt, gGe, gIx, gNeg, eqB_int, gEq_int, gNe_int, gEq_str, gNe_str, if_true, if_false, Bool.false_eq_true, Nat.reduceAdd, Nat.zero_add, Bool.not_true, Bool.not_false, atI_c0, atI_c1, atI_c2, decide_true]
      unfold r_value_of_7
      simp only [mSeq, mSet, mSetN, mSetX, mExpr, mExprX, mRet, mRetN, mRetX, mIf, mNext, mPass, mBrk, mCnt, mFrz, mAsg, mAsgX, mPar, mParN, mBin, mUn, mArg, mC, mVar, mPeek, mCall, mCons, mNil, mTup, mLst, mBinT, mAsT, mNotT, mAndT, mOrT, mAndE, mOrE, mNotE, mIfE, mChain, mChainT, mSl, mO0, mO1, mIter, mRng1, mRng2, mZip, mEnum, mMut, mMutR, mSubSet, mShare, mMeth, mFor, mLc, mYes, slotV, frzS, tgN, tgT, tgNs, wipeE, retK, mAug, List.foldl_cons, List.foldl_nil, deref_int, deref_str, deref_bl, deref_non, deref_tup, deref_lst, deref_scr, deref_dic, deref_ty, isLst, cellP, List.getElem?_cons_zero, List.getElem?_cons_succ, List.getElem?_nil, List.set_cons_zero, List.set_cons_succ, List.map_cons, List.map_nil, List.length_cons, List.length_nil, List.cons_append, List.nil_append, Option.some.injEq, Slot.val.injEq, Slot.own.injEq, PV.int.injEq, PV.bl.injEq, PV.str.injEq, PV.ref.injEq, PV.lst.injEq, PV.tup.injEq, exists_eq_left', exists_eq_left, and_true, true_and, true_or, or_true, and_self, reduceCtorEq, gAdd, gSubI, gMul, gDiv, gMod, gPow, gLt, gLe, gGt, gGe, gIx, gNeg, eqB_int, gEq_int, gNe_int, gEq_str, gNe_str, if_true, if_false, Bool.false_eq_true, Nat.reduceAdd, Nat.zero_add, Bool.not_true, Bool.not_false, atI_c0, atI_c1, atI_c2, gInt]
      simp only [ev] at hR
      simp only [decide_eq_true_eq]
      exact hR
  | two t a b =>
    have e : gIsi [PV.tup [.str t.str, a.pv, b.pv], .ty .str] = some (.bl false) := rfl
    simp only [mSeq, mSet, mSetN, mSetX, mExpr, mExprX, mRet, mRetN, mRetX, mIf, mNext, mPass, mBrk, mCnt, mFrz, mAsg, mAsgX, mPar, mParN, mBin, mUn, mArg, mC, mVar, mPeek, mCall, mCons, mNil, mTup, mLst, mBinT, mAsT, mNotT, mAndT, mOrT, mAndE, mOrE, mNotE, mIfE, mChain, mChainT, mSl, mO0, mO1, mIter, mRng1, mRng2, mZip, mEnum, mMut, mMutR, mSubSet, mShare, mMeth, mFor, mLc, mYes, slotV, frzS, tgN, tgT, tgNs, wipeE, retK, mAug, List.foldl_cons, List.foldl_nil, deref_int, deref_str, deref_bl, deref_non, deref_tup, deref_lst, deref_scr, deref_dic, deref_ty, isLst, cellP, List.getElem?_cons_zero, List.getElem?_cons_succ, List.getElem?_nil, List.set_cons_zero, List.set_cons_succ, List.map_cons, List.map_nil, List.length_cons, List.length_nil, List.cons_append, List.nil_append, Option.some.injEq, Slot.val.injEq, Slot.own.injEq, PV.int.injEq, PV.bl.injEq, PV.str.injEq, PV.ref.injEq, PV.lst.injEq, PV.tup.injEq, exists_eq_left', exists_eq_left, and_true, true_and, true_or, or_true, and_self, reduceCtorEq, gAdd, gSubI, gMul, gDiv, gMod, gPow, gLt, gLe, gGt, gGe, gIx, gNeg, eqB_int, gEq_int, gNe_int, gEq_str, gNe_str, if_true, if_false, Bool.false_eq_true, Nat.reduceAdd, Nat.zero_add, Bool.not_true, Bool.not_false, atI_c0, atI_c1, atI_c2, Sm.pv, e]
    unfold r_value_of_1
    have e : gIsi [PV.tup [.str t.str, a.pv, b.pv], .ty .tup] = some (.bl true) := rfl
    simp only [mSeq, mSet, mSetN, mSetX, mExpr, mExprX, mRet, mRetN, mRetX, mIf, mNext, mPass, mBrk, mCnt, mFrz, mAsg, mAsgX, mPar, mParN, mBin, mUn, mArg, mC, mVar, mPeek, mCall, mCons, mNil, mTup, mLst, mBinT, mAsT, mNotT, mAndT, mOrT, mAndE, mOrE, mNotE, mIfE, mChain, mChainT, mSl, mO0, mO1, mIter, mRng1, mRng2, mZip, mEnum, mMut, mMutR, mSubSet, mShare, mMeth, mFor, mLc, mYes, slotV, frzS, tgN, tgT, tgNs, wipeE, retK, mAug, List.foldl_cons, List.foldl_nil, deref_int, deref_str, deref_bl, deref_non, deref_tup, deref_lst, deref_scr, deref_dic, deref_ty, isLst, cellP, List.getElem?_cons_zero, List.getElem?_cons_succ, List.getElem?_nil, List.set_cons_zero, List.set_cons_succ, List.map_cons, List.map_nil, List.length_cons, List.length_nil, List.cons_append, List.nil_append, Option.some.injEq, Slot.val.injEq, Slot.own.injEq, PV.int.injEq, PV.bl.injEq, PV.str.injEq, PV.ref.injEq, PV.lst.injEq, PV.tup.injEq, exists_eq_left', exists_eq_left, and_true, true_and, true_or, or_true, and_self, reduceCtorEq, gAdd, gSubI, gMul, gDiv, gMod, gPow, gLt, gLe, gGt, gGe, gIx, gNeg, eqB_int, gEq_int, gNe_int, gEq_str, gNe_str, if_true, if_false, Bool.false_eq_true, Nat.reduceAdd, Nat.zero_add, Bool.not_true, Bool.not_false, atI_c0, atI_c1, atI_c2, e]
    unfold r_value_of_3
    have e1 : decide (t.str = Str.ofString "waits") = false := by cases t <;> decide
    simp only [mSeq, mSet, mSetN, mSetX, mExpr, mExprX, mRet, mRetN, mRetX, mIf, mNext, mPass, mBrk, mCnt, mFrz, mAsg, mAsgX, mPar, mParN, mBin, mUn, mArg, mC, mVar, mPeek, mCall, mCons, mNil, mTup, mLst, mBinT, mAsT, mNotT, mAndT, mOrT, mAndE, mOrE, mNotE, mIfE, mChain, mChainT, mSl, mO0, mO1, mIter, mRng1, mRng2, mZip, mEnum, mMut, mMutR, mSubSet, mShare, mMeth, mFor, mLc, mYes, slotV, frzS, tgN, tgT, tgNs, wipeE, retK, mAug, List.foldl_cons, List.foldl_nil, deref_int, deref_str, deref_bl, deref_non, deref_tup, deref_lst, deref_scr, deref_dic, deref_ty, isLst, cellP, List.getElem?_cons_zero, List.getElem?_cons_succ, List.getElem?_nil, List.set_cons_zero, List.set_cons_succ, List.map_cons, List.map_nil, List.length_cons, List.length_nil, List.cons_append, List.nil_append, Option.some.injEq, Slot.val.injEq, Slot.own.injEq, PV.int.injEq, PV.bl.injEq, PV.str.injEq, PV.ref.injEq, PV.lst.injEq, PV.tup.injEq, exists_eq_left', exists_eq_left, and_true, true_and, true_or, or_true, and_self, reduceCtorEq, gAdd, gSubI, gMul, gDiv, gMod, gPow, gLt, gLe, gGt, gGe, gIx, gNeg, eqB_int, gEq_int, gNe_int, gEq_str, gNe_str, if_true, if_false, Bool.false_eq_true, Nat.reduceAdd, Nat.zero_add, Bool.not_true, Bool.not_false, atI_c0, atI_c1, atI_c2, e1]
    unfold r_value_of_5
    have esl : gSlA (PV.tup [.str t.str, a.pv, b.pv]) (some 1) none = some (.tup [a.pv, b.pv]) := rfl
    simp only [mSeq, mSet, mSetN, mSetX, mExpr, mExprX, mRet, mRetN, mRetX, mIf, mNext, mPass, mBrk, mCnt, mFrz, mAsg, mAsgX, mPar, mParN, mBin, mUn, mArg, mC, mVar, mPeek, mCall, mCons, mNil, mTup, mLst, mBinT, mAsT, mNotT, mAndT, mOrT, mAndE, mOrE, mNotE, mIfE, mChain, mChainT, mSl, mO0, mO1, mIter, mRng1, mRng2, mZip, mEnum, mMut, mMutR, mSubSet, mShare, mMeth, mFor, mLc, mYes, slotV, frzS, tgN, tgT, tgNs, wipeE, retK, mAug, List.foldl_cons, List.foldl_nil, deref_int, deref_str, deref_bl, deref_non, deref_tup, deref_lst, deref_scr, deref_dic, deref_ty, isLst, cellP, List.getElem?_cons_zero, List.getElem?_cons_succ, List.getElem?_nil, List.set_cons_zero, List.set_cons_succ, List.map_cons, List.map_nil, List.length_cons, List.length_nil, List.cons_append, List.nil_append, Option.some.injEq, Slot.val.injEq, Slot.own.injEq, PV.int.injEq, PV.bl.injEq, PV.str.injEq, PV.ref.injEq, PV.lst.injEq, PV.tup.injEq, exists_eq_left', exists_eq_left, and_true, true_and, true_or, or_true, and_self, reduceCtorEq, gAdd, gSubI, gMul, gDiv, gMod, gPow, gLt, gLe, gGt, gGe, gIx, gNeg, eqB_int, gEq_int, gNe_int, gEq_str, gNe_str, if_true, if_false, Bool.false_eq_true, Nat.reduceAdd, Nat.zero_add, Bool.not_true, Bool.not_false, atI_c0, atI_c1, atI_c2, esl, itemsP]
    refine lc_rel (rs := [.int (ev th wa a), .int (ev th wa b)]) rfl (by show (2 : Nat) ≤ sizeLine; decide) rfl (fun i p r hp hr => ?_) ?_
    · match i, hp, hr with
      | 0, hp, hr =>
        cases hp; cases hr
        refine ⟨_, rfl, fun Q hQ => ?_⟩
        simp only [mSeq, mSet, mSetN, mSetX, mExpr, mExprX, mRet, mRetN, mRetX, mIf, mNext, mPass, mBrk, mCnt, mFrz, mAsg, mAsgX, mPar, mParN, mBin, mUn, mArg, mC, mVar, mPeek, mCall, mCons, mNil, mTup, mLst, mBinT, mAsT, mNotT, mAndT, mOrT, mAndE, mOrE, mNotE, mIfE, mChain, mChainT, mSl, mO0, mO1, mIter, mRng1, mRng2, mZip, mEnum, mMut, mMutR, mSubSet, mShare, mMeth, mFor, mLc, mYes, slotV, frzS, tgN, tgT, tgNs, wipeE, retK, mAug, List.foldl_cons, List.foldl_nil, deref_int, deref_str, deref_bl, deref_non, deref_tup, deref_lst, deref_scr, deref_dic, deref_ty, isLst, cellP, List.getElem?_cons_zero, List.getElem?_cons_succ, List.getElem?_nil, List.set_cons_zero, List.set_cons_succ, List.map_cons, List.map_nil, List.length_cons, List.length_nil, List.cons_append, List.nil_append, Option.some.injEq, Slot.val.injEq, Slot.own.injEq, PV.int.injEq, PV.bl.injEq, PV.str.injEq, PV.ref.injEq, PV.lst.injEq, PV.tup.injEq, exists_eq_left', exists_eq_left, and_true, true_and, true_or, or_true, and_self, reduceCtorEq, gAdd, gSubI, gMul, gDiv, gMod, gPow, gLt, gLe, gGt, gGe, gIx, gNeg, eqB_int, gEq_int, gNe_int, gEq_str, gNe_str, if_true, if_false, Bool.false_eq_true, Nat.reduceAdd, Nat.zero_add, Bool.not_true, Bool.not_false, atI_c0, atI_c1, atI_c2]
        exact ⟨a, ks, qs, th, wa, rfl, by simp [Sm.dep] at hj; omega, hi.1, hQ⟩
      | 1, hp, hr =>
        cases hp; cases hr
        refine ⟨_, rfl, fun Q hQ => ?_⟩
        simp only [mSeq, mSet, mSetN, mSetX, mExpr, mExprX, mRet, mRetN, mRetX, mIf, mNext, mPass, mBrk, mCnt, mFrz, mAsg, mAsgX, mPar, mParN, mBin, mUn, mArg, mC, mVar, mPeek, mCall, mCons, mNil, mTup, mLst, mBinT, mAsT, mNotT, mAndT, mOrT, mAndE, mOrE, mNotE, mIfE, mChain, mChainT, mSl, mO0, mO1, mIter, mRng1, mRng2, mZip, mEnum, mMut, mMutR, mSubSet, mShare, mMeth, mFor, mLc, mYes, slotV, frzS, tgN, tgT, tgNs, wipeE, retK, mAug, List.foldl_cons, List.foldl_nil, deref_int, deref_str, deref_bl, deref_non, deref_tup, deref_lst, deref_scr, deref_dic, deref_ty, isLst, cellP, List.getElem?_cons_zero, List.getElem?_cons_succ, List.getElem?_nil, List.set_cons_zero, List.set_cons_succ, List.map_cons, List.map_nil, List.length_cons, List.length_nil, List.cons_append, List.nil_append, Option.some.injEq, Slot.val.injEq, Slot.own.injEq, PV.int.injEq, PV.bl.injEq, PV.str.injEq, PV.ref.injEq, PV.lst.injEq, PV.tup.injEq, exists_eq_left', exists_eq_left, and_true, true_and, true_or, or_true, and_self, reduceCtorEq, gAdd, gSubI, gMul, gDiv, gMod, gPow, gLt, gLe, gGt, gGe, gIx, gNeg, eqB_int, gEq_int, gNe_int, gEq_str, gNe_str, if_true, if_false, Bool.false_eq_true, Nat.reduceAdd, Nat.zero_add, Bool.not_true, Bool.not_false, atI_c0, atI_c1, atI_c2]
        exact ⟨b, ks, qs, th, wa, rfl, by simp [Sm.dep] at hj; omega, hi.2, hQ⟩
      | i + 2, hp, _ => simp at hp
    · unfold r_value_of_6
      have e2 : decide (t.str = Str.ofString "not") = false := by cases t <;> decide
      simp only [mSeq, mSet, mSetN, mSetX, mExpr, mExprX, mRet, mRetN, mRetX, mIf, mNext, mPass, mBrk, mCnt, mFrz, mAsg, mAsgX, mPar, mParN, mBin, mUn, mArg, mC, mVar, mPeek, mCall, mCons, mNil, mTup, mLst, mBinT, mAsT, mNotT, mAndT, mOrT, mAndE, mOrE, mNotE, mIfE, mChain, mChainT, mSl, mO0, mO1, mIter, mRng1, mRng2, mZip, mEnum, mMut, mMutR, mSubSet, mShare, mMeth, mFor, mLc, mYes, slotV, frzS, tgN, tgT, tgNs, wipeE, retK, mAug, List.foldl_cons, List.foldl_nil, deref_int, deref_str, deref_bl, deref_non, deref_tup, deref_lst, deref_scr, deref_dic, deref_ty, isLst, cellP, List.getElem?_cons_zero, List.getElem?_cons_succ, List.getElem?_nil, List.set_cons_zero, List.set_cons_succ, List.map_cons, List.map_nil, List.length_cons, List.length_nil, List.cons_append, List.nil_append, Option.some.injEq, Slot.val.injEq, Slot.own.injEq, PV.int.injEq, PV.bl.injEq, PV.str.injEq, PV.ref.injEq, PV.lst.injEq, PV.tup.injEq, exists_eq_left', exists_eq_left, and_true, true_and, true_or, or_true, and_self, reduceCtorEq, gAdd, gSubI, gMul, gDiv, gMod, gPow, gLt, gLe, gGt, gGe, gIx, gNeg, eqB_int, gEq_int, gNe_int, gEq_str, gNe_str, if_true, if_false, Bool.false_eq_true, Nat.reduceAdd, Nat.zero_add, Bool.not_true, Bool.not_false, atI_c0, atI_c1, atI_c2, e2]
      unfold r_value_of_8
      simp only [mSeq, mSet, mSetN, mSetX, mExpr, mExprX, mRet, mRetN, mRetX, mIf, mNext, mPass, mBrk, mCnt, mFrz, mAsg, mAsgX, mPar, mParN, mBin, mUn, mArg, mC, mVar, mPeek, mCall, mCons, mNil, mTup, mLst, mBinT, mAsT, mNotT, mAndT, mOrT, mAndE, mOrE, mNotE, mIfE, mChain, mChainT, mSl, mO0, mO1, mIter, mRng1, mRng2, mZip, mEnum, mMut, mMutR, mSubSet, mShare, mMeth, mFor, mLc, mYes, slotV, frzS, tgN, tgT, tgNs, wipeE, retK, mAug, List.foldl_cons, List.foldl_nil, deref_int, deref_str, deref_bl, deref_non, deref_tup, deref_lst, deref_scr, deref_dic, deref_ty, isLst, cellP, List.getElem?_cons_zero, List.getElem?_cons_succ, List.getElem?_nil, List.set_cons_zero, List.set_cons_succ, List.map_cons, List.map_nil, List.length_cons, List.length_nil, List.cons_append, List.nil_append, Option.some.injEq, Slot.val.injEq, Slot.own.injEq, PV.int.injEq, PV.bl.injEq, PV.str.injEq, PV.ref.injEq, PV.lst.injEq, PV.tup.injEq, exists_eq_left', exists_eq_left, and_true, true_and, true_or, or_true, and_self, reduceCtorEq, gAdd, gSubI, gMul, gDiv, gMod, gPow, gLt, gLe, gGt, gGe, gIx, gNeg, eqB_int, gEq_int, gNe_int, gEq_str, gNe_str, if_true, if_false, Bool.false_eq_true, Nat.reduceAdd, Nat.zero_add, Bool.not_true, Bool.not_false, atI_c0, atI_c1, atI_c2]
      exact ⟨t, _, _, rfl, hR⟩
end Vl

namespace Wb
open PySem L2 Mw Lw
def r_parts_of_0 : SM := (mRet (mTup mNil))
def r_parts_of_1 : SM := (mRet (mSl gSlA (mPeek 0) (mO1 (mC (.int 1))) mO0))
def r_parts_of : SM := (mSeq (mIf (mOrT (mNotT (mAsT (mArg gIsi (mCons (mPeek 0) (mCons (mC (.ty .tup)) mNil))))) (mBinT gEq (mBin gIx (mPeek 0) (mC (.int 0))) (mC (.str "waits")))) (r_parts_of_0) mNext) (r_parts_of_1))
abbrev N_parts_of : List Str := ["told"]
def r_words_in_0 : SM := (mRet (mLst (mCons (mVar 0) mNil)))
def r_words_in_3 (S_words_in : FSpec) : SM := (mExprX (mMut 1 gmExtend (mCons (mCall 1 S_words_in (mCons (mVar 2) mNil)) mNil)))
def r_words_in_4 : SM := (mFrz [1] (mRet (mVar 1)))
def r_words_in_2 (S_parts_of : FSpec) (S_words_in : FSpec) : SM := (mSeq (mFor (mIter (mCall 1 S_parts_of (mCons (mVar 0) mNil))) (tgN 2) (r_words_in_3 S_words_in)) (r_words_in_4))
def r_words_in_1 (S_parts_of : FSpec) (S_words_in : FSpec) : SM := (mSeq (mSetN 1 (mLst mNil)) (r_words_in_2 S_parts_of S_words_in))
def r_words_in (S_parts_of : FSpec) (S_words_in : FSpec) : SM := (mSeq (mIf (mAsT (mArg gIsi (mCons (mPeek 0) (mCons (mC (.ty .str)) mNil)))) (r_words_in_0) mNext) (r_words_in_1 S_parts_of S_words_in))
abbrev N_words_in : List Str := ["told", "found", "part"]
def r_bells_in_0 : SM := (mRet (mLst (mCons (mBin gIx (mPeek 0) (mC (.int 1))) mNil)))
def r_bells_in_3 (S_bells_in : FSpec) : SM := (mExprX (mMut 1 gmExtend (mCons (mCall 1 S_bells_in (mCons (mVar 2) mNil)) mNil)))
def r_bells_in_4 : SM := (mFrz [1] (mRet (mVar 1)))
def r_bells_in_2 (S_parts_of : FSpec) (S_bells_in : FSpec) : SM := (mSeq (mFor (mIter (mCall 1 S_parts_of (mCons (mVar 0) mNil))) (tgN 2) (r_bells_in_3 S_bells_in)) (r_bells_in_4))
def r_bells_in_1 (S_parts_of : FSpec) (S_bells_in : FSpec) : SM := (mSeq (mSetN 1 (mLst mNil)) (r_bells_in_2 S_parts_of S_bells_in))
def r_bells_in (S_parts_of : FSpec) (S_bells_in : FSpec) : SM := (mSeq (mIf (mAndT (mAsT (mArg gIsi (mCons (mPeek 0) (mCons (mC (.ty .tup)) mNil)))) (mBinT gEq (mBin gIx (mPeek 0) (mC (.int 0))) (mC (.str "waits")))) (r_bells_in_0) mNext) (r_bells_in_1 S_parts_of S_bells_in))
abbrev N_bells_in : List Str := ["told", "found", "part"]
def r_words_of (S_words_in : FSpec) : SM := (mRet (mArg gTuple (mCons (mUn gSortedSet (mCall 1 S_words_in (mCons (mVar 0) mNil))) mNil)))
abbrev N_words_of : List Str := ["told"]
def r_bells_of (S_bells_in : FSpec) : SM := (mRet (mArg gTuple (mCons (mUn gSortedSet (mCall 1 S_bells_in (mCons (mVar 0) mNil))) mNil)))
abbrev N_bells_of : List Str := ["told"]
def wordsL : Sm → List Str
  | .val _ => []
  | .wrd x => [x]
  | .wts _ => []
  | .not a => wordsL a
  | .two _ a b => wordsL a ++ wordsL b
def bellsL : Sm → List Str
  | .val _ => []
  | .wrd _ => []
  | .wts x => [x]
  | .not a => bellsL a
  | .two _ a b => bellsL a ++ bellsL b
def partsL : Sm → List Sm
  | .not a => [a]
  | .two _ a b => [a, b]
  | _ => []
theorem parts_dep {s a : Sm} (h : a ∈ partsL s) : a.dep + 1 ≤ s.dep := by
  cases s <;> simp [partsL, Sm.dep] at h ⊢
  · subst h; omega
  · rcases h with rfl | rfl <;> omega
theorem parts_words (s : Sm) : (∀ x, s ≠ .wrd x) → wordsL s = (partsL s).flatMap wordsL := fun h => by
  cases s <;> simp [partsL, wordsL]
  exact h _ rfl
theorem parts_bells (s : Sm) : (∀ x, s ≠ .wts x) → bellsL s = (partsL s).flatMap bellsL := fun h => by
  cases s <;> simp [partsL, bellsL]
  exact h _ rfl
/-- leaves -/
def lvs : Sm → Nat
  | .not a => lvs a
  | .two _ a b => lvs a + lvs b
  | _ => 1
theorem lvs_dep : ∀ s : Sm, lvs s ≤ 2 ^ (s.dep - 1)
  | .val _ => Nat.le_refl _
  | .wrd _ => Nat.le_refl _
  | .wts _ => Nat.le_refl _
  | .not a => Nat.le_trans (lvs_dep a) (Nat.pow_le_pow_right (by decide) (by simp [Sm.dep]))
  | .two _ a b => by
    have h1 := lvs_dep a
    have h2 := lvs_dep b
    have e : (Sm.two ‹_› a b).dep - 1 = max a.dep b.dep := rfl
    have ha : 1 ≤ a.dep := by cases a <;> simp [Sm.dep]
    have h3 : 2 ^ (a.dep - 1) ≤ 2 ^ (max a.dep b.dep - 1) := Nat.pow_le_pow_right (by decide) (by omega)
    have h4 : 2 ^ (b.dep - 1) ≤ 2 ^ (max a.dep b.dep - 1) := Nat.pow_le_pow_right (by decide) (by omega)
    have h5 : 2 ^ (max a.dep b.dep) = 2 * 2 ^ (max a.dep b.dep - 1) := by
      have : max a.dep b.dep = (max a.dep b.dep - 1) + 1 := by omega
      rw [this, Nat.pow_succ]; simp [Nat.mul_comm]
    show lvs a + lvs b ≤ 2 ^ (max a.dep b.dep)
    omega
theorem words_len : ∀ s : Sm, (wordsL s).length ≤ lvs s
  | .val _ => Nat.zero_le _
  | .wrd _ => Nat.le_refl _
  | .wts _ => Nat.zero_le _
  | .not a => words_len a
  | .two _ a b => by rw [wordsL, List.length_append]; exact Nat.add_le_add (words_len a) (words_len b)
theorem bells_len : ∀ s : Sm, (bellsL s).length ≤ lvs s
  | .val _ => Nat.zero_le _
  | .wrd _ => Nat.zero_le _
  | .wts _ => Nat.le_refl _
  | .not a => bells_len a
  | .two _ a b => by rw [bellsL, List.length_append]; exact Nat.add_le_add (bells_len a) (bells_len b)
theorem lvs_small {s : Sm} (h : s.dep ≤ 5) : lvs s ≤ 16 := Nat.le_trans (lvs_dep s) (Nat.le_trans (Nat.pow_le_pow_right (by decide) (show s.dep - 1 ≤ 4 by omega)) (by decide))
def spParts : FSpec := fun args et R => ∃ s : Sm, args = [s.pv] ∧ R (.tup ((partsL s).map Sm.pv)) et
theorem parts_ok (args : List PV) (et : Hi) (R : PV → Hi → Prop) (h : spParts args et R) : r_parts_of (env0 N_parts_of args) et (retK R) := by
  obtain ⟨s, rfl, hR⟩ := h
  show r_parts_of [.val s.pv] et (retK R)
  unfold r_parts_of
  have flat : ∀ p : PV, deref et p = p → gIsi [p, .ty .tup] = some (.bl false) → R (.tup []) et → (mIf (mOrT (mNotT (mAsT (mArg gIsi (mCons (mPeek 0) (mCons (mC (.ty .tup)) mNil))))) (mBinT gEq (mBin gIx (mPeek 0) (mC (.int 0))) (mC (.str "waits")))) (r_parts_of_0) mNext) [.val p] et (fun f ep1 et1 => match f with
      | .nx => r_parts_of_1 ep1 et1 (retK R)
      | f => retK R f ep1 et1) := fun p hp e hR => by
    simp only [mSeq, mSet, mSetN, mSetX, mExpr, mExprX, mRet, mRetN, mRetX, mIf, mNext, mPass, mBrk, mCnt, mFrz, mAsg, mAsgX, mPar, mParN, mBin, mUn, mArg, mC, mVar, mPeek, mCall, mCons, mNil, mTup, mLst, mBinT, mAsT, mNotT, mAndT, mOrT, mAndE, mOrE, mNotE, mIfE, mChain, mChainT, mSl, mO0, mO1, mIter, mRng1, mRng2, mZip, mEnum, mMut, mMutR, mSubSet, mShare, mMeth, mFor, mLc, mYes, slotV, frzS, tgN, tgT, tgNs, wipeE, retK, mAug, List.foldl_cons, List.foldl_nil, deref_int, deref_str, deref_bl, deref_non, deref_tup, deref_lst, deref_scr, deref_dic, deref_ty, isLst, cellP, List.getElem?_cons_zero, List.getElem?_cons_succ, List.getElem?_nil, List.set_cons_zero, List.set_cons_succ, List.map_cons, List.map_nil, List.length_cons, List.length_nil, List.cons_append, List.nil_append, Option.some.injEq, Slot.val.injEq, Slot.own.injEq, PV.int.injEq, PV.bl.injEq, PV.str.injEq, PV.ref.injEq, PV.lst.injEq, PV.tup.injEq, exists_eq_left', exists_eq_left, and_true, true_and, true_or, or_true, and_self, reduceCtorEq, gAdd, gSubI, gMul, gDiv, gMod, gPow, gLt, gLe, gGt, gGe, gIx, gNeg, eqB_int, gEq_int, gNe_int, gEq_str, gNe_str, if_true, if_false, Bool.false_eq_true, Nat.reduceAdd, Nat.zero_add, Bool.not_true, Bool.not_false, atI_c0, atI_c1, atI_c2, hp, e]
    unfold r_parts_of_0
    simp only [mSeq, mSet, mSetN, mSetX, mExpr, mExprX, mRet, mRetN, mRetX, mIf, mNext, mPass, mBrk, mCnt, mFrz, mAsg, mAsgX, mPar, mParN, mBin, mUn, mArg, mC, mVar, mPeek, mCall, mCons, mNil, mTup, mLst, mBinT, mAsT, mNotT, mAndT, mOrT, mAndE, mOrE, mNotE, mIfE, mChain, mChainT, mSl, mO0, mO1, mIter, mRng1, mRng2, mZip, mEnum, mMut, mMutR, mSubSet, mShare, mMeth, mFor, mLc, mYes, slotV, frzS, tgN, tgT, tgNs, wipeE, retK, mAug, List.foldl_cons, List.foldl_nil, deref_int, deref_str, deref_bl, deref_non, deref_tup, deref_lst, deref_scr, deref_dic, deref_ty, isLst, cellP, List.getElem?_cons_zero, List.getElem?_cons_succ, List.getElem?_nil, List.set_cons_zero, List.set_cons_succ, List.map_cons, List.map_nil, List.length_cons, List.length_nil, List.cons_append, List.nil_append, Option.some.injEq, Slot.val.injEq, Slot.own.injEq, PV.int.injEq, PV.bl.injEq, PV.str.injEq, PV.ref.injEq, PV.lst.injEq, PV.tup.injEq, exists_eq_left', exists_eq_left, and_true, true_and, true_or, or_true, and_self, reduceCtorEq, gAdd, gSubI, gMul, gDiv, gMod, gPow, gLt, gLe, gGt, gGe, gIx, gNeg, eqB_int, gEq_int, gNe_int, gEq_str, gNe_str, if_true, if_false, Bool.false_eq_true, Nat.reduceAdd, Nat.zero_add, Bool.not_true, Bool.not_false, atI_c0, atI_c1, atI_c2]
    exact ⟨by decide, hR⟩
  cases s with
  | val n => exact flat (.int n) rfl rfl hR
  | wrd x => exact flat (.str x) rfl rfl hR
  | wts x =>
    have e : gIsi [PV.tup [.str "waits", .str x], .ty .tup] = some (.bl true) := rfl
    simp only [mSeq, mSet, mSetN, mSetX, mExpr, mExprX, mRet, mRetN, mRetX, mIf, mNext, mPass, mBrk, mCnt, mFrz, mAsg, mAsgX, mPar, mParN, mBin, mUn, mArg, mC, mVar, mPeek, mCall, mCons, mNil, mTup, mLst, mBinT, mAsT, mNotT, mAndT, mOrT, mAndE, mOrE, mNotE, mIfE, mChain, mChainT, mSl, mO0, mO1, mIter, mRng1, mRng2, mZip, mEnum, mMut, mMutR, mSubSet, mShare, mMeth, mFor, mLc, mYes, slotV, frzS, tgN, tgT, tgNs, wipeE, retK, mAug, List.foldl_cons, List.foldl_nil, deref_int, deref_str, deref_bl, deref_non, deref_tup, deref_lst, deref_scr, deref_dic, deref_ty, isLst, cellP, List.getElem?_cons_zero, List.getElem?_cons_succ, List.getElem?_nil, List.set_cons_zero, List.set_cons_succ, List.map_cons, List.map_nil, List.length_cons, List.length_nil, List.cons_append, List.nil_append, Option.some.injEq, Slot.val.injEq, Slot.own.injEq, PV.int.injEq, PV.bl.injEq, PV.str.injEq, PV.ref.injEq, PV.lst.injEq, PV.tup.injEq, exists_eq_left', exists_eq_left, and_true, true_and, true_or, or_true, and_self, reduceCtorEq, gAdd, gSubI, gMul, gDiv, gMod, gPow, gLt, gLe, gGt, gGe, gIx, gNeg, eqB_int, gEq_int, gNe_int, gEq_str, gNe_str, if_true, if_false, Bool.false_eq_true, Nat.reduceAdd, Nat.zero_add, Bool.not_true, Bool.not_false, atI_c0, atI_c1, atI_c2, Sm.pv, e, decide_true]
    unfold r_parts_of_0
    simp only [mSeq, mSet, mSetN, mSetX, mExpr, mExprX, mRet, mRetN, mRetX, mIf, mNext, mPass, mBrk, mCnt, mFrz, mAsg, mAsgX, mPar, mParN, mBin, mUn, mArg, mC, mVar, mPeek, mCall, mCons, mNil, mTup, mLst, mBinT, mAsT, mNotT, mAndT, mOrT, mAndE, mOrE, mNotE, mIfE, mChain, mChainT, mSl, mO0, mO1, mIter, mRng1, mRng2, mZip, mEnum, mMut, mMutR, mSubSet, mShare, mMeth, mFor, mLc, mYes, slotV, frzS, tgN, tgT, tgNs, wipeE, retK, mAug, List.foldl_cons, List.foldl_nil, deref_int, deref_str, deref_bl, deref_non, deref_tup, deref_lst, deref_scr, deref_dic, deref_ty, isLst, cellP, List.getElem?_cons_zero, List.getElem?_cons_succ, List.getElem?_nil, List.set_cons_zero, List.set_cons_succ, List.map_cons, List.map_nil, List.length_cons, List.length_nil, List.cons_append, List.nil_append, Option.some.injEq, Slot.val.injEq, Slot.own.injEq, PV.int.injEq, PV.bl.injEq, PV.str.injEq, PV.ref.injEq, PV.lst.injEq, PV.tup.injEq, exists_eq_left', exists_eq_left, and_true, true_and, true_or, or_true, and_self, reduceCtorEq, gAdd, gSubI, gMul, gDiv, gMod, gPow, gLt, gLe, gGt, gGe, gIx, gNeg, eqB_int, gEq_int, gNe_int, gEq_str, gNe_str, if_true, if_false, Bool.false_eq_true, Nat.reduceAdd, Nat.zero_add, Bool.not_true, Bool.not_false, atI_c0, atI_c1, atI_c2]
    exact ⟨by decide, hR⟩
  | not a =>
    have e : gIsi [PV.tup [.str "not", a.pv], .ty .tup] = some (.bl true) := rfl
    have e1 : decide (Str.ofString "not" = Str.ofString "waits") = false := by decide
    simp only [mSeq, mSet, mSetN, mSetX, mExpr, mExprX, mRet, mRetN, mRetX, mIf, mNext, mPass, mBrk, mCnt, mFrz, mAsg, mAsgX, mPar, mParN, mBin, mUn, mArg, mC, mVar, mPeek, mCall, mCons, mNil, mTup, mLst, mBinT, mAsT, mNotT, mAndT, mOrT, mAndE, mOrE, mNotE, mIfE, mChain, mChainT, mSl, mO0, mO1, mIter, mRng1, mRng2, mZip, mEnum, mMut, mMutR, mSubSet, mShare, mMeth, mFor, mLc, mYes, slotV, frzS, tgN, tgT, tgNs, wipeE, retK, mAug, List.foldl_cons, List.foldl_nil, deref_int, deref_str, deref_bl, deref_non, deref_tup, deref_lst, deref_scr, deref_dic, deref_ty, isLst, cellP, List.getElem?_cons_zero, List.getElem?_cons_succ, List.getElem?_nil, List.set_cons_zero, List.set_cons_succ, List.map_cons, List.map_nil, List.length_cons, List.length_nil, List.cons_append, List.nil_append, Option.some.injEq, Slot.val.injEq, Slot.own.injEq, PV.int.injEq, PV.bl.injEq, PV.str.injEq, PV.ref.injEq, PV.lst.injEq, PV.tup.injEq, exists_eq_left', exists_eq_left, and_true, true_and, true_or, or_true, and_self, reduceCtorEq, gAdd, gSubI, gMul, gDiv, gMod, gPow, gLt, gLe, gGt, gGe, gIx, gNeg, eqB_int, gEq_int, gNe_int, gEq_str, gNe_str, if_true, if_false, Bool.false_eq_true, Nat.reduceAdd, Nat.zero_add, Bool.not_true, Bool.not_false, atI_c0, atI_c1, atI_c2, Sm.pv, e, e1]
    unfold r_parts_of_1
    have esl : gSlA (PV.tup [.str "not", a.pv]) (some 1) none = some (.tup [a.pv]) := rfl
    simp only [mSeq, mSet, mSetN, mSetX, mExpr, mExprX, mRet, mRetN, mRetX, mIf, mNext, mPass, mBrk, mCnt, mFrz, mAsg, mAsgX, mPar, mParN, mBin, mUn, mArg, mC, mVar, mPeek, mCall, mCons, mNil, mTup, mLst, mBinT, mAsT, mNotT, mAndT, mOrT, mAndE, mOrE, mNotE, mIfE, mChain, mChainT, mSl, mO0, mO1, mIter, mRng1, mRng2, mZip, mEnum, mMut, mMutR, mSubSet, mShare, mMeth, mFor, mLc, mYes, slotV, frzS, tgN, tgT, tgNs, wipeE, retK, mAug, List.foldl_cons, List.foldl_nil, deref_int, deref_str, deref_bl, deref_non, deref_tup, deref_lst, deref_scr, deref_dic, deref_ty, isLst, cellP, List.getElem?_cons_zero, List.getElem?_cons_succ, List.getElem?_nil, List.set_cons_zero, List.set_cons_succ, List.map_cons, List.map_nil, List.length_cons, List.length_nil, List.cons_append, List.nil_append, Option.some.injEq, Slot.val.injEq, Slot.own.injEq, PV.int.injEq, PV.bl.injEq, PV.str.injEq, PV.ref.injEq, PV.lst.injEq, PV.tup.injEq, exists_eq_left', exists_eq_left, and_true, true_and, true_or, or_true, and_self, reduceCtorEq, gAdd, gSubI, gMul, gDiv, gMod, gPow, gLt, gLe, gGt, gGe, gIx, gNeg, eqB_int, gEq_int, gNe_int, gEq_str, gNe_str, if_true, if_false, Bool.false_eq_true, Nat.reduceAdd, Nat.zero_add, Bool.not_true, Bool.not_false, atI_c0, atI_c1, atI_c2, esl]
    exact hR
  | two t a b =>
    have e : gIsi [PV.tup [.str t.str, a.pv, b.pv], .ty .tup] = some (.bl true) := rfl
    have e1 : decide (t.str = Str.ofString "waits") = false := by cases t <;> decide
    simp only [mSeq, mSet, mSetN, mSetX, mExpr, mExprX, mRet, mRetN, mRetX, mIf, mNext, mPass, mBrk, mCnt, mFrz, mAsg, mAsgX, mPar, mParN, mBin, mUn, mArg, mC, mVar, mPeek, mCall, mCons, mNil, mTup, mLst, mBinT, mAsT, mNotT, mAndT, mOrT, mAndE, mOrE, mNotE, mIfE, mChain, mChainT, mSl, mO0, mO1, mIter, mRng1, mRng2, mZip, mEnum, mMut, mMutR, mSubSet, mShare, mMeth, mFor, mLc, mYes, slotV, frzS, tgN, tgT, tgNs, wipeE, retK, mAug, List.foldl_cons, List.foldl_nil, deref_int, deref_str, deref_bl, deref_non, deref_tup, deref_lst, deref_scr, deref_dic, deref_ty, isLst, cellP, List.getElem?_cons_zero, List.getElem?_cons_succ, List.getElem?_nil, List.set_cons_zero, List.set_cons_succ, List.map_cons, List.map_nil, List.length_cons, List.length_nil, List.cons_append, List.nil_append, Option.some.injEq, Slot.val.injEq, Slot.own.injEq, PV.int.injEq, PV.bl.injEq, PV.str.injEq, PV.ref.injEq, PV.lst.injEq, PV.tup.injEq, exists_eq_left', exists_eq_left, and_true, true_and, true_or, or_true, and_self, reduceCtorEq, gAdd, gSubI, gMul, gDiv, gMod, gPow, gLt, gLe, gGt, gGe, gIx, gNeg, eqB_int, gEq_int, gNe_int, gEq_str, gNe_str, if_true, if_false, Bool.false_eq_true, Nat.reduceAdd, Nat.zero_add, Bool.not_true, Bool.not_false, atI_c0, atI_c1, atI_c2, Sm.pv, e, e1]
    unfold r_parts_of_1
    have esl : gSlA (PV.tup [.str t.str, a.pv, b.pv]) (some 1) none = some (.tup [a.pv, b.pv]) := rfl
    simp only [mSeq, mSet, mSetN, mSetX, mExpr, mExprX, mRet, mRetN, mRetX, mIf, mNext, mPass, mBrk, mCnt, mFrz, mAsg, mAsgX, mPar, mParN, mBin, mUn, mArg, mC, mVar, mPeek, mCall, mCons, mNil, mTup, mLst, mBinT, mAsT, mNotT, mAndT, mOrT, mAndE, mOrE, mNotE, mIfE, mChain, mChainT, mSl, mO0, mO1, mIter, mRng1, mRng2, mZip, mEnum, mMut, mMutR, mSubSet, mShare, mMeth, mFor, mLc, mYes, slotV, frzS, tgN, tgT, tgNs, wipeE, retK, mAug, List.foldl_cons, List.foldl_nil, deref_int, deref_str, deref_bl, deref_non, deref_tup, deref_lst, deref_scr, deref_dic, deref_ty, isLst, cellP, List.getElem?_cons_zero, List.getElem?_cons_succ, List.getElem?_nil, List.set_cons_zero, List.set_cons_succ, List.map_cons, List.map_nil, List.length_cons, List.length_nil, List.cons_append, List.nil_append, Option.some.injEq, Slot.val.injEq, Slot.own.injEq, PV.int.injEq, PV.bl.injEq, PV.str.injEq, PV.ref.injEq, PV.lst.injEq, PV.tup.injEq, exists_eq_left', exists_eq_left, and_true, true_and, true_or, or_true, and_self, reduceCtorEq, gAdd, gSubI, gMul, gDiv, gMod, gPow, gLt, gLe, gGt, gGe, gIx, gNeg, eqB_int, gEq_int, gNe_int, gEq_str, gNe_str, if_true, if_false, Bool.false_eq_true, Nat.reduceAdd, Nat.zero_add, Bool.not_true, Bool.not_false, atI_c0, atI_c1, atI_c2, esl]
    exact hR
def spTexts (f : Sm → List Str) : Nat → FSpec := fun j args et R => ∃ s : Sm, args = [s.pv] ∧ s.dep ≤ j ∧ s.dep ≤ 5 ∧ R (.lst ((f s).map .str)) et
theorem isi_sm (s : Sm) : gIsi [s.pv, .ty .str] = some (.bl (match s with | .wrd _ => true | _ => false)) := by cases s <;> rfl
theorem deref_sm (et : Hi) (s : Sm) : deref et s.pv = s.pv := by cases s <;> rfl
theorem tup_items (xs : List PV) : itemsP (.tup xs) = some xs := rfl
theorem flat_take {f : Sm → List Str} {l : List Sm} {i : Nat} {s : Sm} (h : l[i]? = some s) : (l.take (i + 1)).flatMap f = (l.take i).flatMap f ++ f s := by
  rw [List.take_succ, h, List.flatMap_append]; simp
theorem take_flat_len {f : Sm → List Str} (l : List Sm) (n : Nat) : ((l.take n).flatMap f).length ≤ (l.flatMap f).length := by
  have e : l.flatMap f = (l.take n).flatMap f ++ (l.drop n).flatMap f := by rw [← List.flatMap_append, List.take_append_drop]
  rw [e, List.length_append]; omega
theorem ext_ok {f : Sm → List Str} {l : List Sm} {i : Nat} {a : Sm} (ha : l[i]? = some a) (hl : (l.flatMap f).length ≤ 100) (d : PV → PV) (hd : d (.lst ((f a).map .str)) = .lst ((f a).map .str)) :
    gmExtend d (.lst (((l.take i).flatMap f).map .str)) [.lst ((f a).map .str)] = some (.lst (((l.take (i + 1)).flatMap f).map .str), .non) := by
  have h1 := take_flat_len (f := f) l (i + 1)
  rw [flat_take ha] at h1 ⊢
  unfold gmExtend
  rw [List.length_append] at h1
  have h100 : (100 : Nat) ≤ sizeLine := by decide
  simp only [hd]
  rw [if_pos (by rw [List.length_map, List.length_map]; omega), List.map_append]
theorem words_ok (j : Nat) (args : List PV) (et : Hi) (R : PV → Hi → Prop) (h : spTexts wordsL (j + 1) args et R) : r_words_in spParts (spTexts wordsL j) (env0 N_words_in args) et (retK R) := by
  obtain ⟨s, rfl, hj, h5, hR⟩ := h
  show r_words_in _ _ [.val s.pv, .no, .no] et (retK R)
  unfold r_words_in
  by_cases hw : ∃ x, s = .wrd x
  · obtain ⟨x, rfl⟩ := hw
    have e : gIsi [PV.str x, .ty .str] = some (.bl true) := rfl
    simp only [mSeq, mSet, mSetN, mSetX, mExpr, mExprX, mRet, mRetN, mRetX, mIf, mNext, mPass, mBrk, mCnt, mFrz, mAsg, mAsgX, mPar, mParN, mBin, mUn, mArg, mC, mVar, mPeek, mCall, mCons, mNil, mTup, mLst, mBinT, mAsT, mNotT, mAndT, mOrT, mAndE, mOrE, mNotE, mIfE, mChain, mChainT, mSl, mO0, mO1, mIter, mRng1, mRng2, mZip, mEnum, mMut, mMutR, mSubSet, mShare, mMeth, mFor, mLc, mYes, slotV, frzS, tgN, tgT, tgNs, wipeE, retK, mAug, List.foldl_cons, List.foldl_nil, deref_int, deref_str, deref_bl, deref_non, deref_tup, deref_lst, deref_scr, deref_dic, deref_ty, isLst, cellP, List.getElem?_cons_zero, List.getElem?_cons_succ, List.getElem?_nil, List.set_cons_zero, List.set_cons_succ, List.map_cons, List.map_nil, List.length_cons, List.length_nil, List.cons_append, List.nil_append, Option.some.injEq, Slot.val.injEq, Slot.own.injEq, PV.int.injEq, PV.bl.injEq, PV.str.injEq, PV.ref.injEq, PV.lst.injEq, PV.tup.injEq, exists_eq_left', exists_eq_left, and_true, true_and, true_or, or_true, and_self, reduceCtorEq, gAdd, gSubI, gMul, gDiv, gMod, gPow, gLt, gLe, gGt, gGe, gIx, gNeg, eqB_int, gEq_int, gNe_int, gEq_str, gNe_str, if_true, if_false, Bool.false_eq_true, Nat.reduceAdd, Nat.zero_add, Bool.not_true, Bool.not_false, atI_c0, atI_c1, atI_c2, Sm.pv, e]
    unfold r_words_in_0
    simp only [mSeq, mSet, mSetN, mSetX, mExpr, mExprX, mRet, mRetN, mRetX, mIf, mNext, mPass, mBrk, mCnt, mFrz, mAsg, mAsgX, mPar, mParN, mBin, mUn, mArg, mC, mVar, mPeek, mCall, mCons, mNil, mTup, mLst, mBinT, mAsT, mNotT, mAndT, mOrT, mAndE, mOrE, mNotE, mIfE, mChain, mChainT, mSl, mO0, mO1, mIter, mRng1, mRng2, mZip, mEnum, mMut, mMutR, mSubSet, mShare, mMeth, mFor, mLc, mYes, slotV, frzS, tgN, tgT, tgNs, wipeE, retK, mAug, List.foldl_cons, List.foldl_nil, deref_int, deref_str, deref_bl, deref_non, deref_tup, deref_lst, deref_scr, deref_dic, deref_ty, isLst, cellP, List.getElem?_cons_zero, List.getElem?_cons_succ, List.getElem?_nil, List.set_cons_zero, List.set_cons_succ, List.map_cons, List.map_nil, List.length_cons, List.length_nil, List.cons_append, List.nil_append, Option.some.injEq, Slot.val.injEq, Slot.own.injEq, PV.int.injEq, PV.bl.injEq, PV.str.injEq, PV.ref.injEq, PV.lst.injEq, PV.tup.injEq, exists_eq_left', exists_eq_left, and_true, true_and, true_or, or_true, and_self, reduceCtorEq, gAdd, gSubI, gMul, gDiv, gMod, gPow, gLt, gLe, gGt, gGe, gIx, gNeg, eqB_int, gEq_int, gNe_int, gEq_str, gNe_str, if_true, if_false, Bool.false_eq_true, Nat.reduceAdd, Nat.zero_add, Bool.not_true, Bool.not_false, atI_c0, atI_c1, atI_c2]
    exact ⟨by show (1 : Nat) ≤ sizeLine; decide, hR⟩
  have e : gIsi [s.pv, .ty .str] = some (.bl false) := by
    rw [isi_sm]
    cases s <;> first | rfl | exact absurd ⟨_, rfl⟩ hw
  simp only [mSeq, mSet, mSetN, mSetX, mExpr, mExprX, mRet, mRetN, mRetX, mIf, mNext, mPass, mBrk, mCnt, mFrz, mAsg, mAsgX, mPar, mParN, mBin, mUn, mArg, mC, mVar, mPeek, mCall, mCons, mNil, mTup, mLst, mBinT, mAsT, mNotT, mAndT, mOrT, mAndE, mOrE, mNotE, mIfE, mChain, mChainT, mSl, mO0, mO1, mIter, mRng1, mRng2, mZip, mEnum, mMut, mMutR, mSubSet, mShare, mMeth, mFor, mLc, mYes, slotV, frzS, tgN, tgT, tgNs, wipeE, retK, mAug, List.foldl_cons, List.foldl_nil, deref_int, deref_str, deref_bl, deref_non, deref_tup, deref_lst, deref_scr, deref_dic, deref_ty, isLst, cellP, List.getElem?_cons_zero, List.getElem?_cons_succ, List.getElem?_nil, List.set_cons_zero, List.set_cons_succ, List.map_cons, List.map_nil, List.length_cons, List.length_nil, List.cons_append, List.nil_append, Option.some.injEq, Slot.val.injEq, Slot.own.injEq, PV.int.injEq, PV.bl.injEq, PV.str.injEq, PV.ref.injEq, PV.lst.injEq, PV.tup.injEq, exists_eq_left', exists_eq_left, and_true, true_and, true_or, or_true, and_self, reduceCtorEq, gAdd, gSubI, gMul, gDiv, gMod, gPow, gLt, gLe, gGt, gGe, gIx, gNeg, eqB_int, gEq_int, gNe_int, gEq_str, gNe_str, if_true, if_false, Bool.false_eq_true, Nat.reduceAdd, Nat.zero_add, Bool.not_true, Bool.not_false, atI_c0, atI_c1, atI_c2, deref_sm, e]
  unfold r_words_in_1
  simp only [mSeq, mSet, mSetN, mSetX, mExpr, mExprX, mRet, mRetN, mRetX, mIf, mNext, mPass, mBrk, mCnt, mFrz, mAsg, mAsgX, mPar, mParN, mBin, mUn, mArg, mC, mVar, mPeek, mCall, mCons, mNil, mTup, mLst, mBinT, mAsT, mNotT, mAndT, mOrT, mAndE, mOrE, mNotE, mIfE, mChain, mChainT, mSl, mO0, mO1, mIter, mRng1, mRng2, mZip, mEnum, mMut, mMutR, mSubSet, mShare, mMeth, mFor, mLc, mYes, slotV, frzS, tgN, tgT, tgNs, wipeE, retK, mAug, List.foldl_cons, List.foldl_nil, deref_int, deref_str, deref_bl, deref_non, deref_tup, deref_lst, deref_scr, deref_dic, deref_ty, isLst, cellP, List.getElem?_cons_zero, List.getElem?_cons_succ, List.getElem?_nil, List.set_cons_zero, List.set_cons_succ, List.map_cons, List.map_nil, List.length_cons, List.length_nil, List.cons_append, List.nil_append, Option.some.injEq, Slot.val.injEq, Slot.own.injEq, PV.int.injEq, PV.bl.injEq, PV.str.injEq, PV.ref.injEq, PV.lst.injEq, PV.tup.injEq, exists_eq_left', exists_eq_left, and_true, true_and, true_or, or_true, and_self, reduceCtorEq, gAdd, gSubI, gMul, gDiv, gMod, gPow, gLt, gLe, gGt, gGe, gIx, gNeg, eqB_int, gEq_int, gNe_int, gEq_str, gNe_str, if_true, if_false, Bool.false_eq_true, Nat.reduceAdd, Nat.zero_add, Bool.not_true, Bool.not_false, atI_c0, atI_c1, atI_c2]
  refine ⟨by decide, ?_⟩
  unfold r_words_in_2
  simp only [mSeq, mSet, mSetN, mSetX, mExpr, mExprX, mRet, mRetN, mRetX, mIf, mNext, mPass, mBrk, mCnt, mFrz, mAsg, mAsgX, mPar, mParN, mBin, mUn, mArg, mC, mVar, mPeek, mCall, mCons, mNil, mTup, mLst, mBinT, mAsT, mNotT, mAndT, mOrT, mAndE, mOrE, mNotE, mIfE, mChain, mChainT, mSl, mO0, mO1, mIter, mRng1, mRng2, mZip, mEnum, mMut, mMutR, mSubSet, mShare, mMeth, mFor, mLc, mYes, slotV, frzS, tgN, tgT, tgNs, wipeE, retK, mAug, List.foldl_cons, List.foldl_nil, deref_int, deref_str, deref_bl, deref_non, deref_tup, deref_lst, deref_scr, deref_dic, deref_ty, isLst, cellP, List.getElem?_cons_zero, List.getElem?_cons_succ, List.getElem?_nil, List.set_cons_zero, List.set_cons_succ, List.map_cons, List.map_nil, List.length_cons, List.length_nil, List.cons_append, List.nil_append, Option.some.injEq, Slot.val.injEq, Slot.own.injEq, PV.int.injEq, PV.bl.injEq, PV.str.injEq, PV.ref.injEq, PV.lst.injEq, PV.tup.injEq, exists_eq_left', exists_eq_left, and_true, true_and, true_or, or_true, and_self, reduceCtorEq, gAdd, gSubI, gMul, gDiv, gMod, gPow, gLt, gLe, gGt, gGe, gIx, gNeg, eqB_int, gEq_int, gNe_int, gEq_str, gNe_str, if_true, if_false, Bool.false_eq_true, Nat.reduceAdd, Nat.zero_add, Bool.not_true, Bool.not_false, atI_c0, atI_c1, atI_c2]
  refine ⟨s, rfl, ?_⟩
  simp only [mSeq, mSet, mSetN, mSetX, mExpr, mExprX, mRet, mRetN, mRetX, mIf, mNext, mPass, mBrk, mCnt, mFrz, mAsg, mAsgX, mPar, mParN, mBin, mUn, mArg, mC, mVar, mPeek, mCall, mCons, mNil, mTup, mLst, mBinT, mAsT, mNotT, mAndT, mOrT, mAndE, mOrE, mNotE, mIfE, mChain, mChainT, mSl, mO0, mO1, mIter, mRng1, mRng2, mZip, mEnum, mMut, mMutR, mSubSet, mShare, mMeth, mFor, mLc, mYes, slotV, frzS, tgN, tgT, tgNs, wipeE, retK, mAug, List.foldl_cons, List.foldl_nil, deref_int, deref_str, deref_bl, deref_non, deref_tup, deref_lst, deref_scr, deref_dic, deref_ty, isLst, cellP, List.getElem?_cons_zero, List.getElem?_cons_succ, List.getElem?_nil, List.set_cons_zero, List.set_cons_succ, List.map_cons, List.map_nil, List.length_cons, List.length_nil, List.cons_append, List.nil_append, Option.some.injEq, Slot.val.injEq, Slot.own.injEq, PV.int.injEq, PV.bl.injEq, PV.str.injEq, PV.ref.injEq, PV.lst.injEq, PV.tup.injEq, exists_eq_left', exists_eq_left, and_true, true_and, true_or, or_true, and_self, reduceCtorEq, gAdd, gSubI, gMul, gDiv, gMod, gPow, gLt, gLe, gGt, gGe, gIx, gNeg, eqB_int, gEq_int, gNe_int, gEq_str, gNe_str, if_true, if_false, Bool.false_eq_true, Nat.reduceAdd, Nat.zero_add, Bool.not_true, Bool.not_false, atI_c0, atI_c1, atI_c2, itemsP]
  refine ⟨fun i ep et1 => et1 = et ∧ ∃ s2, ep = [.val s.pv, .own (.lst (((partsL s).take i |>.flatMap wordsL).map .str)), s2], ⟨rfl, _, rfl⟩, ?_⟩
  rintro i ep et1 ⟨rfl, s2, rfl⟩
  refine ⟨rfl, fun p hp => ⟨_, rfl, ?_⟩, fun e => ?_⟩
  · rw [List.getElem?_map] at hp
    obtain ⟨a, ha, rfl⟩ : ∃ a, (partsL s)[i]? = some a ∧ p = a.pv := by
      cases e : (partsL s)[i]? with
      | none => rw [e] at hp; cases hp
      | some c => rw [e] at hp; cases hp; exact ⟨c, rfl, rfl⟩
    have hd := parts_dep (List.mem_of_getElem? ha)
    unfold r_words_in_3
    simp only [mSeq, mSet, mSetN, mSetX, mExpr, mExprX, mRet, mRetN, mRetX, mIf, mNext, mPass, mBrk, mCnt, mFrz, mAsg, mAsgX, mPar, mParN, mBin, mUn, mArg, mC, mVar, mPeek, mCall, mCons, mNil, mTup, mLst, mBinT, mAsT, mNotT, mAndT, mOrT, mAndE, mOrE, mNotE, mIfE, mChain, mChainT, mSl, mO0, mO1, mIter, mRng1, mRng2, mZip, mEnum, mMut, mMutR, mSubSet, mShare, mMeth, mFor, mLc, mYes, slotV, frzS, tgN, tgT, tgNs, wipeE, retK, mAug, List.foldl_cons, List.foldl_nil, deref_int, deref_str, deref_bl, deref_non, deref_tup, deref_lst, deref_scr, deref_dic, deref_ty, isLst, cellP, List.getElem?_cons_zero, List.getElem?_cons_succ, List.getElem?_nil, List.set_cons_zero, List.set_cons_succ, List.map_cons, List.map_nil, List.length_cons, List.length_nil, List.cons_append, List.nil_append, Option.some.injEq, Slot.val.injEq, Slot.own.injEq, PV.int.injEq, PV.bl.injEq, PV.str.injEq, PV.ref.injEq, PV.lst.injEq, PV.tup.injEq, exists_eq_left', exists_eq_left, and_true, true_and, true_or, or_true, and_self, reduceCtorEq, gAdd, gSubI, gMul, gDiv, gMod, gPow, gLt, gLe, gGt, gGe, gIx, gNeg, eqB_int, gEq_int, gNe_int, gEq_str, gNe_str, if_true, if_false, Bool.false_eq_true, Nat.reduceAdd, Nat.zero_add, Bool.not_true, Bool.not_false, atI_c0, atI_c1, atI_c2]
    refine ⟨a, rfl, by omega, by omega, ?_⟩
    have hlen : ((partsL s).flatMap wordsL).length ≤ 100 := by
      rw [← parts_words s fun x h => hw ⟨x, h⟩]
      have := words_len s
      have := lvs_small h5
      omega
    exact ⟨_, _, ext_ok ha hlen _ rfl, rfl, _, rfl⟩
  · rw [List.length_map] at e
    subst e
    unfold r_words_in_4
    simp only [mSeq, mSet, mSetN, mSetX, mExpr, mExprX, mRet, mRetN, mRetX, mIf, mNext, mPass, mBrk, mCnt, mFrz, mAsg, mAsgX, mPar, mParN, mBin, mUn, mArg, mC, mVar, mPeek, mCall, mCons, mNil, mTup, mLst, mBinT, mAsT, mNotT, mAndT, mOrT, mAndE, mOrE, mNotE, mIfE, mChain, mChainT, mSl, mO0, mO1, mIter, mRng1, mRng2, mZip, mEnum, mMut, mMutR, mSubSet, mShare, mMeth, mFor, mLc, mYes, slotV, frzS, tgN, tgT, tgNs, wipeE, retK, mAug, List.foldl_cons, List.foldl_nil, deref_int, deref_str, deref_bl, deref_non, deref_tup, deref_lst, deref_scr, deref_dic, deref_ty, isLst, cellP, List.getElem?_cons_zero, List.getElem?_cons_succ, List.getElem?_nil, List.set_cons_zero, List.set_cons_succ, List.map_cons, List.map_nil, List.length_cons, List.length_nil, List.cons_append, List.nil_append, Option.some.injEq, Slot.val.injEq, Slot.own.injEq, PV.int.injEq, PV.bl.injEq, PV.str.injEq, PV.ref.injEq, PV.lst.injEq, PV.tup.injEq, exists_eq_left', exists_eq_left, and_true, true_and, true_or, or_true, and_self, reduceCtorEq, gAdd, gSubI, gMul, gDiv, gMod, gPow, gLt, gLe, gGt, gGe, gIx, gNeg, eqB_int, gEq_int, gNe_int, gEq_str, gNe_str, if_true, if_false, Bool.false_eq_true, Nat.reduceAdd, Nat.zero_add, Bool.not_true, Bool.not_false, atI_c0, atI_c1, atI_c2]
    rw [List.take_length, ← parts_words s fun x h => hw ⟨x, h⟩]
    exact hR
theorem bells_ok (j : Nat) (args : List PV) (et : Hi) (R : PV → Hi → Prop) (h : spTexts bellsL (j + 1) args et R) : r_bells_in spParts (spTexts bellsL j) (env0 N_bells_in args) et (retK R) := by
  obtain ⟨s, rfl, hj, h5, hR⟩ := h
  show r_bells_in _ _ [.val s.pv, .no, .no] et (retK R)
  unfold r_bells_in
  by_cases hw : ∃ x, s = .wts x
  · obtain ⟨x, rfl⟩ := hw
    have e : gIsi [PV.tup [.str "waits", .str x], .ty .tup] = some (.bl true) := rfl
    simp only [mSeq, mSet, mSetN, mSetX, mExpr, mExprX, mRet, mRetN, mRetX, mIf, mNext, mPass, mBrk, mCnt, mFrz, mAsg, mAsgX, mPar, mParN, mBin, mUn, mArg, mC, mVar, mPeek, mCall, mCons, mNil, mTup, mLst, mBinT, mAsT, mNotT, mAndT, mOrT, mAndE, mOrE, mNotE, mIfE, mChain, mChainT, mSl, mO0, mO1, mIter, mRng1, mRng2, mZip, mEnum, mMut, mMutR, mSubSet, mShare, mMeth, mFor, mLc, mYes, slotV, frzS, tgN, tgT, tgNs, wipeE, retK, mAug, List.foldl_cons, List.foldl_nil, deref_int, deref_str, deref_bl, deref_non, deref_tup, deref_lst, deref_scr, deref_dic, deref_ty, isLst, cellP, List.getElem?_cons_zero, List.getElem?_cons_succ, List.getElem?_nil, List.set_cons_zero, List.set_cons_succ, List.map_cons, List.map_nil, List.length_cons, List.length_nil, List.cons_append, List.nil_append, Option.some.injEq, Slot.val.injEq, Slot.own.injEq, PV.int.injEq, PV.bl.injEq, PV.str.injEq, PV.ref.injEq, PV.lst.injEq, PV.tup.injEq, exists_eq_left', exists_eq_left, and_true, true_and, true_or, or_true, and_self, reduceCtorEq, gAdd, gSubI, gMul, gDiv, gMod, gPow, gLt, gLe, gGt, gGe, gIx, gNeg, eqB_int, gEq_int, gNe_int, gEq_str, gNe_str, if_true, if_false, Bool.false_eq_true, Nat.reduceAdd, Nat.zero_add, Bool.not_true, Bool.not_false, atI_c0, atI_c1, atI_c2, Sm.pv, e, decide_true]
    unfold r_bells_in_0
    simp only [mSeq, mSet, mSetN, mSetX, mExpr, mExprX, mRet, mRetN, mRetX, mIf, mNext, mPass, mBrk, mCnt, mFrz, mAsg, mAsgX, mPar, mParN, mBin, mUn, mArg, mC, mVar, mPeek, mCall, mCons, mNil, mTup, mLst, mBinT, mAsT, mNotT, mAndT, mOrT, mAndE, mOrE, mNotE, mIfE, mChain, mChainT, mSl, mO0, mO1, mIter, mRng1, mRng2, mZip, mEnum, mMut, mMutR, mSubSet, mShare, mMeth, mFor, mLc, mYes, slotV, frzS, tgN, tgT, tgNs, wipeE, retK, mAug, List.foldl_cons, List.foldl_nil, deref_int, deref_str, deref_bl, deref_non, deref_tup, deref_lst, deref_scr, deref_dic, deref_ty, isLst, cellP, List.getElem?_cons_zero, List.getElem?_cons_succ, List.getElem?_nil, List.set_cons_zero, List.set_cons_succ, List.map_cons, List.map_nil, List.length_cons, List.length_nil, List.cons_append, List.nil_append, Option.some.injEq, Slot.val.injEq, Slot.own.injEq, PV.int.injEq, PV.bl.injEq, PV.str.injEq, PV.ref.injEq, PV.lst.injEq, PV.tup.injEq, exists_eq_left', exists_eq_left, and_true, true_and, true_or, or_true, and_self, reduceCtorEq, gAdd, gSubI, gMul, gDiv, gMod, gPow, gLt, gLe, gGt, gGe, gIx, gNeg, eqB_int, gEq_int, gNe_int, gEq_str, gNe_str, if_true, if_false, Bool.false_eq_true, Nat.reduceAdd, Nat.zero_add, Bool.not_true, Bool.not_false, atI_c0, atI_c1, atI_c2]
    exact ⟨by show (1 : Nat) ≤ sizeLine; decide, hR⟩
  have go : r_bells_in_1 spParts (spTexts bellsL j) [.val s.pv, .no, .no] et (retK R) := by
    unfold r_bells_in_1
    simp only [mSeq, mSet, mSetN, mSetX, mExpr, mExprX, mRet, mRetN, mRetX, mIf, mNext, mPass, mBrk, mCnt, mFrz, mAsg, mAsgX, mPar, mParN, mBin, mUn, mArg, mC, mVar, mPeek, mCall, mCons, mNil, mTup, mLst, mBinT, mAsT, mNotT, mAndT, mOrT, mAndE, mOrE, mNotE, mIfE, mChain, mChainT, mSl, mO0, mO1, mIter, mRng1, mRng2, mZip, mEnum, mMut, mMutR, mSubSet, mShare, mMeth, mFor, mLc, mYes, slotV, frzS, tgN, tgT, tgNs, wipeE, retK, mAug, List.foldl_cons, List.foldl_nil, deref_int, deref_str, deref_bl, deref_non, deref_tup, deref_lst, deref_scr, deref_dic, deref_ty, isLst, cellP, List.getElem?_cons_zero, List.getElem?_cons_succ, List.getElem?_nil, List.set_cons_zero, List.set_cons_succ, List.map_cons, List.map_nil, List.length_cons, List.length_nil, List.cons_append, List.nil_append, Option.some.injEq, Slot.val.injEq, Slot.own.injEq, PV.int.injEq, PV.bl.injEq, PV.str.injEq, PV.ref.injEq, PV.lst.injEq, PV.tup.injEq, exists_eq_left', exists_eq_left, and_true, true_and, true_or, or_true, and_self, reduceCtorEq, gAdd, gSubI, gMul, gDiv, gMod, gPow, gLt, gLe, gGt, gGe, gIx, gNeg, eqB_int, gEq_int, gNe_int, gEq_str, gNe_str, if_true, if_false, Bool.false_eq_true, Nat.reduceAdd, Nat.zero_add, Bool.not_true, Bool.not_false, atI_c0, atI_c1, atI_c2]
    refine ⟨by decide, ?_⟩
    unfold r_bells_in_2
    simp only [mSeq, mSet, mSetN, mSetX, mExpr, mExprX, mRet, mRetN, mRetX, mIf, mNext, mPass, mBrk, mCnt, mFrz, mAsg, mAsgX, mPar, mParN, mBin, mUn, mArg, mC, mVar, mPeek, mCall, mCons, mNil, mTup, mLst, mBinT, mAsT, mNotT, mAndT, mOrT, mAndE, mOrE, mNotE, mIfE, mChain, mChainT, mSl, mO0, mO1, mIter, mRng1, mRng2, mZip, mEnum, mMut, mMutR, mSubSet, mShare, mMeth, mFor, mLc, mYes, slotV, frzS, tgN, tgT, tgNs, wipeE, retK, mAug, List.foldl_cons, List.foldl_nil, deref_int, deref_str, deref_bl, deref_non, deref_tup, deref_lst, deref_scr, deref_dic, deref_ty, isLst, cellP, List.getElem?_cons_zero, List.getElem?_cons_succ, List.getElem?_nil, List.set_cons_zero, List.set_cons_succ, List.map_cons, List.map_nil, List.length_cons, List.length_nil, List.cons_append, List.nil_append, Option.some.injEq, Slot.val.injEq, Slot.own.injEq, PV.int.injEq, PV.bl.injEq, PV.str.injEq, PV.ref.injEq, PV.lst.injEq, PV.tup.injEq, exists_eq_left', exists_eq_left, and_true, true_and, true_or, or_true, and_self, reduceCtorEq, gAdd, gSubI, gMul, gDiv, gMod, gPow, gLt, gLe, gGt, gGe, gIx, gNeg, eqB_int, gEq_int, gNe_int, gEq_str, gNe_str, if_true, if_false, Bool.false_eq_true, Nat.reduceAdd, Nat.zero_add, Bool.not_true, Bool.not_false, atI_c0, atI_c1, atI_c2]
    refine ⟨s, rfl, ?_⟩
    simp only [mSeq, mSet, mSetN, mSetX, mExpr, mExprX, mRet, mRetN, mRetX, mIf, mNext, mPass, mBrk, mCnt, mFrz, mAsg, mAsgX, mPar, mParN, mBin, mUn, mArg, mC, mVar, mPeek, mCall, mCons, mNil, mTup, mLst, mBinT, mAsT, mNotT, mAndT, mOrT, mAndE, mOrE, mNotE, mIfE, mChain, mChainT, mSl, mO0, mO1, mIter, mRng1, mRng2, mZip, mEnum, mMut, mMutR, mSubSet, mShare, mMeth, mFor, mLc, mYes, slotV, frzS, tgN, tgT, tgNs, wipeE, retK, mAug, List.foldl_cons, List.foldl_nil, deref_int, deref_str, deref_bl, deref_non, deref_tup, deref_lst, deref_scr, deref_dic, deref_ty, isLst, cellP, List.getElem?_cons_zero, List.getElem?_cons_succ, List.getElem?_nil, List.set_cons_zero, List.set_cons_succ, List.map_cons, List.map_nil, List.length_cons, List.length_nil, List.cons_append, List.nil_append, Option.some.injEq, Slot.val.injEq, Slot.own.injEq, PV.int.injEq, PV.bl.injEq, PV.str.injEq, PV.ref.injEq, PV.lst.injEq, PV.tup.injEq, exists_eq_left', exists_eq_left, and_true, true_and, true_or, or_true, and_self, reduceCtorEq, gAdd, gSubI, gMul, gDiv, gMod, gPow, gLt, gLe, gGt, gGe, gIx, gNeg, eqB_int, gEq_int, gNe_int, gEq_str, gNe_str, if_true, if_false, Bool.false_eq_true, Nat.reduceAdd, Nat.zero_add, Bool.not_true, Bool.not_false, atI_c0, atI_c1, atI_c2, itemsP]
    refine ⟨fun i ep et1 => et1 = et ∧ ∃ s2, ep = [.val s.pv, .own (.lst (((partsL s).take i |>.flatMap bellsL).map .str)), s2], ⟨rfl, _, rfl⟩, ?_⟩
    rintro i ep et1 ⟨rfl, s2, rfl⟩
    refine ⟨rfl, fun p hp => ⟨_, rfl, ?_⟩, fun e => ?_⟩
    · rw [List.getElem?_map] at hp
      obtain ⟨a, ha, rfl⟩ : ∃ a, (partsL s)[i]? = some a ∧ p = a.pv := by
        cases e : (partsL s)[i]? with
        | none => rw [e] at hp; cases hp
        | some c => rw [e] at hp; cases hp; exact ⟨c, rfl, rfl⟩
      have hd := parts_dep (List.mem_of_getElem? ha)
      unfold r_bells_in_3
      simp only [mSeq, mSet, mSetN, mSetX, mExpr, mExprX, mRet, mRetN, mRetX, mIf, mNext, mPass, mBrk, mCnt, mFrz, mAsg, mAsgX, mPar, mParN, mBin, mUn, mArg, mC, mVar, mPeek, mCall, mCons, mNil, mTup, mLst, mBinT, mAsT, mNotT, mAndT, mOrT, mAndE, mOrE, mNotE, mIfE, mChain, mChainT, mSl, mO0, mO1, mIter, mRng1, mRng2, mZip, mEnum, mMut, mMutR, mSubSet, mShare, mMeth, mFor, mLc, mYes, slotV, frzS, tgN, tgT, tgNs, wipeE, retK, mAug, List.foldl_cons, List.foldl_nil, deref_int, deref_str, deref_bl, deref_non, deref_tup, deref_lst, deref_scr, deref_dic, deref_ty, isLst, cellP, List.getElem?_cons_zero, List.getElem?_cons_succ, List.getElem?_nil, List.set_cons_zero, List.set_cons_succ, List.map_cons, List.map_nil, List.length_cons, List.length_nil, List.cons_append, List.nil_append, Option.some.injEq, Slot.val.injEq, Slot.own.injEq, PV.int.injEq, PV.bl.injEq, PV.str.injEq, PV.ref.injEq, PV.lst.injEq, PV.tup.injEq, exists_eq_left', exists_eq_left, and_true, true_and, true_or, or_true, and_self, reduceCtorEq, gAdd, gSubI, gMul, gDiv, gMod, gPow, gLt, gLe, gGt, gGe, gIx, gNeg, eqB_int, gEq_int, gNe_int, gEq_str, gNe_str, if_true, if_false, Bool.false_eq_true, Nat.reduceAdd, Nat.zero_add, Bool.not_true, Bool.not_false, atI_c0, atI_c1, atI_c2]
      refine ⟨a, rfl, by omega, by omega, ?_⟩
      have hlen : ((partsL s).flatMap bellsL).length ≤ 100 := by
        rw [← parts_bells s fun x h => hw ⟨x, h⟩]
        have := bells_len s
        have := lvs_small h5
        omega
      exact ⟨_, _, ext_ok ha hlen _ rfl, rfl, _, rfl⟩
    · rw [List.length_map] at e
      subst e
      unfold r_bells_in_4
      simp only [mSeq, mSet, mSetN, mSetX, mExpr, mExprX, mRet, mRetN, mRetX, mIf, mNext, mPass, mBrk, mCnt, mFrz, mAsg, mAsgX, mPar, mParN, mBin, mUn, mArg, mC, mVar, mPeek, mCall, mCons, mNil, mTup, mLst, mBinT, mAsT, mNotT, mAndT, mOrT, mAndE, mOrE, mNotE, mIfE, mChain, mChainT, mSl, mO0, mO1, mIter, mRng1, mRng2, mZip, mEnum, mMut, mMutR, mSubSet, mShare, mMeth, mFor, mLc, mYes, slotV, frzS, tgN, tgT, tgNs, wipeE, retK, mAug, List.foldl_cons, List.foldl_nil, deref_int, deref_str, deref_bl, deref_non, deref_tup, deref_lst, deref_scr, deref_dic, deref_ty, isLst, cellP, List.getElem?_cons_zero, List.getElem?_cons_succ, List.getElem?_nil, List.set_cons_zero, List.set_cons_succ, List.map_cons, List.map_nil, List.length_cons, List.length_nil, List.cons_append, List.nil_append, Option.some.injEq, Slot.val.injEq, Slot.own.injEq, PV.int.injEq, PV.bl.injEq, PV.str.injEq, PV.ref.injEq, PV.lst.injEq, PV.tup.injEq, exists_eq_left', exists_eq_left, and_true, true_and, true_or, or_true, and_self, reduceCtorEq, gAdd, gSubI, gMul, gDiv, gMod, gPow, gLt, gLe, gGt, gGe, gIx, gNeg, eqB_int, gEq_int, gNe_int, gEq_str, gNe_str, if_true, if_false, Bool.false_eq_true, Nat.reduceAdd, Nat.zero_add, Bool.not_true, Bool.not_false, atI_c0, atI_c1, atI_c2]
      rw [List.take_length, ← parts_bells s fun x h => hw ⟨x, h⟩]
      exact hR
  cases s with
  | val n =>
    have e : gIsi [PV.int n, .ty .tup] = some (.bl false) := rfl
    simp only [mSeq, mSet, mSetN, mSetX, mExpr, mExprX, mRet, mRetN, mRetX, mIf, mNext, mPass, mBrk, mCnt, mFrz, mAsg, mAsgX, mPar, mParN, mBin, mUn, mArg, mC, mVar, mPeek, mCall, mCons, mNil, mTup, mLst, mBinT, mAsT, mNotT, mAndT, mOrT, mAndE, mOrE, mNotE, mIfE, mChain, mChainT, mSl, mO0, mO1, mIter, mRng1, mRng2, mZip, mEnum, mMut, mMutR, mSubSet, mShare, mMeth, mFor, mLc, mYes, slotV, frzS, tgN, tgT, tgNs, wipeE, retK, mAug, List.foldl_cons, List.foldl_nil, deref_int, deref_str, deref_bl, deref_non, deref_tup, deref_lst, deref_scr, deref_dic, deref_ty, isLst, cellP, List.getElem?_cons_zero, List.getElem?_cons_succ, List.getElem?_nil, List.set_cons_zero, List.set_cons_succ, List.map_cons, List.map_nil, List.length_cons, List.length_nil, List.cons_append, List.nil_append, Option.some.injEq, Slot.val.injEq, Slot.own.injEq, PV.int.injEq, PV.bl.injEq, PV.str.injEq, PV.ref.injEq, PV.lst.injEq, PV.tup.injEq, exists_eq_left', exists_eq_left, and_true, true_and, true_or, or_true, and_self, reduceCtorEq, gAdd, gSubI, gMul, gDiv, gMod, gPow, gLt, gLe, gGt, gGe, gIx, gNeg, eqB_int, gEq_int, gNe_int, gEq_str, gNe_str, if_true, if_false, Bool.false_eq_true, Nat.reduceAdd, Nat.zero_add, Bool.not_true, Bool.not_false, atI_c0, atI_c1, atI_c2, Sm.pv, e]
    exact go
  | wrd n =>
    have e : gIsi [PV.str n, .ty .tup] = some (.bl false) := rfl
    simp only [mSeq, mSet, mSetN, mSetX, mExpr, mExprX, mRet, mRetN, mRetX, mIf, mNext, mPass, mBrk, mCnt, mFrz, mAsg, mAsgX, mPar, mParN, mBin, mUn, mArg, mC, mVar, mPeek, mCall, mCons, mNil, mTup, mLst, mBinT, mAsT, mNotT, mAndT, mOrT, mAndE, mOrE, mNotE, mIfE, mChain, mChainT, mSl, mO0, mO1, mIter, mRng1, mRng2, mZip, mEnum, mMut, mMutR, mSubSet, mShare, mMeth, mFor, mLc, mYes, slotV, frzS, tgN, tgT, tgNs, wipeE, retK, mAug, List.foldl_cons, List.foldl_nil, deref_int, deref_str, deref_bl, deref_non, deref_tup, deref_lst, deref_scr, deref_dic, deref_ty, isLst, cellP, List.getElem?_cons_zero, List.getElem?_cons_succ, List.getElem?_nil, List.set_cons_zero, List.set_cons_succ, List.map_cons, List.map_nil, List.length_cons, List.length_nil, List.cons_append, List.nil_append, Option.some.injEq, Slot.val.injEq, Slot.own.injEq, PV.int.injEq, PV.bl.injEq, PV.str.injEq, PV.ref.injEq, PV.lst.injEq, PV.tup.injEq, exists_eq_left', exists_eq_left, and_true, true_and, true_or, or_true, and_self, reduceCtorEq, gAdd, gSubI, gMul, gDiv, gMod, gPow, gLt, gLe, gGt, gGe, gIx, gNeg, eqB_int, gEq_int, gNe_int, gEq_str, gNe_str, if_true, if_false, Bool.false_eq_true, Nat.reduceAdd, Nat.zero_add, Bool.not_true, Bool.not_false, atI_c0, atI_c1, atI_c2, Sm.pv, e]
    exact go
  | wts x => exact absurd ⟨_, rfl⟩ hw
  | not a =>
    have e : gIsi [PV.tup [.str "not", a.pv], .ty .tup] = some (.bl true) := rfl
    have e1 : decide (Str.ofString "not" = Str.ofString "waits") = false := by decide
    simp only [mSeq, mSet, mSetN, mSetX, mExpr, mExprX, mRet, mRetN, mRetX, mIf, mNext, mPass, mBrk, mCnt, mFrz, mAsg, mAsgX, mPar, mParN, mBin, mUn, mArg, mC, mVar, mPeek, mCall, mCons, mNil, mTup, mLst, mBinT, mAsT, mNotT, mAndT, mOrT, mAndE, mOrE, mNotE, mIfE, mChain, mChainT, mSl, mO0, mO1, mIter, mRng1, mRng2, mZip, mEnum, mMut, mMutR, mSubSet, mShare, mMeth, mFor, mLc, mYes, slotV, frzS, tgN, tgT, tgNs, wipeE, retK, mAug, List.foldl_cons, List.foldl_nil, deref_int, deref_str, deref_bl, deref_non, deref_tup, deref_lst, deref_scr, deref_dic, deref_ty, isLst, cellP, List.getElem?_cons_zero, List.getElem?_cons_succ, List.getElem?_nil, List.set_cons_zero, List.set_cons_succ, List.map_cons, List.map_nil, List.length_cons, List.length_nil, List.cons_append, List.nil_append, Option.some.injEq, Slot.val.injEq, Slot.own.injEq, PV.int.injEq, PV.bl.injEq, PV.str.injEq, PV.ref.injEq, PV.lst.injEq, PV.tup.injEq, exists_eq_left', exists_eq_left, and_true, true_and, true_or, or_true, and_self, reduceCtorEq, gAdd, gSubI, gMul, gDiv, gMod, gPow, gLt, gLe, gGt, gGe, gIx, gNeg, eqB_int, gEq_int, gNe_int, gEq_str, gNe_str, if_true, if_false, Bool.false_eq_true, Nat.reduceAdd, Nat.zero_add, Bool.not_true, Bool.not_false, atI_c0, atI_c1, atI_c2, Sm.pv, e, e1]
    exact go
  | two t a b =>
    have e : gIsi [PV.tup [.str t.str, a.pv, b.pv], .ty .tup] = some (.bl true) := rfl
    have e1 : decide (t.str = Str.ofString "waits") = false := by cases t <;> decide
    simp only [mSeq, mSet, mSetN, mSetX, mExpr, mExprX, mRet, mRetN, mRetX, mIf, mNext, mPass, mBrk, mCnt, mFrz, mAsg, mAsgX, mPar, mParN, mBin, mUn, mArg, mC, mVar, mPeek, mCall, mCons, mNil, mTup, mLst, mBinT, mAsT, mNotT, mAndT, mOrT, mAndE, mOrE, mNotE, mIfE, mChain, mChainT, mSl, mO0, mO1, mIter, mRng1, mRng2, mZip, mEnum, mMut, mMutR, mSubSet, mShare, mMeth, mFor, mLc, mYes, slotV, frzS, tgN, tgT, tgNs, wipeE, retK, mAug, List.foldl_cons, List.foldl_nil, deref_int, deref_str, deref_bl, deref_non, deref_tup, deref_lst, deref_scr, deref_dic, deref_ty, isLst, cellP, List.getElem?_cons_zero, List.getElem?_cons_succ, List.getElem?_nil, List.set_cons_zero, List.set_cons_succ, List.map_cons, List.map_nil, List.length_cons, List.length_nil, List.cons_append, List.nil_append, Option.some.injEq, Slot.val.injEq, Slot.own.injEq, PV.int.injEq, PV.bl.injEq, PV.str.injEq, PV.ref.injEq, PV.lst.injEq, PV.tup.injEq, exists_eq_left', exists_eq_left, and_true, true_and, true_or, or_true, and_self, reduceCtorEq, gAdd, gSubI, gMul, gDiv, gMod, gPow, gLt, gLe, gGt, gGe, gIx, gNeg, eqB_int, gEq_int, gNe_int, gEq_str, gNe_str, if_true, if_false, Bool.false_eq_true, Nat.reduceAdd, Nat.zero_add, Bool.not_true, Bool.not_false, atI_c0, atI_c1, atI_c2, Sm.pv, e, e1]
    exact go
def spSet (f : Sm → List Str) : FSpec := fun args et R => ∃ s : Sm, args = [s.pv] ∧ s.dep ≤ 5 ∧ R (.tup ((setS (f s)).map .str)) et
theorem sset {ss : List Str} (h : ss.length < 64) : gSortedSet (.lst (ss.map .str)) = some (.lst ((setS ss).map .str)) := by
  unfold gSortedSet
  have : strsP (ss.map .str) = some ss := by
    induction ss with
    | nil => rfl
    | cons x xs ih => simp [strsP, ih (by simp at h; omega)]
  simp only [this, Option.bind_some, if_pos h]
theorem words_of_ok (args : List PV) (et : Hi) (R : PV → Hi → Prop) (h : spSet wordsL args et R) : r_words_of (spTexts wordsL 5) (env0 N_words_of args) et (retK R) := by
  obtain ⟨s, rfl, h5, hR⟩ := h
  show r_words_of _ [.val s.pv] et (retK R)
  unfold r_words_of
  simp only [mSeq, mSet, mSetN, mSetX, mExpr, mExprX, mRet, mRetN, mRetX, mIf, mNext, mPass, mBrk, mCnt, mFrz, mAsg, mAsgX, mPar, mParN, mBin, mUn, mArg, mC, mVar, mPeek, mCall, mCons, mNil, mTup, mLst, mBinT, mAsT, mNotT, mAndT, mOrT, mAndE, mOrE, mNotE, mIfE, mChain, mChainT, mSl, mO0, mO1, mIter, mRng1, mRng2, mZip, mEnum, mMut, mMutR, mSubSet, mShare, mMeth, mFor, mLc, mYes, slotV, frzS, tgN, tgT, tgNs, wipeE, retK, mAug, List.foldl_cons, List.foldl_nil, deref_int, deref_str, deref_bl, deref_non, deref_tup, deref_lst, deref_scr, deref_dic, deref_ty, isLst, cellP, List.getElem?_cons_zero, List.getElem?_cons_succ, List.getElem?_nil, List.set_cons_zero, List.set_cons_succ, List.map_cons, List.map_nil, List.length_cons, List.length_nil, List.cons_append, List.nil_append, Option.some.injEq, Slot.val.injEq, Slot.own.injEq, PV.int.injEq, PV.bl.injEq, PV.str.injEq, PV.ref.injEq, PV.lst.injEq, PV.tup.injEq, exists_eq_left', exists_eq_left, and_true, true_and, true_or, or_true, and_self, reduceCtorEq, gAdd, gSubI, gMul, gDiv, gMod, gPow, gLt, gLe, gGt, gGe, gIx, gNeg, eqB_int, gEq_int, gNe_int, gEq_str, gNe_str, if_true, if_false, Bool.false_eq_true, Nat.reduceAdd, Nat.zero_add, Bool.not_true, Bool.not_false, atI_c0, atI_c1, atI_c2, mUn]
  refine ⟨s, rfl, h5, h5, ?_⟩
  have := words_len s
  have := lvs_small h5
  simp only [mSeq, mSet, mSetN, mSetX, mExpr, mExprX, mRet, mRetN, mRetX, mIf, mNext, mPass, mBrk, mCnt, mFrz, mAsg, mAsgX, mPar, mParN, mBin, mUn, mArg, mC, mVar, mPeek, mCall, mCons, mNil, mTup, mLst, mBinT, mAsT, mNotT, mAndT, mOrT, mAndE, mOrE, mNotE, mIfE, mChain, mChainT, mSl, mO0, mO1, mIter, mRng1, mRng2, mZip, mEnum, mMut, mMutR, mSubSet, mShare, mMeth, mFor, mLc, mYes, slotV, frzS, tgN, tgT, tgNs, wipeE, retK, mAug, List.foldl_cons, List.foldl_nil, deref_int, deref_str, deref_bl, deref_non, deref_tup, deref_lst, deref_scr, deref_dic, deref_ty, isLst, cellP, List.getElem?_cons_zero, List.getElem?_cons_succ, List.getElem?_nil, List.set_cons_zero, List.set_cons_succ, List.map_cons, List.map_nil, List.length_cons, List.length_nil, List.cons_append, List.nil_append, Option.some.injEq, Slot.val.injEq, Slot.own.injEq, PV.int.injEq, PV.bl.injEq, PV.str.injEq, PV.ref.injEq, PV.lst.injEq, PV.tup.injEq, exists_eq_left', exists_eq_left, and_true, true_and, true_or, or_true, and_self, reduceCtorEq, gAdd, gSubI, gMul, gDiv, gMod, gPow, gLt, gLe, gGt, gGe, gIx, gNeg, eqB_int, gEq_int, gNe_int, gEq_str, gNe_str, if_true, if_false, Bool.false_eq_true, Nat.reduceAdd, Nat.zero_add, Bool.not_true, Bool.not_false, atI_c0, atI_c1, atI_c2, sset (show (wordsL s).length < 64 by omega)]
  exact ⟨_, rfl, hR⟩
theorem bells_of_ok (args : List PV) (et : Hi) (R : PV → Hi → Prop) (h : spSet bellsL args et R) : r_bells_of (spTexts bellsL 5) (env0 N_bells_of args) et (retK R) := by
  obtain ⟨s, rfl, h5, hR⟩ := h
  show r_bells_of _ [.val s.pv] et (retK R)
  unfold r_bells_of
  simp only [mSeq, mSet, mSetN, mSetX, mExpr, mExprX, mRet, mRetN, mRetX, mIf, mNext, mPass, mBrk, mCnt, mFrz, mAsg, mAsgX, mPar, mParN, mBin, mUn, mArg, mC, mVar, mPeek, mCall, mCons, mNil, mTup, mLst, mBinT, mAsT, mNotT, mAndT, mOrT, mAndE, mOrE, mNotE, mIfE, mChain, mChainT, mSl, mO0, mO1, mIter, mRng1, mRng2, mZip, mEnum, mMut, mMutR, mSubSet, mShare, mMeth, mFor, mLc, mYes, slotV, frzS, tgN, tgT, tgNs, wipeE, retK, mAug, List.foldl_cons, List.foldl_nil, deref_int, deref_str, deref_bl, deref_non, deref_tup, deref_lst, deref_scr, deref_dic, deref_ty, isLst, cellP, List.getElem?_cons_zero, List.getElem?_cons_succ, List.getElem?_nil, List.set_cons_zero, List.set_cons_succ, List.map_cons, List.map_nil, List.length_cons, List.length_nil, List.cons_append, List.nil_append, Option.some.injEq, Slot.val.injEq, Slot.own.injEq, PV.int.injEq, PV.bl.injEq, PV.str.injEq, PV.ref.injEq, PV.lst.injEq, PV.tup.injEq, exists_eq_left', exists_eq_left, and_true, true_and, true_or, or_true, and_self, reduceCtorEq, gAdd, gSubI, gMul, gDiv, gMod, gPow, gLt, gLe, gGt, gGe, gIx, gNeg, eqB_int, gEq_int, gNe_int, gEq_str, gNe_str, if_true, if_false, Bool.false_eq_true, Nat.reduceAdd, Nat.zero_add, Bool.not_true, Bool.not_false, atI_c0, atI_c1, atI_c2, mUn]
  refine ⟨s, rfl, h5, h5, ?_⟩
  have := bells_len s
  have := lvs_small h5
  simp only [mSeq, mSet, mSetN, mSetX, mExpr, mExprX, mRet, mRetN, mRetX, mIf, mNext, mPass, mBrk, mCnt, mFrz, mAsg, mAsgX, mPar, mParN, mBin, mUn, mArg, mC, mVar, mPeek, mCall, mCons, mNil, mTup, mLst, mBinT, mAsT, mNotT, mAndT, mOrT, mAndE, mOrE, mNotE, mIfE, mChain, mChainT, mSl, mO0, mO1, mIter, mRng1, mRng2, mZip, mEnum, mMut, mMutR, mSubSet, mShare, mMeth, mFor, mLc, mYes, slotV, frzS, tgN, tgT, tgNs, wipeE, retK, mAug, List.foldl_cons, List.foldl_nil, deref_int, deref_str, deref_bl, deref_non, deref_tup, deref_lst, deref_scr, deref_dic, deref_ty, isLst, cellP, List.getElem?_cons_zero, List.getElem?_cons_succ, List.getElem?_nil, List.set_cons_zero, List.set_cons_succ, List.map_cons, List.map_nil, List.length_cons, List.length_nil, List.cons_append, List.nil_append, Option.some.injEq, Slot.val.injEq, Slot.own.injEq, PV.int.injEq, PV.bl.injEq, PV.str.injEq, PV.ref.injEq, PV.lst.injEq, PV.tup.injEq, exists_eq_left', exists_eq_left, and_true, true_and, true_or, or_true, and_self, reduceCtorEq, gAdd, gSubI, gMul, gDiv, gMod, gPow, gLt, gLe, gGt, gGe, gIx, gNeg, eqB_int, gEq_int, gNe_int, gEq_str, gNe_str, if_true, if_false, Bool.false_eq_true, Nat.reduceAdd, Nat.zero_add, Bool.not_true, Bool.not_false, atI_c0, atI_c1, atI_c2, sset (show (bellsL s).length < 64 by omega)]
  exact ⟨_, rfl, hR⟩
end Wb

namespace Sq
open PySem L2 Mw Lw
abbrev k_LETTERS : PV := .str "abcdefghijklmnopqrstuvwxyz"
abbrev k_MOST_DEEP : PV := .int 5
abbrev k_MOST_SIGNS : PV := .int 8
abbrev k_MOST_VALUE : PV := .int 9
abbrev k_TWO_PARTS : PV := .tup [.str "plus", .str "minus", .str "less", .str "same", .str "both"]
def r_is_word_0 : SM := (mRet (mC (.bl false)))
def r_is_word_1 : SM := (mRet (mArg gAll (mCons (mLc (mIter (mVar 0)) [1] (tgN 1) mYes (mBin gIn (mPeek 1) (mC k_LETTERS))) mNil)))
def r_is_word : SM := (mSeq (mIf (mOrT (mNotT (mAsT (mArg gIsi (mCons (mPeek 0) (mCons (mC (.ty .str)) mNil))))) (mNotT (mChainT gLe gLe (mC (.int 1)) (mArg gLen (mCons (mPeek 0) mNil)) (mC k_MOST_SIGNS)))) (r_is_word_0) mNext) (r_is_word_1))
abbrev N_is_word : List Str := ["thing", "sign"]
def r_is_value : SM := (mRet (mAndE (mArg gIsi (mCons (mPeek 0) (mCons (mC (.ty .int)) mNil))) (mAndE (mNotE (mArg gIsi (mCons (mPeek 0) (mCons (mC (.ty .bool)) mNil)))) (mChain gLe gLe (mC (.int 0)) (mPeek 0) (mC k_MOST_VALUE)))))
abbrev N_is_value : List Str := ["thing"]
def r_is_sum_within_0 : SM := (mRet (mC (.bl false)))
def r_is_sum_within_2 (S_is_word : FSpec) (S_is_value : FSpec) : SM := (mRet (mOrE (mCall 1 S_is_value (mCons (mVar 0) mNil)) (mCall 1 S_is_word (mCons (mVar 0) mNil))))
def r_is_sum_within_4 : SM := (mRet (mC (.bl false)))
def r_is_sum_within_6 (S_is_word : FSpec) : SM := (mRet (mAndE (mBin gEq (mArg gLen (mCons (mPeek 0) mNil)) (mC (.int 2))) (mCall 1 S_is_word (mCons (mBin gIx (mPeek 0) (mC (.int 1))) mNil))))
def r_is_sum_within_8 (S_is_sum_within : FSpec) : SM := (mRet (mAndE (mBin gEq (mArg gLen (mCons (mPeek 0) mNil)) (mC (.int 2))) (mCall 2 S_is_sum_within (mCons (mBin gIx (mPeek 0) (mC (.int 1))) (mCons (mBin gSubI (mPeek 1) (mC (.int 1))) mNil)))))
def r_is_sum_within_10 : SM := (mRet (mC (.bl false)))
def r_is_sum_within_11 (S_is_sum_within : FSpec) : SM := (mRet (mAndE (mCall 2 S_is_sum_within (mCons (mBin gIx (mPeek 0) (mC (.int 1))) (mCons (mBin gSubI (mPeek 1) (mC (.int 1))) mNil))) (mCall 2 S_is_sum_within (mCons (mBin gIx (mPeek 0) (mC (.int 2))) (mCons (mBin gSubI (mPeek 1) (mC (.int 1))) mNil)))))
def r_is_sum_within_9 (S_is_sum_within : FSpec) : SM := (mSeq (mIf (mOrT (mBinT gNotIn (mBin gIx (mPeek 0) (mC (.int 0))) (mC k_TWO_PARTS)) (mBinT gNe (mArg gLen (mCons (mPeek 0) mNil)) (mC (.int 3)))) (r_is_sum_within_10) mNext) (r_is_sum_within_11 S_is_sum_within))
def r_is_sum_within_7 (S_is_sum_within : FSpec) : SM := (mSeq (mIf (mBinT gEq (mBin gIx (mPeek 0) (mC (.int 0))) (mC (.str "not"))) (r_is_sum_within_8 S_is_sum_within) mNext) (r_is_sum_within_9 S_is_sum_within))
def r_is_sum_within_5 (S_is_word : FSpec) (S_is_sum_within : FSpec) : SM := (mSeq (mIf (mBinT gEq (mBin gIx (mPeek 0) (mC (.int 0))) (mC (.str "waits"))) (r_is_sum_within_6 S_is_word) mNext) (r_is_sum_within_7 S_is_sum_within))
def r_is_sum_within_3 (S_is_word : FSpec) (S_is_sum_within : FSpec) : SM := (mSeq (mIf (mOrT (mBinT gLt (mArg gLen (mCons (mPeek 0) mNil)) (mC (.int 2))) (mNotT (mAsT (mArg gIsi (mCons (mBin gIx (mPeek 0) (mC (.int 0))) (mCons (mC (.ty .str)) mNil)))))) (r_is_sum_within_4) mNext) (r_is_sum_within_5 S_is_word S_is_sum_within))
def r_is_sum_within_1 (S_is_word : FSpec) (S_is_value : FSpec) (S_is_sum_within : FSpec) : SM := (mSeq (mIf (mNotT (mAsT (mArg gIsi (mCons (mPeek 0) (mCons (mC (.ty .tup)) mNil))))) (r_is_sum_within_2 S_is_word S_is_value) mNext) (r_is_sum_within_3 S_is_word S_is_sum_within))
def r_is_sum_within (S_is_word : FSpec) (S_is_value : FSpec) (S_is_sum_within : FSpec) : SM := (mSeq (mIf (mBinT gEq (mPeek 1) (mC (.int 0))) (r_is_sum_within_0) mNext) (r_is_sum_within_1 S_is_word S_is_value S_is_sum_within))
abbrev N_is_sum_within : List Str := ["thing", "deep"]
def r_is_sum (S_is_sum_within : FSpec) : SM := (mRet (mCall 2 S_is_sum_within (mCons (mVar 0) (mCons (mC k_MOST_DEEP) mNil))))
abbrev N_is_sum : List Str := ["thing"]
/-- comprehensions that change nothing -/
theorem lc_pure {src want : List PV} {tg : PV → En → Option En} {me : EM PV} {epw : En} {ps : List PV} {et : Hi} {R : PV → Hi → Prop} (f : PV → PV) (h : src.map (deref et) = want) (hl : ps.length ≤ sizeLine)
    (step : ∀ p ∈ ps, ∃ ep1, tg p epw = some ep1 ∧ ∀ Q : PV → Hi → Prop, Q (f p) et → me ep1 et Q) (fin : R (.lst (ps.map f)) et) : lcGo src want tg mYes me epw ps et R := by
  refine ⟨fun i acc et1 => et1 = et ∧ acc = (ps.take i).map f ∧ i ≤ ps.length, ⟨rfl, by simp, Nat.zero_le _⟩, ?_⟩
  rintro i acc et1 ⟨rfl, rfl, hi⟩
  refine ⟨h, fun p hp => ?_, fun e => ?_⟩
  · obtain ⟨ep1, h1, h2⟩ := step p (List.mem_of_getElem? hp)
    have hlt := (List.getElem?_eq_some_iff.mp hp).1
    refine ⟨ep1, h1, ?_⟩
    simp only [mYes, if_true]
    refine h2 _ ⟨by rw [List.length_map, List.length_take]; omega, rfl, ?_, hlt⟩
    rw [List.take_succ, hp, List.map_append]; rfl
  · rw [e, List.take_length]; exact fin
def wordB : PV → Bool
  | .str x => isWord x
  | _ => false
def valB : PV → Bool
  | .int i => decide (0 ≤ i) && decide (i ≤ 9)
  | _ => false
/-- plain data with texts that fit -/
def fitP : PV → Bool
  | .non => true
  | .bl _ => true
  | .int _ => true
  | .str x => decide (x.cps.size ≤ sizeLine)
  | .tup _ => true
  | .lst _ => true
  | .dic _ => true
  | _ => false
def spPure (f : PV → PV) (dom : PV → Bool) : FSpec := fun args et R => ∃ p, args = [p] ∧ dom p = true ∧ R (f p) et
theorem isi_str {p : PV} (h : fitP p = true) : gIsi [p, .ty .str] = some (.bl (match p with | .str _ => true | _ => false)) := by cases p <;> first | rfl | cases h
theorem isi_int {p : PV} (h : fitP p = true) : gIsi [p, .ty .int] = some (.bl (match p with | .int _ => true | .bl _ => true | _ => false)) := by cases p <;> first | rfl | cases h
theorem isi_bool {p : PV} (h : fitP p = true) : gIsi [p, .ty .bool] = some (.bl (match p with | .bl _ => true | _ => false)) := by cases p <;> first | rfl | cases h
theorem isi_tup {p : PV} (h : fitP p = true) : gIsi [p, .ty .tup] = some (.bl (match p with | .tup _ => true | _ => false)) := by cases p <;> first | rfl | cases h
theorem fit_deref {p : PV} {et : Hi} (h : fitP p = true) : deref et p = p := by cases p <;> first | rfl | cases h
theorem bls_map (f : PV → Bool) (xs : List PV) : bls (xs.map fun p => .bl (f p)) = some (xs.map f) := by
  induction xs with
  | nil => rfl
  | cons x xs ih => simp [bls, ih]
theorem letters_mem (c : Nat) : c ∈ letters.cps.toList ↔ 97 ≤ c ∧ c ≤ 122 := by
  rw [letters_list]
  simp only [List.mem_map, List.mem_range]
  constructor
  · rintro ⟨j, h, rfl⟩; omega
  · intro h; exact ⟨c - 97, by omega, by omega⟩
theorem is_word_ok (args : List PV) (et : Hi) (R : PV → Hi → Prop) (h : spPure (fun p => .bl (wordB p)) fitP args et R) : r_is_word (env0 N_is_word args) et (retK R) := by
  obtain ⟨p, rfl, hp, hR⟩ := h
  show r_is_word [.val p, .no] et (retK R)
  unfold r_is_word
  have hd := fit_deref (et := et) hp
  simp only [mSeq, mSet, mSetN, mSetX, mExpr, mExprX, mRet, mRetN, mRetX, mIf, mNext, mPass, mBrk, mCnt, mFrz, mAsg, mAsgX, mPar, mParN, mBin, mUn, mArg, mC, mVar, mPeek, mCall, mCons, mNil, mTup, mLst, mBinT, mAsT, mNotT, mAndT, mOrT, mAndE, mOrE, mNotE, mIfE, mChain, mChainT, mSl, mO0, mO1, mIter, mRng1, mRng2, mZip, mEnum, mMut, mMutR, mSubSet, mShare, mMeth, mFor, mLc, mYes, slotV, frzS, tgN, tgT, tgNs, wipeE, retK, mAug, List.foldl_cons, List.foldl_nil, deref_int, deref_str, deref_bl, deref_non, deref_tup, deref_lst, deref_scr, deref_dic, deref_ty, isLst, cellP, List.getElem?_cons_zero, List.getElem?_cons_succ, List.getElem?_nil, List.set_cons_zero, List.set_cons_succ, List.map_cons, List.map_nil, List.length_cons, List.length_nil, List.cons_append, List.nil_append, Option.some.injEq, Slot.val.injEq, Slot.own.injEq, PV.int.injEq, PV.bl.injEq, PV.str.injEq, PV.ref.injEq, PV.lst.injEq, PV.tup.injEq, exists_eq_left', exists_eq_left, and_true, true_and, true_or, or_true, and_self, reduceCtorEq, gAdd, gSubI, gMul, gDiv, gMod, gPow, gLt, gLe, gGt, gGe, gIx, gNeg, eqB_int, gEq_int, gNe_int, gEq_str, gNe_str, if_true, if_false, Bool.false_eq_true, Nat.reduceAdd, Nat.zero_add, Bool.not_true, Bool.not_false, atI_c0, atI_c1, atI_c2, hd, isi_str hp]
  cases p with
  | str x =>
    simp only [fitP, decide_eq_true_eq] at hp
    have hlen : gLen [.str x] = some (.int x.cps.size) := by show (if x.length ≤ sizeLine then some (PV.int x.length) else none) = _; rw [if_pos (show x.length ≤ sizeLine from hp)]; rfl
    simp only [mSeq, mSet, mSetN, mSetX, mExpr, mExprX, mRet, mRetN, mRetX, mIf, mNext, mPass, mBrk, mCnt, mFrz, mAsg, mAsgX, mPar, mParN, mBin, mUn, mArg, mC, mVar, mPeek, mCall, mCons, mNil, mTup, mLst, mBinT, mAsT, mNotT, mAndT, mOrT, mAndE, mOrE, mNotE, mIfE, mChain, mChainT, mSl, mO0, mO1, mIter, mRng1, mRng2, mZip, mEnum, mMut, mMutR, mSubSet, mShare, mMeth, mFor, mLc, mYes, slotV, frzS, tgN, tgT, tgNs, wipeE, retK, mAug, List.foldl_cons, List.foldl_nil, deref_int, deref_str, deref_bl, deref_non, deref_tup, deref_lst, deref_scr, deref_dic, deref_ty, isLst, cellP, List.getElem?_cons_zero, List.getElem?_cons_succ, List.getElem?_nil, List.set_cons_zero, List.set_cons_succ, List.map_cons, List.map_nil, List.length_cons, List.length_nil, List.cons_append, List.nil_append, Option.some.injEq, Slot.val.injEq, Slot.own.injEq, PV.int.injEq, PV.bl.injEq, PV.str.injEq, PV.ref.injEq, PV.lst.injEq, PV.tup.injEq, exists_eq_left', exists_eq_left, and_true, true_and, true_or, or_true, and_self, reduceCtorEq, gAdd, gSubI, gMul, gDiv, gMod, gPow, gLt, gLe, gGt, gGe, gIx, gNeg, eqB_int, gEq_int, gNe_int, gEq_str, gNe_str, if_true, if_false, Bool.false_eq_true, Nat.reduceAdd, Nat.zero_add, Bool.not_true, Bool.not_false, atI_c0, atI_c1, atI_c2, hlen]
    by_cases h1 : (1 : Int) ≤ x.cps.size
    · simp only [h1, decide_true, if_true]
      by_cases h2 : (x.cps.size : Int) ≤ 8
      · simp only [h2, decide_true, Bool.not_true, Bool.false_eq_true, if_false]
        unfold r_is_word_1
        simp only [mSeq, mSet, mSetN, mSetX, mExpr, mExprX, mRet, mRetN, mRetX, mIf, mNext, mPass, mBrk, mCnt, mFrz, mAsg, mAsgX, mPar, mParN, mBin, mUn, mArg, mC, mVar, mPeek, mCall, mCons, mNil, mTup, mLst, mBinT, mAsT, mNotT, mAndT, mOrT, mAndE, mOrE, mNotE, mIfE, mChain, mChainT, mSl, mO0, mO1, mIter, mRng1, mRng2, mZip, mEnum, mMut, mMutR, mSubSet, mShare, mMeth, mFor, mLc, mYes, slotV, frzS, tgN, tgT, tgNs, wipeE, retK, mAug, List.foldl_cons, List.foldl_nil, deref_int, deref_str, deref_bl, deref_non, deref_tup, deref_lst, deref_scr, deref_dic, deref_ty, isLst, cellP, List.getElem?_cons_zero, List.getElem?_cons_succ, List.getElem?_nil, List.set_cons_zero, List.set_cons_succ, List.map_cons, List.map_nil, List.length_cons, List.length_nil, List.cons_append, List.nil_append, Option.some.injEq, Slot.val.injEq, Slot.own.injEq, PV.int.injEq, PV.bl.injEq, PV.str.injEq, PV.ref.injEq, PV.lst.injEq, PV.tup.injEq, exists_eq_left', exists_eq_left, and_true, true_and, true_or, or_true, and_self, reduceCtorEq, gAdd, gSubI, gMul, gDiv, gMod, gPow, gLt, gLe, gGt, gGe, gIx, gNeg, eqB_int, gEq_int, gNe_int, gEq_str, gNe_str, if_true, if_false, Bool.false_eq_true, Nat.reduceAdd, Nat.zero_add, Bool.not_true, Bool.not_false, atI_c0, atI_c1, atI_c2, itemsP]
        refine lc_pure (fun p => .bl (match p with | .str s => decide (s.cps.getD 0 0 ∈ letters.cps.toList) | _ => false)) rfl (by unfold signs; rw [List.length_map, Array.length_toList]; exact hp) (fun q hq => ?_) ?_
        · obtain ⟨c, hc, rfl⟩ := List.mem_map.mp hq
          refine ⟨_, rfl, fun Q hQ => ?_⟩
          simp only [mSeq, mSet, mSetN, mSetX, mExpr, mExprX, mRet, mRetN, mRetX, mIf, mNext, mPass, mBrk, mCnt, mFrz, mAsg, mAsgX, mPar, mParN, mBin, mUn, mArg, mC, mVar, mPeek, mCall, mCons, mNil, mTup, mLst, mBinT, mAsT, mNotT, mAndT, mOrT, mAndE, mOrE, mNotE, mIfE, mChain, mChainT, mSl, mO0, mO1, mIter, mRng1, mRng2, mZip, mEnum, mMut, mMutR, mSubSet, mShare, mMeth, mFor, mLc, mYes, slotV, frzS, tgN, tgT, tgNs, wipeE, retK, mAug, List.foldl_cons, List.foldl_nil, deref_int, deref_str, deref_bl, deref_non, deref_tup, deref_lst, deref_scr, deref_dic, deref_ty, isLst, cellP, List.getElem?_cons_zero, List.getElem?_cons_succ, List.getElem?_nil, List.set_cons_zero, List.set_cons_succ, List.map_cons, List.map_nil, List.length_cons, List.length_nil, List.cons_append, List.nil_append, Option.some.injEq, Slot.val.injEq, Slot.own.injEq, PV.int.injEq, PV.bl.injEq, PV.str.injEq, PV.ref.injEq, PV.lst.injEq, PV.tup.injEq, exists_eq_left', exists_eq_left, and_true, true_and, true_or, or_true, and_self, reduceCtorEq, gAdd, gSubI, gMul, gDiv, gMod, gPow, gLt, gLe, gGt, gGe, gIx, gNeg, eqB_int, gEq_int, gNe_int, gEq_str, gNe_str, if_true, if_false, Bool.false_eq_true, Nat.reduceAdd, Nat.zero_add, Bool.not_true, Bool.not_false, atI_c0, atI_c1, atI_c2]
          exact ⟨_, rfl, hQ⟩
        · have e : (List.map (fun p => match p with | PV.str s => decide (s.cps.getD 0 0 ∈ letters.cps.toList) | _ => false) (signs x)).all id = wordB (.str x) := by
            unfold signs wordB isWord
            have g1 : 1 ≤ x.cps.size := by omega
            have g2 : x.cps.size ≤ 8 := by omega
            simp only [g1, g2, decide_true, Bool.true_and, List.map_map, List.all_map]
            congr 1
            funext c
            simp only [Function.comp, id]
            show decide (c ∈ letters.cps.toList) = _
            rw [Bool.eq_iff_iff, decide_eq_true_eq, letters_mem]
            simp
          refine ⟨.bl (wordB (.str x)), ?_, hR⟩
          show (bls (List.map (fun p => PV.bl (match p with | PV.str s => decide (s.cps.getD 0 0 ∈ letters.cps.toList) | _ => false)) (signs x))).map _ = _
          rw [bls_map (fun p => match p with | PV.str s => decide (s.cps.getD 0 0 ∈ letters.cps.toList) | _ => false)]
          simp only [Option.map_some, e]
      · simp only [h2, decide_false, Bool.not_false, if_true]
        unfold r_is_word_0
        simp only [mSeq, mSet, mSetN, mSetX, mExpr, mExprX, mRet, mRetN, mRetX, mIf, mNext, mPass, mBrk, mCnt, mFrz, mAsg, mAsgX, mPar, mParN, mBin, mUn, mArg, mC, mVar, mPeek, mCall, mCons, mNil, mTup, mLst, mBinT, mAsT, mNotT, mAndT, mOrT, mAndE, mOrE, mNotE, mIfE, mChain, mChainT, mSl, mO0, mO1, mIter, mRng1, mRng2, mZip, mEnum, mMut, mMutR, mSubSet, mShare, mMeth, mFor, mLc, mYes, slotV, frzS, tgN, tgT, tgNs, wipeE, retK, mAug, List.foldl_cons, List.foldl_nil, deref_int, deref_str, deref_bl, deref_non, deref_tup, deref_lst, deref_scr, deref_dic, deref_ty, isLst, cellP, List.getElem?_cons_zero, List.getElem?_cons_succ, List.getElem?_nil, List.set_cons_zero, List.set_cons_succ, List.map_cons, List.map_nil, List.length_cons, List.length_nil, List.cons_append, List.nil_append, Option.some.injEq, Slot.val.injEq, Slot.own.injEq, PV.int.injEq, PV.bl.injEq, PV.str.injEq, PV.ref.injEq, PV.lst.injEq, PV.tup.injEq, exists_eq_left', exists_eq_left, and_true, true_and, true_or, or_true, and_self, reduceCtorEq, gAdd, gSubI, gMul, gDiv, gMod, gPow, gLt, gLe, gGt, gGe, gIx, gNeg, eqB_int, gEq_int, gNe_int, gEq_str, gNe_str, if_true, if_false, Bool.false_eq_true, Nat.reduceAdd, Nat.zero_add, Bool.not_true, Bool.not_false, atI_c0, atI_c1, atI_c2]
        have : wordB (.str x) = false := by unfold wordB isWord; have : ¬ x.cps.size ≤ 8 := by omega
                                            simp [this]
        simp only [this] at hR; exact hR
    · simp only [h1, decide_false, Bool.false_eq_true, if_false, Bool.not_false, if_true]
      unfold r_is_word_0
      simp only [mSeq, mSet, mSetN, mSetX, mExpr, mExprX, mRet, mRetN, mRetX, mIf, mNext, mPass, mBrk, mCnt, mFrz, mAsg, mAsgX, mPar, mParN, mBin, mUn, mArg, mC, mVar, mPeek, mCall, mCons, mNil, mTup, mLst, mBinT, mAsT, mNotT, mAndT, mOrT, mAndE, mOrE, mNotE, mIfE, mChain, mChainT, mSl, mO0, mO1, mIter, mRng1, mRng2, mZip, mEnum, mMut, mMutR, mSubSet, mShare, mMeth, mFor, mLc, mYes, slotV, frzS, tgN, tgT, tgNs, wipeE, retK, mAug, List.foldl_cons, List.foldl_nil, deref_int, deref_str, deref_bl, deref_non, deref_tup, deref_lst, deref_scr, deref_dic, deref_ty, isLst, cellP, List.getElem?_cons_zero, List.getElem?_cons_succ, List.getElem?_nil, List.set_cons_zero, List.set_cons_succ, List.map_cons, List.map_nil, List.length_cons, List.length_nil, List.cons_append, List.nil_append, Option.some.injEq, Slot.val.injEq, Slot.own.injEq, PV.int.injEq, PV.bl.injEq, PV.str.injEq, PV.ref.injEq, PV.lst.injEq, PV.tup.injEq, exists_eq_left', exists_eq_left, and_true, true_and, true_or, or_true, and_self, reduceCtorEq, gAdd, gSubI, gMul, gDiv, gMod, gPow, gLt, gLe, gGt, gGe, gIx, gNeg, eqB_int, gEq_int, gNe_int, gEq_str, gNe_str, if_true, if_false, Bool.false_eq_true, Nat.reduceAdd, Nat.zero_add, Bool.not_true, Bool.not_false, atI_c0, atI_c1, atI_c2]
      have : wordB (.str x) = false := by unfold wordB isWord; have : ¬ 1 ≤ x.cps.size := by omega
                                          simp [this]
      simp only [this] at hR; exact hR
  | _ => first | (cases hp; done) | (simp only [mSeq, mSet, mSetN, mSetX, mExpr, mExprX, mRet, mRetN, mRetX, mIf, mNext, mPass, mBrk, mCnt, mFrz, mAsg, mAsgX, mPar, mParN, mBin, mUn, mArg, mC, mVar, mPeek, mCall, mCons, mNil, mTup, mLst, mBinT, mAsT, mNotT, mAndT, mOrT, mAndE, mOrE, mNotE, mIfE, mChain, mChainT, mSl, mO0, mO1, mIter, mRng1, mRng2, mZip, mEnum, mMut, mMutR, mSubSet, mShare, mMeth, mFor, mLc, mYes, slotV, frzS, tgN, tgT, tgNs, wipeE, retK, mAug, List.foldl_cons, List.foldl_nil, deref_int, deref_str, deref_bl, deref_non, deref_tup, deref_lst, deref_scr, deref_dic, deref_ty, isLst, cellP, List.getElem?_cons_zero, List.getElem?_cons_succ, List.getElem?_nil, List.set_cons_zero, List.set_cons_succ, List.map_cons, List.map_nil, List.length_cons, List.length_nil, List.cons_append, List.nil_append, Option.some.injEq, Slot.val.injEq, Slot.own.injEq, PV.int.injEq, PV.bl.injEq, PV.str.injEq, PV.ref.injEq, PV.lst.injEq, PV.tup.injEq, exists_eq_left', exists_eq_left, and_true, true_and, true_or, or_true, and_self, reduceCtorEq, gAdd, gSubI, gMul, gDiv, gMod, gPow, gLt, gLe, gGt, gGe, gIx, gNeg, eqB_int, gEq_int, gNe_int, gEq_str, gNe_str, if_true, if_false, Bool.false_eq_true, Nat.reduceAdd, Nat.zero_add, Bool.not_true, Bool.not_false, atI_c0, atI_c1, atI_c2]; unfold r_is_word_0; simp only [mSeq, mSet, mSetN, mSetX, mExpr, mExprX, mRet, mRetN, mRetX, mIf, mNext, mPass, mBrk, mCnt, mFrz, mAsg, mAsgX, mPar, mParN, mBin, mUn, mArg, mC, mVar, mPeek, mCall, mCons, mNil, mTup, mLst, mBinT, mAsT, mNotT, mAndT, mOrT, mAndE, mOrE, mNotE, mIfE, mChain, mChainT, mSl, mO0, mO1, mIter, mRng1, mRng2, mZip, mEnum, mMut, mMutR, mSubSet, mShare, mMeth, mFor, mLc, mYes, slotV, frzS, tgN, tgT, tgNs, wipeE, retK, mAug, List.foldl_cons, List.foldl_nil, deref_int, deref_str, deref_bl, deref_non, deref_tup, deref_lst, deref_scr, deref_dic, deref_ty, isLst, cellP, List.getElem?_cons_zero, List.getElem?_cons_succ, List.getElem?_nil, List.set_cons_zero, List.set_cons_succ, List.map_cons, List.map_nil, List.length_cons, List.length_nil, List.cons_append, List.nil_append, Option.some.injEq, Slot.val.injEq, Slot.own.injEq, PV.int.injEq, PV.bl.injEq, PV.str.injEq, PV.ref.injEq, PV.lst.injEq, PV.tup.injEq, exists_eq_left', exists_eq_left, and_true, true_and, true_or, or_true, and_self, reduceCtorEq, gAdd, gSubI, gMul, gDiv, gMod, gPow, gLt, gLe, gGt, gGe, gIx, gNeg, eqB_int, gEq_int, gNe_int, gEq_str, gNe_str, if_true, if_false, Bool.false_eq_true, Nat.reduceAdd, Nat.zero_add, Bool.not_true, Bool.not_false, atI_c0, atI_c1, atI_c2]; exact hR)
theorem is_value_ok (args : List PV) (et : Hi) (R : PV → Hi → Prop) (h : spPure (fun p => .bl (valB p)) fitP args et R) : r_is_value (env0 N_is_value args) et (retK R) := by
  obtain ⟨p, rfl, hp, hR⟩ := h
  show r_is_value [.val p] et (retK R)
  unfold r_is_value
  have hd := fit_deref (et := et) hp
  simp only [mSeq, mSet, mSetN, mSetX, mExpr, mExprX, mRet, mRetN, mRetX, mIf, mNext, mPass, mBrk, mCnt, mFrz, mAsg, mAsgX, mPar, mParN, mBin, mUn, mArg, mC, mVar, mPeek, mCall, mCons, mNil, mTup, mLst, mBinT, mAsT, mNotT, mAndT, mOrT, mAndE, mOrE, mNotE, mIfE, mChain, mChainT, mSl, mO0, mO1, mIter, mRng1, mRng2, mZip, mEnum, mMut, mMutR, mSubSet, mShare, mMeth, mFor, mLc, mYes, slotV, frzS, tgN, tgT, tgNs, wipeE, retK, mAug, List.foldl_cons, List.foldl_nil, deref_int, deref_str, deref_bl, deref_non, deref_tup, deref_lst, deref_scr, deref_dic, deref_ty, isLst, cellP, List.getElem?_cons_zero, List.getElem?_cons_succ, List.getElem?_nil, List.set_cons_zero, List.set_cons_succ, List.map_cons, List.map_nil, List.length_cons, List.length_nil, List.cons_append, List.nil_append, Option.some.injEq, Slot.val.injEq, Slot.own.injEq, PV.int.injEq, PV.bl.injEq, PV.str.injEq, PV.ref.injEq, PV.lst.injEq, PV.tup.injEq, exists_eq_left', exists_eq_left, and_true, true_and, true_or, or_true, and_self, reduceCtorEq, gAdd, gSubI, gMul, gDiv, gMod, gPow, gLt, gLe, gGt, gGe, gIx, gNeg, eqB_int, gEq_int, gNe_int, gEq_str, gNe_str, if_true, if_false, Bool.false_eq_true, Nat.reduceAdd, Nat.zero_add, Bool.not_true, Bool.not_false, atI_c0, atI_c1, atI_c2, hd, isi_int hp, isi_bool hp]
  cases p with
  | int i =>
    simp only [mSeq, mSet, mSetN, mSetX, mExpr, mExprX, mRet, mRetN, mRetX, mIf, mNext, mPass, mBrk, mCnt, mFrz, mAsg, mAsgX, mPar, mParN, mBin, mUn, mArg, mC, mVar, mPeek, mCall, mCons, mNil, mTup, mLst, mBinT, mAsT, mNotT, mAndT, mOrT, mAndE, mOrE, mNotE, mIfE, mChain, mChainT, mSl, mO0, mO1, mIter, mRng1, mRng2, mZip, mEnum, mMut, mMutR, mSubSet, mShare, mMeth, mFor, mLc, mYes, slotV, frzS, tgN, tgT, tgNs, wipeE, retK, mAug, List.foldl_cons, List.foldl_nil, deref_int, deref_str, deref_bl, deref_non, deref_tup, deref_lst, deref_scr, deref_dic, deref_ty, isLst, cellP, List.getElem?_cons_zero, List.getElem?_cons_succ, List.getElem?_nil, List.set_cons_zero, List.set_cons_succ, List.map_cons, List.map_nil, List.length_cons, List.length_nil, List.cons_append, List.nil_append, Option.some.injEq, Slot.val.injEq, Slot.own.injEq, PV.int.injEq, PV.bl.injEq, PV.str.injEq, PV.ref.injEq, PV.lst.injEq, PV.tup.injEq, exists_eq_left', exists_eq_left, and_true, true_and, true_or, or_true, and_self, reduceCtorEq, gAdd, gSubI, gMul, gDiv, gMod, gPow, gLt, gLe, gGt, gGe, gIx, gNeg, eqB_int, gEq_int, gNe_int, gEq_str, gNe_str, if_true, if_false, Bool.false_eq_true, Nat.reduceAdd, Nat.zero_add, Bool.not_true, Bool.not_false, atI_c0, atI_c1, atI_c2]
    by_cases h1 : (0 : Int) ≤ i
    · simp only [h1, decide_true, if_true]
      have : valB (.int i) = decide (i ≤ 9) := by simp [valB, h1]
      simp only [this] at hR
      exact hR
    · simp only [h1, decide_false, Bool.false_eq_true, if_false]
      have : valB (.int i) = false := by simp [valB, h1]
      simp only [this] at hR
      exact hR
  | _ => first | (cases hp; done) | (simp only [mSeq, mSet, mSetN, mSetX, mExpr, mExprX, mRet, mRetN, mRetX, mIf, mNext, mPass, mBrk, mCnt, mFrz, mAsg, mAsgX, mPar, mParN, mBin, mUn, mArg, mC, mVar, mPeek, mCall, mCons, mNil, mTup, mLst, mBinT, mAsT, mNotT, mAndT, mOrT, mAndE, mOrE, mNotE, mIfE, mChain, mChainT, mSl, mO0, mO1, mIter, mRng1, mRng2, mZip, mEnum, mMut, mMutR, mSubSet, mShare, mMeth, mFor, mLc, mYes, slotV, frzS, tgN, tgT, tgNs, wipeE, retK, mAug, List.foldl_cons, List.foldl_nil, deref_int, deref_str, deref_bl, deref_non, deref_tup, deref_lst, deref_scr, deref_dic, deref_ty, isLst, cellP, List.getElem?_cons_zero, List.getElem?_cons_succ, List.getElem?_nil, List.set_cons_zero, List.set_cons_succ, List.map_cons, List.map_nil, List.length_cons, List.length_nil, List.cons_append, List.nil_append, Option.some.injEq, Slot.val.injEq, Slot.own.injEq, PV.int.injEq, PV.bl.injEq, PV.str.injEq, PV.ref.injEq, PV.lst.injEq, PV.tup.injEq, exists_eq_left', exists_eq_left, and_true, true_and, true_or, or_true, and_self, reduceCtorEq, gAdd, gSubI, gMul, gDiv, gMod, gPow, gLt, gLe, gGt, gGe, gIx, gNeg, eqB_int, gEq_int, gNe_int, gEq_str, gNe_str, if_true, if_false, Bool.false_eq_true, Nat.reduceAdd, Nat.zero_add, Bool.not_true, Bool.not_false, atI_c0, atI_c1, atI_c2]; exact hR)

def twoB (w : Str) : Bool := decide (w = "plus") || decide (w = "minus") || decide (w = "less") || decide (w = "same") || decide (w = "both")
/-- a sum at most n deep -/
def sumIn : Nat → PV → Bool
  | 0, _ => false
  | n + 1, .tup xs => match xs with
    | .str w :: a :: r => if w = "waits" then r.isEmpty && wordB a else if w = "not" then r.isEmpty && sumIn n a else if twoB w = true then (match r with
      | [b] => sumIn n a && sumIn n b
      | _ => false) else false
    | _ => false
  | _ + 1, p => valB p || wordB p
/-- data that is fit at each depth -/
def fits : Nat → PV → Bool
  | 0, p => fitP p
  | n + 1, .tup xs => decide (xs.length ≤ sizeLine) && xs.all fun x => fits n x
  | _ + 1, p => fitP p
theorem fits_fit : ∀ {n : Nat} {p : PV}, fits n p = true → fitP p = true
  | 0, p, h => h
  | n + 1, p, h => by cases p <;> first | exact h | rfl
def spWithin : Nat → FSpec := fun j args et R => ∃ (p : PV) (deep : Nat), args = [p, .int deep] ∧ deep < j ∧ fits deep p = true ∧ R (.bl (sumIn deep p)) et
abbrev spWord : FSpec := spPure (fun p => .bl (wordB p)) fitP
abbrev spValue : FSpec := spPure (fun p => .bl (valB p)) fitP
theorem eq_len2 (n : Nat) : (decide ((n : Int) = 2)) = decide (n = 2) := by rw [Bool.eq_iff_iff]; simp; omega
theorem within_ok (j : Nat) (args : List PV) (et : Hi) (R : PV → Hi → Prop) (h : spWithin (j + 1) args et R) : r_is_sum_within spWord spValue (spWithin j) (env0 N_is_sum_within args) et (retK R) := by
  obtain ⟨p, deep, rfl, hj, hf, hR⟩ := h
  show r_is_sum_within _ _ _ [.val p, .val (.int deep)] et (retK R)
  have hp := fits_fit hf
  have hd := fit_deref (et := et) hp
  unfold r_is_sum_within
  simp only [mSeq, mSet, mSetN, mSetX, mExpr, mExprX, mRet, mRetN, mRetX, mIf, mNext, mPass, mBrk, mCnt, mFrz, mAsg, mAsgX, mPar, mParN, mBin, mUn, mArg, mC, mVar, mPeek, mCall, mCons, mNil, mTup, mLst, mBinT, mAsT, mNotT, mAndT, mOrT, mAndE, mOrE, mNotE, mIfE, mChain, mChainT, mSl, mO0, mO1, mIter, mRng1, mRng2, mZip, mEnum, mMut, mMutR, mSubSet, mShare, mMeth, mFor, mLc, mYes, slotV, frzS, tgN, tgT, tgNs, wipeE, retK, mAug, List.foldl_cons, List.foldl_nil, deref_int, deref_str, deref_bl, deref_non, deref_tup, deref_lst, deref_scr, deref_dic, deref_ty, isLst, cellP, List.getElem?_cons_zero, List.getElem?_cons_succ, List.getElem?_nil, List.set_cons_zero, List.set_cons_succ, List.map_cons, List.map_nil, List.length_cons, List.length_nil, List.cons_append, List.nil_append, Option.some.injEq, Slot.val.injEq, Slot.own.injEq, PV.int.injEq, PV.bl.injEq, PV.str.injEq, PV.ref.injEq, PV.lst.injEq, PV.tup.injEq, exists_eq_left', exists_eq_left, and_true, true_and, true_or, or_true, and_self, reduceCtorEq, gAdd, gSubI, gMul, gDiv, gMod, gPow, gLt, gLe, gGt, gGe, gIx, gNeg, eqB_int, gEq_int, gNe_int, gEq_str, gNe_str, if_true, if_false, Bool.false_eq_true, Nat.reduceAdd, Nat.zero_add, Bool.not_true, Bool.not_false, atI_c0, atI_c1, atI_c2]
  cases deep with
  | zero =>
    simp only [Int.natCast_zero, decide_true, if_true]
    unfold r_is_sum_within_0
    simp only [mSeq, mSet, mSetN, mSetX, mExpr, mExprX, mRet, mRetN, mRetX, mIf, mNext, mPass, mBrk, mCnt, mFrz, mAsg, mAsgX, mPar, mParN, mBin, mUn, mArg, mC, mVar, mPeek, mCall, mCons, mNil, mTup, mLst, mBinT, mAsT, mNotT, mAndT, mOrT, mAndE, mOrE, mNotE, mIfE, mChain, mChainT, mSl, mO0, mO1, mIter, mRng1, mRng2, mZip, mEnum, mMut, mMutR, mSubSet, mShare, mMeth, mFor, mLc, mYes, slotV, frzS, tgN, tgT, tgNs, wipeE, retK, mAug, List.foldl_cons, List.foldl_nil, deref_int, deref_str, deref_bl, deref_non, deref_tup, deref_lst, deref_scr, deref_dic, deref_ty, isLst, cellP, List.getElem?_cons_zero, List.getElem?_cons_succ, List.getElem?_nil, List.set_cons_zero, List.set_cons_succ, List.map_cons, List.map_nil, List.length_cons, List.length_nil, List.cons_append, List.nil_append, Option.some.injEq, Slot.val.injEq, Slot.own.injEq, PV.int.injEq, PV.bl.injEq, PV.str.injEq, PV.ref.injEq, PV.lst.injEq, PV.tup.injEq, exists_eq_left', exists_eq_left, and_true, true_and, true_or, or_true, and_self, reduceCtorEq, gAdd, gSubI, gMul, gDiv, gMod, gPow, gLt, gLe, gGt, gGe, gIx, gNeg, eqB_int, gEq_int, gNe_int, gEq_str, gNe_str, if_true, if_false, Bool.false_eq_true, Nat.reduceAdd, Nat.zero_add, Bool.not_true, Bool.not_false, atI_c0, atI_c1, atI_c2]
    exact hR
  | succ k =>
    have h0 : ¬ ((k + 1 : Nat) : Int) = 0 := by omega
    simp only [h0, decide_false, Bool.false_eq_true, if_false]
    unfold r_is_sum_within_1
    simp only [mSeq, mSet, mSetN, mSetX, mExpr, mExprX, mRet, mRetN, mRetX, mIf, mNext, mPass, mBrk, mCnt, mFrz, mAsg, mAsgX, mPar, mParN, mBin, mUn, mArg, mC, mVar, mPeek, mCall, mCons, mNil, mTup, mLst, mBinT, mAsT, mNotT, mAndT, mOrT, mAndE, mOrE, mNotE, mIfE, mChain, mChainT, mSl, mO0, mO1, mIter, mRng1, mRng2, mZip, mEnum, mMut, mMutR, mSubSet, mShare, mMeth, mFor, mLc, mYes, slotV, frzS, tgN, tgT, tgNs, wipeE, retK, mAug, List.foldl_cons, List.foldl_nil, deref_int, deref_str, deref_bl, deref_non, deref_tup, deref_lst, deref_scr, deref_dic, deref_ty, isLst, cellP, List.getElem?_cons_zero, List.getElem?_cons_succ, List.getElem?_nil, List.set_cons_zero, List.set_cons_succ, List.map_cons, List.map_nil, List.length_cons, List.length_nil, List.cons_append, List.nil_append, Option.some.injEq, Slot.val.injEq, Slot.own.injEq, PV.int.injEq, PV.bl.injEq, PV.str.injEq, PV.ref.injEq, PV.lst.injEq, PV.tup.injEq, exists_eq_left', exists_eq_left, and_true, true_and, true_or, or_true, and_self, reduceCtorEq, gAdd, gSubI, gMul, gDiv, gMod, gPow, gLt, gLe, gGt, gGe, gIx, gNeg, eqB_int, gEq_int, gNe_int, gEq_str, gNe_str, if_true, if_false, Bool.false_eq_true, Nat.reduceAdd, Nat.zero_add, Bool.not_true, Bool.not_false, atI_c0, atI_c1, atI_c2, hd, isi_tup hp]
    have plain : (∀ xs, p ≠ .tup xs) → r_is_sum_within_2 spWord spValue [.val p, .val (.int ((k + 1 : Nat) : Int))] et (retK R) := fun hn => by
      unfold r_is_sum_within_2
      simp only [mSeq, mSet, mSetN, mSetX, mExpr, mExprX, mRet, mRetN, mRetX, mIf, mNext, mPass, mBrk, mCnt, mFrz, mAsg, mAsgX, mPar, mParN, mBin, mUn, mArg, mC, mVar, mPeek, mCall, mCons, mNil, mTup, mLst, mBinT, mAsT, mNotT, mAndT, mOrT, mAndE, mOrE, mNotE, mIfE, mChain, mChainT, mSl, mO0, mO1, mIter, mRng1, mRng2, mZip, mEnum, mMut, mMutR, mSubSet, mShare, mMeth, mFor, mLc, mYes, slotV, frzS, tgN, tgT, tgNs, wipeE, retK, mAug, List.foldl_cons, List.foldl_nil, deref_int, deref_str, deref_bl, deref_non, deref_tup, deref_lst, deref_scr, deref_dic, deref_ty, isLst, cellP, List.getElem?_cons_zero, List.getElem?_cons_succ, List.getElem?_nil, List.set_cons_zero, List.set_cons_succ, List.map_cons, List.map_nil, List.length_cons, List.length_nil, List.cons_append, List.nil_append, Option.some.injEq, Slot.val.injEq, Slot.own.injEq, PV.int.injEq, PV.bl.injEq, PV.str.injEq, PV.ref.injEq, PV.lst.injEq, PV.tup.injEq, exists_eq_left', exists_eq_left, and_true, true_and, true_or, or_true, and_self, reduceCtorEq, gAdd, gSubI, gMul, gDiv, gMod, gPow, gLt, gLe, gGt, gGe, gIx, gNeg, eqB_int, gEq_int, gNe_int, gEq_str, gNe_str, if_true, if_false, Bool.false_eq_true, Nat.reduceAdd, Nat.zero_add, Bool.not_true, Bool.not_false, atI_c0, atI_c1, atI_c2]
      have e : sumIn (k + 1) p = (valB p || wordB p) := by cases p <;> first | rfl | exact absurd rfl (hn _)
      rw [e] at hR
      refine ⟨p, rfl, hp, _, rfl, ?_⟩
      cases hv : valB p with
      | true => simp only [if_true]; rw [hv] at hR; exact hR
      | false => simp only [Bool.false_eq_true, if_false]; rw [hv] at hR; exact ⟨p, rfl, hp, hR⟩
    cases p with
    | tup xs =>
      simp only [Bool.not_true, Bool.false_eq_true, if_false]
      unfold r_is_sum_within_3
      have hlen : gLen [.tup xs] = some (.int xs.length) := rfl
      simp only [mSeq, mSet, mSetN, mSetX, mExpr, mExprX, mRet, mRetN, mRetX, mIf, mNext, mPass, mBrk, mCnt, mFrz, mAsg, mAsgX, mPar, mParN, mBin, mUn, mArg, mC, mVar, mPeek, mCall, mCons, mNil, mTup, mLst, mBinT, mAsT, mNotT, mAndT, mOrT, mAndE, mOrE, mNotE, mIfE, mChain, mChainT, mSl, mO0, mO1, mIter, mRng1, mRng2, mZip, mEnum, mMut, mMutR, mSubSet, mShare, mMeth, mFor, mLc, mYes, slotV, frzS, tgN, tgT, tgNs, wipeE, retK, mAug, List.foldl_cons, List.foldl_nil, deref_int, deref_str, deref_bl, deref_non, deref_tup, deref_lst, deref_scr, deref_dic, deref_ty, isLst, cellP, List.getElem?_cons_zero, List.getElem?_cons_succ, List.getElem?_nil, List.set_cons_zero, List.set_cons_succ, List.map_cons, List.map_nil, List.length_cons, List.length_nil, List.cons_append, List.nil_append, Option.some.injEq, Slot.val.injEq, Slot.own.injEq, PV.int.injEq, PV.bl.injEq, PV.str.injEq, PV.ref.injEq, PV.lst.injEq, PV.tup.injEq, exists_eq_left', exists_eq_left, and_true, true_and, true_or, or_true, and_self, reduceCtorEq, gAdd, gSubI, gMul, gDiv, gMod, gPow, gLt, gLe, gGt, gGe, gIx, gNeg, eqB_int, gEq_int, gNe_int, gEq_str, gNe_str, if_true, if_false, Bool.false_eq_true, Nat.reduceAdd, Nat.zero_add, Bool.not_true, Bool.not_false, atI_c0, atI_c1, atI_c2, hlen]
      simp only [fits, Bool.and_eq_true, decide_eq_true_eq] at hf
      have no : sumIn (k + 1) (.tup xs) = false → r_is_sum_within_4 [.val (.tup xs), .val (.int ((k + 1 : Nat) : Int))] et (retK R) := fun e => by
        unfold r_is_sum_within_4
        simp only [mSeq, mSet, mSetN, mSetX, mExpr, mExprX, mRet, mRetN, mRetX, mIf, mNext, mPass, mBrk, mCnt, mFrz, mAsg, mAsgX, mPar, mParN, mBin, mUn, mArg, mC, mVar, mPeek, mCall, mCons, mNil, mTup, mLst, mBinT, mAsT, mNotT, mAndT, mOrT, mAndE, mOrE, mNotE, mIfE, mChain, mChainT, mSl, mO0, mO1, mIter, mRng1, mRng2, mZip, mEnum, mMut, mMutR, mSubSet, mShare, mMeth, mFor, mLc, mYes, slotV, frzS, tgN, tgT, tgNs, wipeE, retK, mAug, List.foldl_cons, List.foldl_nil, deref_int, deref_str, deref_bl, deref_non, deref_tup, deref_lst, deref_scr, deref_dic, deref_ty, isLst, cellP, List.getElem?_cons_zero, List.getElem?_cons_succ, List.getElem?_nil, List.set_cons_zero, List.set_cons_succ, List.map_cons, List.map_nil, List.length_cons, List.length_nil, List.cons_append, List.nil_append, Option.some.injEq, Slot.val.injEq, Slot.own.injEq, PV.int.injEq, PV.bl.injEq, PV.str.injEq, PV.ref.injEq, PV.lst.injEq, PV.tup.injEq, exists_eq_left', exists_eq_left, and_true, true_and, true_or, or_true, and_self, reduceCtorEq, gAdd, gSubI, gMul, gDiv, gMod, gPow, gLt, gLe, gGt, gGe, gIx, gNeg, eqB_int, gEq_int, gNe_int, gEq_str, gNe_str, if_true, if_false, Bool.false_eq_true, Nat.reduceAdd, Nat.zero_add, Bool.not_true, Bool.not_false, atI_c0, atI_c1, atI_c2]
        rw [e] at hR; exact hR
      by_cases h2 : (xs.length : Int) < 2
      · simp only [h2, decide_true, if_true]
        refine no ?_
        match xs, h2 with
        | [], _ => rfl
        | [x], _ => cases x <;> rfl
      · simp only [h2, decide_false, Bool.false_eq_true, if_false]
        match xs, h2, hf, hR, no with
        | [], h2, _, _, _ => exact absurd (by simp) h2
        | [_], h2, _, _, _ => exact absurd (by simp) h2
        | x :: a :: r, _, hf, hR, no =>
          have hfx : fits k x = true := by have := hf.2; simp at this; exact this.1
          have hfa : fits k a = true := by have := hf.2; simp at this; exact this.2.1
          have hix : gIx (.tup (x :: a :: r)) (.int 0) = some x := atI_c0 _ _
          have hpx := fits_fit hfx
          have hdx := fit_deref (et := et) hpx
          have hia : gIx (.tup (x :: a :: r)) (.int 1) = some a := atI_c1 _ _ _
          refine ⟨x, atI_c0 _ _, ?_⟩
          simp only [mSeq, mSet, mSetN, mSetX, mExpr, mExprX, mRet, mRetN, mRetX, mIf, mNext, mPass, mBrk, mCnt, mFrz, mAsg, mAsgX, mPar, mParN, mBin, mUn, mArg, mC, mVar, mPeek, mCall, mCons, mNil, mTup, mLst, mBinT, mAsT, mNotT, mAndT, mOrT, mAndE, mOrE, mNotE, mIfE, mChain, mChainT, mSl, mO0, mO1, mIter, mRng1, mRng2, mZip, mEnum, mMut, mMutR, mSubSet, mShare, mMeth, mFor, mLc, mYes, slotV, frzS, tgN, tgT, tgNs, wipeE, retK, mAug, List.foldl_cons, List.foldl_nil, deref_int, deref_str, deref_bl, deref_non, deref_tup, deref_lst, deref_scr, deref_dic, deref_ty, isLst, cellP, List.getElem?_cons_zero, List.getElem?_cons_succ, List.getElem?_nil, List.set_cons_zero, List.set_cons_succ, List.map_cons, List.map_nil, List.length_cons, List.length_nil, List.cons_append, List.nil_append, Option.some.injEq, Slot.val.injEq, Slot.own.injEq, PV.int.injEq, PV.bl.injEq, PV.str.injEq, PV.ref.injEq, PV.lst.injEq, PV.tup.injEq, exists_eq_left', exists_eq_left, and_true, true_and, true_or, or_true, and_self, reduceCtorEq, gAdd, gSubI, gMul, gDiv, gMod, gPow, gLt, gLe, gGt, gGe, gIx, gNeg, eqB_int, gEq_int, gNe_int, gEq_str, gNe_str, if_true, if_false, Bool.false_eq_true, Nat.reduceAdd, Nat.zero_add, Bool.not_true, Bool.not_false, atI_c0, atI_c1, atI_c2, hdx, isi_str hpx]
          have ek : (((k + 1 : Nat) : Int) - 1) = (k : Int) := by omega
          cases x with
          | str w =>
            simp only [mSeq, mSet, mSetN, mSetX, mExpr, mExprX, mRet, mRetN, mRetX, mIf, mNext, mPass, mBrk, mCnt, mFrz, mAsg, mAsgX, mPar, mParN, mBin, mUn, mArg, mC, mVar, mPeek, mCall, mCons, mNil, mTup, mLst, mBinT, mAsT, mNotT, mAndT, mOrT, mAndE, mOrE, mNotE, mIfE, mChain, mChainT, mSl, mO0, mO1, mIter, mRng1, mRng2, mZip, mEnum, mMut, mMutR, mSubSet, mShare, mMeth, mFor, mLc, mYes, slotV, frzS, tgN, tgT, tgNs, wipeE, retK, mAug, List.foldl_cons, List.foldl_nil, deref_int, deref_str, deref_bl, deref_non, deref_tup, deref_lst, deref_scr, deref_dic, deref_ty, isLst, cellP, List.getElem?_cons_zero, List.getElem?_cons_succ, List.getElem?_nil, List.set_cons_zero, List.set_cons_succ, List.map_cons, List.map_nil, List.length_cons, List.length_nil, List.cons_append, List.nil_append, Option.some.injEq, Slot.val.injEq, Slot.own.injEq, PV.int.injEq, PV.bl.injEq, PV.str.injEq, PV.ref.injEq, PV.lst.injEq, PV.tup.injEq, exists_eq_left', exists_eq_left, and_true, true_and, true_or, or_true, and_self, reduceCtorEq, gAdd, gSubI, gMul, gDiv, gMod, gPow, gLt, gLe, gGt, gGe, gIx, gNeg, eqB_int, gEq_int, gNe_int, gEq_str, gNe_str, if_true, if_false, Bool.false_eq_true, Nat.reduceAdd, Nat.zero_add, Bool.not_true, Bool.not_false, atI_c0, atI_c1, atI_c2]
            unfold r_is_sum_within_5
            simp only [mSeq, mSet, mSetN, mSetX, mExpr, mExprX, mRet, mRetN, mRetX, mIf, mNext, mPass, mBrk, mCnt, mFrz, mAsg, mAsgX, mPar, mParN, mBin, mUn, mArg, mC, mVar, mPeek, mCall, mCons, mNil, mTup, mLst, mBinT, mAsT, mNotT, mAndT, mOrT, mAndE, mOrE, mNotE, mIfE, mChain, mChainT, mSl, mO0, mO1, mIter, mRng1, mRng2, mZip, mEnum, mMut, mMutR, mSubSet, mShare, mMeth, mFor, mLc, mYes, slotV, frzS, tgN, tgT, tgNs, wipeE, retK, mAug, List.foldl_cons, List.foldl_nil, deref_int, deref_str, deref_bl, deref_non, deref_tup, deref_lst, deref_scr, deref_dic, deref_ty, isLst, cellP, List.getElem?_cons_zero, List.getElem?_cons_succ, List.getElem?_nil, List.set_cons_zero, List.set_cons_succ, List.map_cons, List.map_nil, List.length_cons, List.length_nil, List.cons_append, List.nil_append, Option.some.injEq, Slot.val.injEq, Slot.own.injEq, PV.int.injEq, PV.bl.injEq, PV.str.injEq, PV.ref.injEq, PV.lst.injEq, PV.tup.injEq, exists_eq_left', exists_eq_left, and_true, true_and, true_or, or_true, and_self, reduceCtorEq, gAdd, gSubI, gMul, gDiv, gMod, gPow, gLt, gLe, gGt, gGe, gIx, gNeg, eqB_int, gEq_int, gNe_int, gEq_str, gNe_str, if_true, if_false, Bool.false_eq_true, Nat.reduceAdd, Nat.zero_add, Bool.not_true, Bool.not_false, atI_c0, atI_c1, atI_c2]
            by_cases hw : w = "waits"
            · simp only [hw, decide_true, if_true]
              unfold r_is_sum_within_6
              have hlen2 : gLen [.tup (.str "waits" :: a :: r)] = some (.int ((r.length + 1 + 1 : Nat) : Int)) := rfl
              simp only [mSeq, mSet, mSetN, mSetX, mExpr, mExprX, mRet, mRetN, mRetX, mIf, mNext, mPass, mBrk, mCnt, mFrz, mAsg, mAsgX, mPar, mParN, mBin, mUn, mArg, mC, mVar, mPeek, mCall, mCons, mNil, mTup, mLst, mBinT, mAsT, mNotT, mAndT, mOrT, mAndE, mOrE, mNotE, mIfE, mChain, mChainT, mSl, mO0, mO1, mIter, mRng1, mRng2, mZip, mEnum, mMut, mMutR, mSubSet, mShare, mMeth, mFor, mLc, mYes, slotV, frzS, tgN, tgT, tgNs, wipeE, retK, mAug, List.foldl_cons, List.foldl_nil, deref_int, deref_str, deref_bl, deref_non, deref_tup, deref_lst, deref_scr, deref_dic, deref_ty, isLst, cellP, List.getElem?_cons_zero, List.getElem?_cons_succ, List.getElem?_nil, List.set_cons_zero, List.set_cons_succ, List.map_cons, List.map_nil, List.length_cons, List.length_nil, List.cons_append, List.nil_append, Option.some.injEq, Slot.val.injEq, Slot.own.injEq, PV.int.injEq, PV.bl.injEq, PV.str.injEq, PV.ref.injEq, PV.lst.injEq, PV.tup.injEq, exists_eq_left', exists_eq_left, and_true, true_and, true_or, or_true, and_self, reduceCtorEq, gAdd, gSubI, gMul, gDiv, gMod, gPow, gLt, gLe, gGt, gGe, gIx, gNeg, eqB_int, gEq_int, gNe_int, gEq_str, gNe_str, if_true, if_false, Bool.false_eq_true, Nat.reduceAdd, Nat.zero_add, Bool.not_true, Bool.not_false, atI_c0, atI_c1, atI_c2, hlen2]
              have e : sumIn (k + 1) (.tup (.str w :: a :: r)) = (r.isEmpty && wordB a) := by simp only [sumIn, hw, if_true]
              rw [hw] at e; rw [hw, e] at hR
              cases r with
              | nil =>
                have h3 : ((([] : List PV).length + 1 + 1 : Nat) : Int) = 2 := rfl
                simp only [h3, decide_true, if_true]
                refine ⟨a, rfl, fits_fit hfa, ?_⟩
                simpa using hR
              | cons b r =>
                have : ¬ (((b :: r).length + 1 + 1 : Nat) : Int) = 2 := by simp only [List.length_cons]; omega
                simp only [this, decide_false, Bool.false_eq_true, if_false]
                simpa using hR
            simp only [hw, decide_false, Bool.false_eq_true, if_false]
            unfold r_is_sum_within_7
            simp only [mSeq, mSet, mSetN, mSetX, mExpr, mExprX, mRet, mRetN, mRetX, mIf, mNext, mPass, mBrk, mCnt, mFrz, mAsg, mAsgX, mPar, mParN, mBin, mUn, mArg, mC, mVar, mPeek, mCall, mCons, mNil, mTup, mLst, mBinT, mAsT, mNotT, mAndT, mOrT, mAndE, mOrE, mNotE, mIfE, mChain, mChainT, mSl, mO0, mO1, mIter, mRng1, mRng2, mZip, mEnum, mMut, mMutR, mSubSet, mShare, mMeth, mFor, mLc, mYes, slotV, frzS, tgN, tgT, tgNs, wipeE, retK, mAug, List.foldl_cons, List.foldl_nil, deref_int, deref_str, deref_bl, deref_non, deref_tup, deref_lst, deref_scr, deref_dic, deref_ty, isLst, cellP, List.getElem?_cons_zero, List.getElem?_cons_succ, List.getElem?_nil, List.set_cons_zero, List.set_cons_succ, List.map_cons, List.map_nil, List.length_cons, List.length_nil, List.cons_append, List.nil_append, Option.some.injEq, Slot.val.injEq, Slot.own.injEq, PV.int.injEq, PV.bl.injEq, PV.str.injEq, PV.ref.injEq, PV.lst.injEq, PV.tup.injEq, exists_eq_left', exists_eq_left, and_true, true_and, true_or, or_true, and_self, reduceCtorEq, gAdd, gSubI, gMul, gDiv, gMod, gPow, gLt, gLe, gGt, gGe, gIx, gNeg, eqB_int, gEq_int, gNe_int, gEq_str, gNe_str, if_true, if_false, Bool.false_eq_true, Nat.reduceAdd, Nat.zero_add, Bool.not_true, Bool.not_false, atI_c0, atI_c1, atI_c2]
            by_cases hn : w = "not"
            · simp only [hn, decide_true, if_true]
              unfold r_is_sum_within_8
              have hlen2 : gLen [.tup (.str "not" :: a :: r)] = some (.int ((r.length + 1 + 1 : Nat) : Int)) := rfl
              simp only [mSeq, mSet, mSetN, mSetX, mExpr, mExprX, mRet, mRetN, mRetX, mIf, mNext, mPass, mBrk, mCnt, mFrz, mAsg, mAsgX, mPar, mParN, mBin, mUn, mArg, mC, mVar, mPeek, mCall, mCons, mNil, mTup, mLst, mBinT, mAsT, mNotT, mAndT, mOrT, mAndE, mOrE, mNotE, mIfE, mChain, mChainT, mSl, mO0, mO1, mIter, mRng1, mRng2, mZip, mEnum, mMut, mMutR, mSubSet, mShare, mMeth, mFor, mLc, mYes, slotV, frzS, tgN, tgT, tgNs, wipeE, retK, mAug, List.foldl_cons, List.foldl_nil, deref_int, deref_str, deref_bl, deref_non, deref_tup, deref_lst, deref_scr, deref_dic, deref_ty, isLst, cellP, List.getElem?_cons_zero, List.getElem?_cons_succ, List.getElem?_nil, List.set_cons_zero, List.set_cons_succ, List.map_cons, List.map_nil, List.length_cons, List.length_nil, List.cons_append, List.nil_append, Option.some.injEq, Slot.val.injEq, Slot.own.injEq, PV.int.injEq, PV.bl.injEq, PV.str.injEq, PV.ref.injEq, PV.lst.injEq, PV.tup.injEq, exists_eq_left', exists_eq_left, and_true, true_and, true_or, or_true, and_self, reduceCtorEq, gAdd, gSubI, gMul, gDiv, gMod, gPow, gLt, gLe, gGt, gGe, gIx, gNeg, eqB_int, gEq_int, gNe_int, gEq_str, gNe_str, if_true, if_false, Bool.false_eq_true, Nat.reduceAdd, Nat.zero_add, Bool.not_true, Bool.not_false, atI_c0, atI_c1, atI_c2, hlen2, ek]
              have e : sumIn (k + 1) (.tup (.str w :: a :: r)) = (r.isEmpty && sumIn k a) := by simp only [sumIn, hw, hn, if_true, if_false]; rw [if_neg (by decide)]
              rw [e] at hR
              cases r with
              | nil =>
                have h3 : ((([] : List PV).length + 1 + 1 : Nat) : Int) = 2 := rfl
                simp only [h3, decide_true, if_true]
                refine ⟨a, k, rfl, by omega, hfa, ?_⟩
                simpa using hR
              | cons b r =>
                have : ¬ (((b :: r).length + 1 + 1 : Nat) : Int) = 2 := by simp only [List.length_cons]; omega
                simp only [this, decide_false, Bool.false_eq_true, if_false]
                simpa using hR
            simp only [hn, decide_false, Bool.false_eq_true, if_false]
            unfold r_is_sum_within_9
            have hin : gNotIn (.str w) k_TWO_PARTS = some (.bl (!twoB w)) := by
              show some (PV.bl (!([PV.str "plus", .str "minus", .str "less", .str "same", .str "both"].any fun y => eqP y (.str w)))) = _
              have e1 : ∀ z : Str, eqP (.str z) (.str w) = decide (w = z) := fun z => by show decide (z = w) = _; rw [Bool.eq_iff_iff]; simp [eq_comm]
              simp only [List.any_cons, List.any_nil, e1, Bool.or_false, twoB, Bool.or_assoc]
            simp only [mSeq, mSet, mSetN, mSetX, mExpr, mExprX, mRet, mRetN, mRetX, mIf, mNext, mPass, mBrk, mCnt, mFrz, mAsg, mAsgX, mPar, mParN, mBin, mUn, mArg, mC, mVar, mPeek, mCall, mCons, mNil, mTup, mLst, mBinT, mAsT, mNotT, mAndT, mOrT, mAndE, mOrE, mNotE, mIfE, mChain, mChainT, mSl, mO0, mO1, mIter, mRng1, mRng2, mZip, mEnum, mMut, mMutR, mSubSet, mShare, mMeth, mFor, mLc, mYes, slotV, frzS, tgN, tgT, tgNs, wipeE, retK, mAug, List.foldl_cons, List.foldl_nil, deref_int, deref_str, deref_bl, deref_non, deref_tup, deref_lst, deref_scr, deref_dic, deref_ty, isLst, cellP, List.getElem?_cons_zero, List.getElem?_cons_succ, List.getElem?_nil, List.set_cons_zero, List.set_cons_succ, List.map_cons, List.map_nil, List.length_cons, List.length_nil, List.cons_append, List.nil_append, Option.some.injEq, Slot.val.injEq, Slot.own.injEq, PV.int.injEq, PV.bl.injEq, PV.str.injEq, PV.ref.injEq, PV.lst.injEq, PV.tup.injEq, exists_eq_left', exists_eq_left, and_true, true_and, true_or, or_true, and_self, reduceCtorEq, gAdd, gSubI, gMul, gDiv, gMod, gPow, gLt, gLe, gGt, gGe, gIx, gNeg, eqB_int, gEq_int, gNe_int, gEq_str, gNe_str, if_true, if_false, Bool.false_eq_true, Nat.reduceAdd, Nat.zero_add, Bool.not_true, Bool.not_false, atI_c0, atI_c1, atI_c2, hin, hlen]
            cases ht : twoB w with
            | false =>
              simp only [Bool.not_false, if_true]
              unfold r_is_sum_within_10
              simp only [mSeq, mSet, mSetN, mSetX, mExpr, mExprX, mRet, mRetN, mRetX, mIf, mNext, mPass, mBrk, mCnt, mFrz, mAsg, mAsgX, mPar, mParN, mBin, mUn, mArg, mC, mVar, mPeek, mCall, mCons, mNil, mTup, mLst, mBinT, mAsT, mNotT, mAndT, mOrT, mAndE, mOrE, mNotE, mIfE, mChain, mChainT, mSl, mO0, mO1, mIter, mRng1, mRng2, mZip, mEnum, mMut, mMutR, mSubSet, mShare, mMeth, mFor, mLc, mYes, slotV, frzS, tgN, tgT, tgNs, wipeE, retK, mAug, List.foldl_cons, List.foldl_nil, deref_int, deref_str, deref_bl, deref_non, deref_tup, deref_lst, deref_scr, deref_dic, deref_ty, isLst, cellP, List.getElem?_cons_zero, List.getElem?_cons_succ, List.getElem?_nil, List.set_cons_zero, List.set_cons_succ, List.map_cons, List.map_nil, List.length_cons, List.length_nil, List.cons_append, List.nil_append, Option.some.injEq, Slot.val.injEq, Slot.own.injEq, PV.int.injEq, PV.bl.injEq, PV.str.injEq, PV.ref.injEq, PV.lst.injEq, PV.tup.injEq, exists_eq_left', exists_eq_left, and_true, true_and, true_or, or_true, and_self, reduceCtorEq, gAdd, gSubI, gMul, gDiv, gMod, gPow, gLt, gLe, gGt, gGe, gIx, gNeg, eqB_int, gEq_int, gNe_int, gEq_str, gNe_str, if_true, if_false, Bool.false_eq_true, Nat.reduceAdd, Nat.zero_add, Bool.not_true, Bool.not_false, atI_c0, atI_c1, atI_c2]
              have e : sumIn (k + 1) (.tup (.str w :: a :: r)) = false := by simp only [sumIn, hw, hn, if_false, ht, Bool.false_eq_true]
              rw [e] at hR; exact hR
            | true =>
              simp only [Bool.not_true, Bool.false_eq_true, if_false]
              by_cases h3 : ((r.length + 1 + 1 : Nat) : Int) = 3
              · simp only [h3, decide_true, Bool.not_true, Bool.false_eq_true, if_false]
                unfold r_is_sum_within_11
                match r, h3, hf, hR with
                | [b], _, hf, hR =>
                  have hfb : fits k b = true := by have := hf.2; simp at this; exact this.2.2
                  simp only [mSeq, mSet, mSetN, mSetX, mExpr, mExprX, mRet, mRetN, mRetX, mIf, mNext, mPass, mBrk, mCnt, mFrz, mAsg, mAsgX, mPar, mParN, mBin, mUn, mArg, mC, mVar, mPeek, mCall, mCons, mNil, mTup, mLst, mBinT, mAsT, mNotT, mAndT, mOrT, mAndE, mOrE, mNotE, mIfE, mChain, mChainT, mSl, mO0, mO1, mIter, mRng1, mRng2, mZip, mEnum, mMut, mMutR, mSubSet, mShare, mMeth, mFor, mLc, mYes, slotV, frzS, tgN, tgT, tgNs, wipeE, retK, mAug, List.foldl_cons, List.foldl_nil, deref_int, deref_str, deref_bl, deref_non, deref_tup, deref_lst, deref_scr, deref_dic, deref_ty, isLst, cellP, List.getElem?_cons_zero, List.getElem?_cons_succ, List.getElem?_nil, List.set_cons_zero, List.set_cons_succ, List.map_cons, List.map_nil, List.length_cons, List.length_nil, List.cons_append, List.nil_append, Option.some.injEq, Slot.val.injEq, Slot.own.injEq, PV.int.injEq, PV.bl.injEq, PV.str.injEq, PV.ref.injEq, PV.lst.injEq, PV.tup.injEq, exists_eq_left', exists_eq_left, and_true, true_and, true_or, or_true, and_self, reduceCtorEq, gAdd, gSubI, gMul, gDiv, gMod, gPow, gLt, gLe, gGt, gGe, gIx, gNeg, eqB_int, gEq_int, gNe_int, gEq_str, gNe_str, if_true, if_false, Bool.false_eq_true, Nat.reduceAdd, Nat.zero_add, Bool.not_true, Bool.not_false, atI_c0, atI_c1, atI_c2, ek]
                  have e : sumIn (k + 1) (.tup [.str w, a, b]) = (sumIn k a && sumIn k b) := by simp only [sumIn, hw, hn, if_false, ht, if_true]
                  rw [e] at hR
                  refine ⟨a, k, rfl, by omega, hfa, _, rfl, ?_⟩
                  cases hv : sumIn k a with
                  | true => simp only [if_true]; rw [hv] at hR; exact ⟨b, k, rfl, by omega, hfb, hR⟩
                  | false => simp only [Bool.false_eq_true, if_false]; rw [hv] at hR; exact hR
              · simp only [h3, decide_false, Bool.not_false, if_true]
                unfold r_is_sum_within_10
                simp only [mSeq, mSet, mSetN, mSetX, mExpr, mExprX, mRet, mRetN, mRetX, mIf, mNext, mPass, mBrk, mCnt, mFrz, mAsg, mAsgX, mPar, mParN, mBin, mUn, mArg, mC, mVar, mPeek, mCall, mCons, mNil, mTup, mLst, mBinT, mAsT, mNotT, mAndT, mOrT, mAndE, mOrE, mNotE, mIfE, mChain, mChainT, mSl, mO0, mO1, mIter, mRng1, mRng2, mZip, mEnum, mMut, mMutR, mSubSet, mShare, mMeth, mFor, mLc, mYes, slotV, frzS, tgN, tgT, tgNs, wipeE, retK, mAug, List.foldl_cons, List.foldl_nil, deref_int, deref_str, deref_bl, deref_non, deref_tup, deref_lst, deref_scr, deref_dic, deref_ty, isLst, cellP, List.getElem?_cons_zero, List.getElem?_cons_succ, List.getElem?_nil, List.set_cons_zero, List.set_cons_succ, List.map_cons, List.map_nil, List.length_cons, List.length_nil, List.cons_append, List.nil_append, Option.some.injEq, Slot.val.injEq, Slot.own.injEq, PV.int.injEq, PV.bl.injEq, PV.str.injEq, PV.ref.injEq, PV.lst.injEq, PV.tup.injEq, exists_eq_left', exists_eq_left, and_true, true_and, true_or, or_true, and_self, reduceCtorEq, gAdd, gSubI, gMul, gDiv, gMod, gPow, gLt, gLe, gGt, gGe, gIx, gNeg, eqB_int, gEq_int, gNe_int, gEq_str, gNe_str, if_true, if_false, Bool.false_eq_true, Nat.reduceAdd, Nat.zero_add, Bool.not_true, Bool.not_false, atI_c0, atI_c1, atI_c2]
                have e : sumIn (k + 1) (.tup (.str w :: a :: r)) = false := by
                  simp only [sumIn, hw, hn, if_false, ht, if_true]
                  match r, h3 with
                  | [], _ => rfl
                  | [b], h3 => exact absurd rfl h3
                  | _ :: _ :: _, _ => rfl
                rw [e] at hR; exact hR
          | _ => first | (cases hpx; done) | (simp only [mSeq, mSet, mSetN, mSetX, mExpr, mExprX, mRet, mRetN, mRetX, mIf, mNext, mPass, mBrk, mCnt, mFrz, mAsg, mAsgX, mPar, mParN, mBin, mUn, mArg, mC, mVar, mPeek, mCall, mCons, mNil, mTup, mLst, mBinT, mAsT, mNotT, mAndT, mOrT, mAndE, mOrE, mNotE, mIfE, mChain, mChainT, mSl, mO0, mO1, mIter, mRng1, mRng2, mZip, mEnum, mMut, mMutR, mSubSet, mShare, mMeth, mFor, mLc, mYes, slotV, frzS, tgN, tgT, tgNs, wipeE, retK, mAug, List.foldl_cons, List.foldl_nil, deref_int, deref_str, deref_bl, deref_non, deref_tup, deref_lst, deref_scr, deref_dic, deref_ty, isLst, cellP, List.getElem?_cons_zero, List.getElem?_cons_succ, List.getElem?_nil, List.set_cons_zero, List.set_cons_succ, List.map_cons, List.map_nil, List.length_cons, List.length_nil, List.cons_append, List.nil_append, Option.some.injEq, Slot.val.injEq, Slot.own.injEq, PV.int.injEq, PV.bl.injEq, PV.str.injEq, PV.ref.injEq, PV.lst.injEq, PV.tup.injEq, exists_eq_left', exists_eq_left, and_true, true_and, true_or, or_true, and_self, reduceCtorEq, gAdd, gSubI, gMul, gDiv, gMod, gPow, gLt, gLe, gGt, gGe, gIx, gNeg, eqB_int, gEq_int, gNe_int, gEq_str, gNe_str, if_true, if_false, Bool.false_eq_true, Nat.reduceAdd, Nat.zero_add, Bool.not_true, Bool.not_false, atI_c0, atI_c1, atI_c2]; exact no rfl)
    | _ => first | (cases hp; done) | (simp only [Bool.not_false, if_true]; exact plain (by simp))
def r__law_chain_4 : SM := (mSet 3 (mTup (mCons (mVar 6) (mCons (mVar 3) mNil))))
def r__law_chain_5 (S__law_take : FSpec) : SM := (mSet 3 (mBin gIx (mLst (mCons (mTup (mCons (mVar 6) (mCons (mVar 3) (mCons (mVar 5) mNil)))) (mCons (mTup (mCons (mVar 6) (mCons (mVar 5) (mCons (mVar 3) mNil)))) mNil))) (mCall 2 S__law_take (mCons (mVar 0) (mCons (mC (.int 2)) mNil)))))
def r__law_chain_3 (S__law_take : FSpec) : SM := (mIf (mBinT gEq (mPeek 6) (mC (.str "not"))) (r__law_chain_4) (r__law_chain_5 S__law_take))
def r__law_chain_2 (S__law_of : FSpec) (S__law_take : FSpec) : SM := (mSeq (mSet 6 (mCall 2 S__law_of (mCons (mVar 0) (mCons (mLst (mCons (mC (.str "plus")) (mCons (mC (.str "minus")) (mCons (mC (.str "less")) (mCons (mC (.str "same")) (mCons (mC (.str "both")) (mCons (mC (.str "not")) (mCons (mC (.str "not")) mNil)))))))) mNil)))) (r__law_chain_3 S__law_take))
def r__law_chain_1 (S__law_of : FSpec) (S__law_sum : FSpec) (S__law_take : FSpec) : SM := (mSeq (mSet 5 (mCall 4 S__law_sum (mCons (mVar 0) (mCons (mVar 1) (mCons (mVar 1) (mCons (mArg gMin2 (mCons (mBin gSubI (mPeek 4) (mC (.int 1))) (mCons (mBin gAdd (mC (.int 1)) (mCall 2 S__law_take (mCons (mVar 0) (mCons (mC (.int 5)) mNil)))) mNil))) mNil)))))) (r__law_chain_2 S__law_of S__law_take))
def r__law_chain_6 : SM := (mRet (mVar 3))
def r__law_chain_0 (S__law_of : FSpec) (S__law_sum : FSpec) (S__law_take : FSpec) : SM := (mSeq (mFor (mRng2 (mCons (mC (.int 2)) (mCons (mBin gAdd (mPeek 2) (mC (.int 1))) mNil))) (tgN 4) (r__law_chain_1 S__law_of S__law_sum S__law_take)) (r__law_chain_6))
def r__law_chain (S__law_of : FSpec) (S__law_sum : FSpec) (S__law_take : FSpec) : SM := (mSeq (mSet 3 (mCall 2 S__law_of (mCons (mVar 0) (mCons (mLst (mCons (mC (.int 3)) (mCons (mBin gIx (mPeek 1) (mC (.int 0))) (mCons (mTup (mCons (mC (.str "waits")) (mCons (mBin gIx (mPeek 1) (mC (.int 1))) mNil))) (mCons (mC (.int 0)) (mCons (mC (.int 9)) mNil)))))) mNil)))) (r__law_chain_0 S__law_of S__law_sum S__law_take))
abbrev N__law_chain : List Str := ["_law_pot_here", "_law_words_here", "_law_deep", "_law_told", "_law_k", "_law_other", "_law_word"]
def r__law_truth : SM := (mRet (mAndE (mArg gIsi (mCons (mPeek 0) (mCons (mC (.ty .bool)) mNil))) (mBin gEq (mPeek 0) (mPeek 1))))
abbrev N__law_truth : List Str := ["_law_found", "_law_due"]
def r_law_4 : SM := (mRet (mC (.bl false)))
def r_law_8 : SM := (mRet (mC (.bl false)))
def r_law_10 : SM := (mRet (mC (.bl false)))
def r_law_9 (S__law_truth : FSpec) (S_is_sum : FSpec) : SM := (mIf (mNotT (mAsT (mCall 2 S__law_truth (mCons (mCall 1 S_is_sum (mCons (mTup (mCons (mC (.str "both")) (mCons (mTup (mCons (mC (.str "waits")) (mCons (mVar 6) mNil))) (mCons (mVar 7) mNil)))) mNil)) (mCons (mAndE (mChain gLt gLt (mC (.int 0)) (mArg gLen (mCons (mPeek 6) mNil)) (mC (.int 9))) (mChain gLe gLt (mC (.int 0)) (mPeek 7) (mC (.int 10)))) mNil))))) (r_law_10) mNext)
def r_law_7 (S__law_truth : FSpec) (S_is_sum : FSpec) : SM := (mSeq (mIf (mOrT (mNotT (mAsT (mCall 2 S__law_truth (mCons (mCall 1 S_is_sum (mCons (mVar 6) mNil)) (mCons (mChain gLt gLt (mC (.int 0)) (mArg gLen (mCons (mPeek 6) mNil)) (mC (.int 9))) mNil))))) (mNotT (mAsT (mCall 2 S__law_truth (mCons (mCall 1 S_is_sum (mCons (mVar 7) mNil)) (mCons (mChain gLe gLt (mC (.int 0)) (mPeek 7) (mC (.int 10))) mNil)))))) (r_law_8) mNext) (r_law_9 S__law_truth S_is_sum))
def r_law_6 (S__law_truth : FSpec) (S_is_sum : FSpec) (S__law_take : FSpec) : SM := (mSeq (mSet 7 (mBin gSubI (mCall 2 S__law_take (mCons (mVar 1) (mCons (mC (.int 17)) mNil))) (mC (.int 3)))) (r_law_7 S__law_truth S_is_sum))
def r_law_5 (S__law_truth : FSpec) (S_is_sum : FSpec) (S__law_take : FSpec) : SM := (mSeq (mSet 6 (mMeth .str gJoin (mC (.str "")) (mCons (mLc (mRng1 (mCons (mBin gMod (mPeek 3) (mC (.int 11))) mNil)) [5] (tgN 5) mYes (mBin gIx (mC (.str "abcdefghijklmnopqrstuvwxyz")) (mCall 2 S__law_take (mCons (mVar 1) (mCons (mC (.int 26)) mNil))))) mNil))) (r_law_6 S__law_truth S_is_sum S__law_take))
def r_law_3 (S__law_truth : FSpec) (S_is_sum : FSpec) (S__law_chain : FSpec) (S__law_take : FSpec) : SM := (mSeq (mIf (mNotT (mAsT (mCall 2 S__law_truth (mCons (mCall 1 S_is_sum (mCons (mCall 3 S__law_chain (mCons (mVar 1) (mCons (mVar 2) (mCons (mVar 4) mNil)))) mNil)) (mCons (mBin gLt (mPeek 4) (mC (.int 6))) mNil))))) (r_law_4) mNext) (r_law_5 S__law_truth S_is_sum S__law_take))
def r_law_2 (S__law_truth : FSpec) (S_is_sum : FSpec) (S__law_chain : FSpec) (S__law_take : FSpec) : SM := (mSeq (mSet 4 (mBin gAdd (mC (.int 1)) (mBin gMod (mPeek 3) (mC (.int 8))))) (r_law_3 S__law_truth S_is_sum S__law_chain S__law_take))
def r_law_11 : SM := (mRet (mC (.bl true)))
def r_law_1 (S__law_truth : FSpec) (S_is_sum : FSpec) (S__law_chain : FSpec) (S__law_take : FSpec) : SM := (mSeq (mFor (mRng1 (mCons (mArg gMax2 (mCons (mC (.int 16)) (mCons (mArg gMin2 (mCons (mC (.int 60)) (mCons (mArg gLen (mCons (mPeek 0) mNil)) mNil))) mNil))) mNil)) (tgN 3) (r_law_2 S__law_truth S_is_sum S__law_chain S__law_take)) (r_law_11))
def r_law_0 (S__law_words : FSpec) (S__law_truth : FSpec) (S_is_sum : FSpec) (S__law_chain : FSpec) (S__law_take : FSpec) : SM := (mSeq (mSet 2 (mCall 2 S__law_words (mCons (mVar 1) (mCons (mC (.int 4)) mNil)))) (r_law_1 S__law_truth S_is_sum S__law_chain S__law_take))
def r_law (S__law_pot : FSpec) (S__law_words : FSpec) (S__law_truth : FSpec) (S_is_sum : FSpec) (S__law_chain : FSpec) (S__law_take : FSpec) : SM := (mSeq (mSet 1 (mCall 1 S__law_pot (mCons (mVar 0) mNil))) (r_law_0 S__law_words S__law_truth S_is_sum S__law_chain S__law_take))
abbrev N_law : List Str := ["_law_script", "_law_pot_here", "_law_words_here", "_law_k", "_law_deep", "_law_turn", "_law_word", "_law_value"]
abbrev spWithin6 : FSpec := spWithin 6
def spIsSum : FSpec := fun args et R => ∃ p : PV, args = [p] ∧ fits 5 p = true ∧ R (.bl (sumIn 5 p)) et
theorem is_sum_ok (args : List PV) (et : Hi) (R : PV → Hi → Prop) (h : spIsSum args et R) : r_is_sum spWithin6 (env0 N_is_sum args) et (retK R) := by
  obtain ⟨p, rfl, hf, hR⟩ := h
  show r_is_sum _ [.val p] et (retK R)
  unfold r_is_sum
  simp only [mSeq, mSet, mSetN, mSetX, mExpr, mExprX, mRet, mRetN, mRetX, mIf, mNext, mPass, mBrk, mCnt, mFrz, mAsg, mAsgX, mPar, mParN, mBin, mUn, mArg, mC, mVar, mPeek, mCall, mCons, mNil, mTup, mLst, mBinT, mAsT, mNotT, mAndT, mOrT, mAndE, mOrE, mNotE, mIfE, mChain, mChainT, mSl, mO0, mO1, mIter, mRng1, mRng2, mZip, mEnum, mMut, mMutR, mSubSet, mShare, mMeth, mFor, mLc, mYes, slotV, frzS, tgN, tgT, tgNs, wipeE, retK, mAug, List.foldl_cons, List.foldl_nil, deref_int, deref_str, deref_bl, deref_non, deref_tup, deref_lst, deref_scr, deref_dic, deref_ty, isLst, cellP, List.getElem?_cons_zero, List.getElem?_cons_succ, List.getElem?_nil, List.set_cons_zero, List.set_cons_succ, List.map_cons, List.map_nil, List.length_cons, List.length_nil, List.cons_append, List.nil_append, Option.some.injEq, Slot.val.injEq, Slot.own.injEq, PV.int.injEq, PV.bl.injEq, PV.str.injEq, PV.ref.injEq, PV.lst.injEq, PV.tup.injEq, exists_eq_left', exists_eq_left, and_true, true_and, true_or, or_true, and_self, reduceCtorEq, gAdd, gSubI, gMul, gDiv, gMod, gPow, gLt, gLe, gGt, gGe, gIx, gNeg, eqB_int, gEq_int, gNe_int, gEq_str, gNe_str, if_true, if_false, Bool.false_eq_true, Nat.reduceAdd, Nat.zero_add, Bool.not_true, Bool.not_false, atI_c0, atI_c1, atI_c2]
  exact ⟨p, 5, rfl, by decide, hf, hR⟩
def spTruth : FSpec := fun args et R => ∃ a b : Bool, args = [.bl a, .bl b] ∧ R (.bl (a == b)) et
theorem truth_ok (args : List PV) (et : Hi) (R : PV → Hi → Prop) (h : spTruth args et R) : r__law_truth (env0 N__law_truth args) et (retK R) := by
  obtain ⟨a, b, rfl, hR⟩ := h
  show r__law_truth [.val (.bl a), .val (.bl b)] et (retK R)
  unfold r__law_truth
  have e1 : gIsi [.bl a, .ty .bool] = some (.bl true) := rfl
  have e2 : gEq (.bl a) (.bl b) = some (.bl (a == b)) := by cases a <;> cases b <;> rfl
  simp only [mSeq, mSet, mSetN, mSetX, mExpr, mExprX, mRet, mRetN, mRetX, mIf, mNext, mPass, mBrk, mCnt, mFrz, mAsg, mAsgX, mPar, mParN, mBin, mUn, mArg, mC, mVar, mPeek, mCall, mCons, mNil, mTup, mLst, mBinT, mAsT, mNotT, mAndT, mOrT, mAndE, mOrE, mNotE, mIfE, mChain, mChainT, mSl, mO0, mO1, mIter, mRng1, mRng2, mZip, mEnum, mMut, mMutR, mSubSet, mShare, mMeth, mFor, mLc, mYes, slotV, frzS, tgN, tgT, tgNs, wipeE, retK, mAug, List.foldl_cons, List.foldl_nil, deref_int, deref_str, deref_bl, deref_non, deref_tup, deref_lst, deref_scr, deref_dic, deref_ty, isLst, cellP, List.getElem?_cons_zero, List.getElem?_cons_succ, List.getElem?_nil, List.set_cons_zero, List.set_cons_succ, List.map_cons, List.map_nil, List.length_cons, List.length_nil, List.cons_append, List.nil_append, Option.some.injEq, Slot.val.injEq, Slot.own.injEq, PV.int.injEq, PV.bl.injEq, PV.str.injEq, PV.ref.injEq, PV.lst.injEq, PV.tup.injEq, exists_eq_left', exists_eq_left, and_true, true_and, true_or, or_true, and_self, reduceCtorEq, gAdd, gSubI, gMul, gDiv, gMod, gPow, gLt, gLe, gGt, gGe, gIx, gNeg, eqB_int, gEq_int, gNe_int, gEq_str, gNe_str, if_true, if_false, Bool.false_eq_true, Nat.reduceAdd, Nat.zero_add, Bool.not_true, Bool.not_false, atI_c0, atI_c1, atI_c2, e1, e2]
  exact hR
/-! the chain -/
theorem dep_pos (s : Sm) : 1 ≤ s.dep := by cases s <;> simp [Sm.dep]
theorem cs_mono {a b : Nat} (h : a ≤ b) : cs a ≤ cs b := by
  induction h with
  | refl => exact Nat.le_refl _
  | step _ ih => simp only [cs]; omega
def spChain : FSpec := fun args et R => ∃ (n deep : Nat) (ws : List Str), args = [.ref 1, .lst (ws.map .str), .int deep] ∧ 1 ≤ deep ∧ deep ≤ 8 ∧ (∀ x ∈ ws, isWord x = true) ∧ 2 ≤ ws.length ∧ ws.length < 1000 ∧ et = pt (n + 2000) ∧
  ∀ n', n ≤ n' → ∀ s : Sm, s.dep = deep → s.ok ws ws → R s.pv (pt n')
theorem chain_ok (args : List PV) (et : Hi) (R : PV → Hi → Prop) (h : spChain args et R) : r__law_chain spOf (spSum 6) spTake (env0 N__law_chain args) et (retK R) := by
  obtain ⟨n, deep, ws, rfl, d1, d8, hw, l2, lw, rfl, hR⟩ := h
  show r__law_chain _ _ _ [.val (.ref 1), .val (.lst (ws.map .str)), .val (.int deep), .no, .no, .no, .no] _ (retK R)
  unfold r__law_chain
  have w0 : atI (ws.map PV.str) 0 = some (.str ws[0]!) := by
    match ws, l2 with
    | a :: b :: r, _ => exact atI_c0 _ _
  have w1 : atI (ws.map PV.str) 1 = some (.str ws[1]!) := by
    match ws, l2 with
    | a :: b :: r, _ => exact atI_c1 _ _ _
  have m0 : ws[0]! ∈ ws := by
    match ws, l2 with
    | a :: b :: r, _ => simp
  have m1 : ws[1]! ∈ ws := by
    match ws, l2 with
    | a :: b :: r, _ => simp
  simp only [mSeq, mSet, mSetN, mSetX, mExpr, mExprX, mRet, mRetN, mRetX, mIf, mNext, mPass, mBrk, mCnt, mFrz, mAsg, mAsgX, mPar, mParN, mBin, mUn, mArg, mC, mVar, mPeek, mCall, mCons, mNil, mTup, mLst, mBinT, mAsT, mNotT, mAndT, mOrT, mAndE, mOrE, mNotE, mIfE, mChain, mChainT, mSl, mO0, mO1, mIter, mRng1, mRng2, mZip, mEnum, mMut, mMutR, mSubSet, mShare, mMeth, mFor, mLc, mYes, slotV, frzS, tgN, tgT, tgNs, wipeE, retK, mAug, List.foldl_cons, List.foldl_nil, deref_int, deref_str, deref_bl, deref_non, deref_tup, deref_lst, deref_scr, deref_dic, deref_ty, isLst, cellP, List.getElem?_cons_zero, List.getElem?_cons_succ, List.getElem?_nil, List.set_cons_zero, List.set_cons_succ, List.map_cons, List.map_nil, List.length_cons, List.length_nil, List.cons_append, List.nil_append, Option.some.injEq, Slot.val.injEq, Slot.own.injEq, PV.int.injEq, PV.bl.injEq, PV.str.injEq, PV.ref.injEq, PV.lst.injEq, PV.tup.injEq, exists_eq_left', exists_eq_left, and_true, true_and, true_or, or_true, and_self, reduceCtorEq, gAdd, gSubI, gMul, gDiv, gMod, gPow, gLt, gLe, gGt, gGe, gIx, gNeg, eqB_int, gEq_int, gNe_int, gEq_str, gNe_str, if_true, if_false, Bool.false_eq_true, Nat.reduceAdd, Nat.zero_add, Bool.not_true, Bool.not_false, atI_c0, atI_c1, atI_c2, w0, w1]
  refine ⟨by decide, by decide, ?_⟩
  refine of_intro (n := n + 1999) (by simp) (by simp) fun x hx => ?_
  obtain ⟨s, hs, ho, rfl⟩ : ∃ s : Sm, s.dep = 1 ∧ s.ok ws ws ∧ s.pv = x := by
    simp only [List.mem_cons, List.not_mem_nil, or_false] at hx
    rcases hx with rfl | rfl | rfl | rfl | rfl
    · exact ⟨.val 3, rfl, by show (3 : Nat) ≤ 9; decide, rfl⟩
    · exact ⟨.wrd _, rfl, m0, rfl⟩
    · exact ⟨.wts _, rfl, m1, rfl⟩
    · exact ⟨.val 0, rfl, by show (0 : Nat) ≤ 9; decide, rfl⟩
    · exact ⟨.val 9, rfl, by show (9 : Nat) ≤ 9; decide, rfl⟩
  unfold r__law_chain_0
  simp only [mSeq, mSet, mSetN, mSetX, mExpr, mExprX, mRet, mRetN, mRetX, mIf, mNext, mPass, mBrk, mCnt, mFrz, mAsg, mAsgX, mPar, mParN, mBin, mUn, mArg, mC, mVar, mPeek, mCall, mCons, mNil, mTup, mLst, mBinT, mAsT, mNotT, mAndT, mOrT, mAndE, mOrE, mNotE, mIfE, mChain, mChainT, mSl, mO0, mO1, mIter, mRng1, mRng2, mZip, mEnum, mMut, mMutR, mSubSet, mShare, mMeth, mFor, mLc, mYes, slotV, frzS, tgN, tgT, tgNs, wipeE, retK, mAug, List.foldl_cons, List.foldl_nil, deref_int, deref_str, deref_bl, deref_non, deref_tup, deref_lst, deref_scr, deref_dic, deref_ty, isLst, cellP, List.getElem?_cons_zero, List.getElem?_cons_succ, List.getElem?_nil, List.set_cons_zero, List.set_cons_succ, List.map_cons, List.map_nil, List.length_cons, List.length_nil, List.cons_append, List.nil_append, Option.some.injEq, Slot.val.injEq, Slot.own.injEq, PV.int.injEq, PV.bl.injEq, PV.str.injEq, PV.ref.injEq, PV.lst.injEq, PV.tup.injEq, exists_eq_left', exists_eq_left, and_true, true_and, true_or, or_true, and_self, reduceCtorEq, gAdd, gSubI, gMul, gDiv, gMod, gPow, gLt, gLe, gGt, gGe, gIx, gNeg, eqB_int, gEq_int, gNe_int, gEq_str, gNe_str, if_true, if_false, Bool.false_eq_true, Nat.reduceAdd, Nat.zero_add, Bool.not_true, Bool.not_false, atI_c0, atI_c1, atI_c2]
  refine ⟨2, deep + 1, by simp, by omega, fun i ep et1 => ∃ (n1 : Nat) (s : Sm) (s4 s5 s6 : Slot), ep = [.val (.ref 1), .val (.lst (ws.map .str)), .val (.int deep), .val s.pv, s4, s5, s6] ∧ et1 = pt n1 ∧ n + 200 * (deep - 1 - i) ≤ n1 ∧ s.dep = i + 1 ∧ i ≤ deep - 1 ∧ s.ok ws ws,
    ⟨n + 1999, s, _, _, _, rfl, rfl, by omega, hs, by omega, ho⟩, ?_⟩
  rintro i ep et1 ⟨n1, s, s4, s5, s6, rfl, rfl, hn1, hs, hi, ho⟩
  have hlenR : (rng 2 ((deep : Int) + 1 - 2).toNat).length = deep - 1 := by simp [rng]; omega
  refine ⟨rfl, fun p hp => ⟨_, rfl, ?_⟩, fun e => ?_⟩
  · have hi : i < deep - 1 := by
      have := (List.getElem?_eq_some_iff.mp hp).1
      rw [hlenR] at this; exact this
    have hpe : p = .int ((i + 2 : Nat) : Int) := by
      unfold rng at hp
      rw [List.getElem?_map, List.getElem?_range (by omega)] at hp
      cases hp; simp [Int.add_comm]
    subst hpe
    obtain ⟨n2, rfl⟩ : ∃ n2, n1 = n2 + 200 := ⟨n1 - 200, by omega⟩
    unfold r__law_chain_1
    simp only [mSeq, mSet, mSetN, mSetX, mExpr, mExprX, mRet, mRetN, mRetX, mIf, mNext, mPass, mBrk, mCnt, mFrz, mAsg, mAsgX, mPar, mParN, mBin, mUn, mArg, mC, mVar, mPeek, mCall, mCons, mNil, mTup, mLst, mBinT, mAsT, mNotT, mAndT, mOrT, mAndE, mOrE, mNotE, mIfE, mChain, mChainT, mSl, mO0, mO1, mIter, mRng1, mRng2, mZip, mEnum, mMut, mMutR, mSubSet, mShare, mMeth, mFor, mLc, mYes, slotV, frzS, tgN, tgT, tgNs, wipeE, retK, mAug, List.foldl_cons, List.foldl_nil, deref_int, deref_str, deref_bl, deref_non, deref_tup, deref_lst, deref_scr, deref_dic, deref_ty, isLst, cellP, List.getElem?_cons_zero, List.getElem?_cons_succ, List.getElem?_nil, List.set_cons_zero, List.set_cons_succ, List.map_cons, List.map_nil, List.length_cons, List.length_nil, List.cons_append, List.nil_append, Option.some.injEq, Slot.val.injEq, Slot.own.injEq, PV.int.injEq, PV.bl.injEq, PV.str.injEq, PV.ref.injEq, PV.lst.injEq, PV.tup.injEq, exists_eq_left', exists_eq_left, and_true, true_and, true_or, or_true, and_self, reduceCtorEq, gAdd, gSubI, gMul, gDiv, gMod, gPow, gLt, gLe, gGt, gGe, gIx, gNeg, eqB_int, gEq_int, gNe_int, gEq_str, gNe_str, if_true, if_false, Bool.false_eq_true, Nat.reduceAdd, Nat.zero_add, Bool.not_true, Bool.not_false, atI_c0, atI_c1, atI_c2]
    refine take_pt (m := 5) (n := n2 + 199) (by decide) (by decide) fun d d0 d1 => ?_
    have hmin : gMin2 [.int (((i + 2 : Nat) : Int) - 1), .int (1 + d)] = some (.int (min (i + 1) (1 + d.toNat) : Nat)) := by
      unfold gMin2
      simp only []
      split <;> (congr 2; omega)
    have c5 : cs 5 = 190 := rfl
    simp only [mSeq, mSet, mSetN, mSetX, mExpr, mExprX, mRet, mRetN, mRetX, mIf, mNext, mPass, mBrk, mCnt, mFrz, mAsg, mAsgX, mPar, mParN, mBin, mUn, mArg, mC, mVar, mPeek, mCall, mCons, mNil, mTup, mLst, mBinT, mAsT, mNotT, mAndT, mOrT, mAndE, mOrE, mNotE, mIfE, mChain, mChainT, mSl, mO0, mO1, mIter, mRng1, mRng2, mZip, mEnum, mMut, mMutR, mSubSet, mShare, mMeth, mFor, mLc, mYes, slotV, frzS, tgN, tgT, tgNs, wipeE, retK, mAug, List.foldl_cons, List.foldl_nil, deref_int, deref_str, deref_bl, deref_non, deref_tup, deref_lst, deref_scr, deref_dic, deref_ty, isLst, cellP, List.getElem?_cons_zero, List.getElem?_cons_succ, List.getElem?_nil, List.set_cons_zero, List.set_cons_succ, List.map_cons, List.map_nil, List.length_cons, List.length_nil, List.cons_append, List.nil_append, Option.some.injEq, Slot.val.injEq, Slot.own.injEq, PV.int.injEq, PV.bl.injEq, PV.str.injEq, PV.ref.injEq, PV.lst.injEq, PV.tup.injEq, exists_eq_left', exists_eq_left, and_true, true_and, true_or, or_true, and_self, reduceCtorEq, gAdd, gSubI, gMul, gDiv, gMod, gPow, gLt, gLe, gGt, gGe, gIx, gNeg, eqB_int, gEq_int, gNe_int, gEq_str, gNe_str, if_true, if_false, Bool.false_eq_true, Nat.reduceAdd, Nat.zero_add, Bool.not_true, Bool.not_false, atI_c0, atI_c1, atI_c2, hmin]
    have hcs := cs_mono (show min (i + 1) (1 + d.toNat) ≤ 5 by omega)
    refine ⟨n2 + 199 - cs (min (i + 1) (1 + d.toNat)), min (i + 1) (1 + d.toNat), ws, ws, rfl, by omega, hw, hw, lw, lw, by congr 1; omega, fun n' hn' o od oo => ?_⟩
    unfold r__law_chain_2
    simp only [mSeq, mSet, mSetN, mSetX, mExpr, mExprX, mRet, mRetN, mRetX, mIf, mNext, mPass, mBrk, mCnt, mFrz, mAsg, mAsgX, mPar, mParN, mBin, mUn, mArg, mC, mVar, mPeek, mCall, mCons, mNil, mTup, mLst, mBinT, mAsT, mNotT, mAndT, mOrT, mAndE, mOrE, mNotE, mIfE, mChain, mChainT, mSl, mO0, mO1, mIter, mRng1, mRng2, mZip, mEnum, mMut, mMutR, mSubSet, mShare, mMeth, mFor, mLc, mYes, slotV, frzS, tgN, tgT, tgNs, wipeE, retK, mAug, List.foldl_cons, List.foldl_nil, deref_int, deref_str, deref_bl, deref_non, deref_tup, deref_lst, deref_scr, deref_dic, deref_ty, isLst, cellP, List.getElem?_cons_zero, List.getElem?_cons_succ, List.getElem?_nil, List.set_cons_zero, List.set_cons_succ, List.map_cons, List.map_nil, List.length_cons, List.length_nil, List.cons_append, List.nil_append, Option.some.injEq, Slot.val.injEq, Slot.own.injEq, PV.int.injEq, PV.bl.injEq, PV.str.injEq, PV.ref.injEq, PV.lst.injEq, PV.tup.injEq, exists_eq_left', exists_eq_left, and_true, true_and, true_or, or_true, and_self, reduceCtorEq, gAdd, gSubI, gMul, gDiv, gMod, gPow, gLt, gLe, gGt, gGe, gIx, gNeg, eqB_int, gEq_int, gNe_int, gEq_str, gNe_str, if_true, if_false, Bool.false_eq_true, Nat.reduceAdd, Nat.zero_add, Bool.not_true, Bool.not_false, atI_c0, atI_c1, atI_c2]
    refine ⟨by decide, ?_⟩
    obtain ⟨n3, rfl⟩ : ∃ n3, n' = n3 + 2 := ⟨n' - 2, by omega⟩
    refine of_intro (n := n3 + 1) (by simp) (by simp) fun x hx => ?_
    unfold r__law_chain_3
    have hx2 : x = .str "not" ∨ ∃ t : Tw, x = .str t.str := by
      simp only [List.mem_cons, List.not_mem_nil, or_false] at hx
      rcases hx with rfl | rfl | rfl | rfl | rfl | rfl | rfl
      · exact .inr ⟨.plus, rfl⟩
      · exact .inr ⟨.minus, rfl⟩
      · exact .inr ⟨.less, rfl⟩
      · exact .inr ⟨.same, rfl⟩
      · exact .inr ⟨.both, rfl⟩
      · exact .inl rfl
      · exact .inl rfl
    rcases hx2 with rfl | ⟨t, rfl⟩
    · simp only [mSeq, mSet, mSetN, mSetX, mExpr, mExprX, mRet, mRetN, mRetX, mIf, mNext, mPass, mBrk, mCnt, mFrz, mAsg, mAsgX, mPar, mParN, mBin, mUn, mArg, mC, mVar, mPeek, mCall, mCons, mNil, mTup, mLst, mBinT, mAsT, mNotT, mAndT, mOrT, mAndE, mOrE, mNotE, mIfE, mChain, mChainT, mSl, mO0, mO1, mIter, mRng1, mRng2, mZip, mEnum, mMut, mMutR, mSubSet, mShare, mMeth, mFor, mLc, mYes, slotV, frzS, tgN, tgT, tgNs, wipeE, retK, mAug, List.foldl_cons, List.foldl_nil, deref_int, deref_str, deref_bl, deref_non, deref_tup, deref_lst, deref_scr, deref_dic, deref_ty, isLst, cellP, List.getElem?_cons_zero, List.getElem?_cons_succ, List.getElem?_nil, List.set_cons_zero, List.set_cons_succ, List.map_cons, List.map_nil, List.length_cons, List.length_nil, List.cons_append, List.nil_append, Option.some.injEq, Slot.val.injEq, Slot.own.injEq, PV.int.injEq, PV.bl.injEq, PV.str.injEq, PV.ref.injEq, PV.lst.injEq, PV.tup.injEq, exists_eq_left', exists_eq_left, and_true, true_and, true_or, or_true, and_self, reduceCtorEq, gAdd, gSubI, gMul, gDiv, gMod, gPow, gLt, gLe, gGt, gGe, gIx, gNeg, eqB_int, gEq_int, gNe_int, gEq_str, gNe_str, if_true, if_false, Bool.false_eq_true, Nat.reduceAdd, Nat.zero_add, Bool.not_true, Bool.not_false, atI_c0, atI_c1, atI_c2, decide_true]
      unfold r__law_chain_4
      simp only [mSeq, mSet, mSetN, mSetX, mExpr, mExprX, mRet, mRetN, mRetX, mIf, mNext, mPass, mBrk, mCnt, mFrz, mAsg, mAsgX, mPar, mParN, mBin, mUn, mArg, mC, mVar, mPeek, mCall, mCons, mNil, mTup, mLst, mBinT, mAsT, mNotT, mAndT, mOrT, mAndE, mOrE, mNotE, mIfE, mChain, mChainT, mSl, mO0, mO1, mIter, mRng1, mRng2, mZip, mEnum, mMut, mMutR, mSubSet, mShare, mMeth, mFor, mLc, mYes, slotV, frzS, tgN, tgT, tgNs, wipeE, retK, mAug, List.foldl_cons, List.foldl_nil, deref_int, deref_str, deref_bl, deref_non, deref_tup, deref_lst, deref_scr, deref_dic, deref_ty, isLst, cellP, List.getElem?_cons_zero, List.getElem?_cons_succ, List.getElem?_nil, List.set_cons_zero, List.set_cons_succ, List.map_cons, List.map_nil, List.length_cons, List.length_nil, List.cons_append, List.nil_append, Option.some.injEq, Slot.val.injEq, Slot.own.injEq, PV.int.injEq, PV.bl.injEq, PV.str.injEq, PV.ref.injEq, PV.lst.injEq, PV.tup.injEq, exists_eq_left', exists_eq_left, and_true, true_and, true_or, or_true, and_self, reduceCtorEq, gAdd, gSubI, gMul, gDiv, gMod, gPow, gLt, gLe, gGt, gGe, gIx, gNeg, eqB_int, gEq_int, gNe_int, gEq_str, gNe_str, if_true, if_false, Bool.false_eq_true, Nat.reduceAdd, Nat.zero_add, Bool.not_true, Bool.not_false, atI_c0, atI_c1, atI_c2]
      refine ⟨by decide, n3 + 1, .not s, _, _, _, rfl, rfl, by omega, ?_, by omega, ho⟩
      show s.dep + 1 = _; omega
    · have hne : t.str ≠ Str.ofString "not" := by cases t <;> decide
      simp only [mSeq, mSet, mSetN, mSetX, mExpr, mExprX, mRet, mRetN, mRetX, mIf, mNext, mPass, mBrk, mCnt, mFrz, mAsg, mAsgX, mPar, mParN, mBin, mUn, mArg, mC, mVar, mPeek, mCall, mCons, mNil, mTup, mLst, mBinT, mAsT, mNotT, mAndT, mOrT, mAndE, mOrE, mNotE, mIfE, mChain, mChainT, mSl, mO0, mO1, mIter, mRng1, mRng2, mZip, mEnum, mMut, mMutR, mSubSet, mShare, mMeth, mFor, mLc, mYes, slotV, frzS, tgN, tgT, tgNs, wipeE, retK, mAug, List.foldl_cons, List.foldl_nil, deref_int, deref_str, deref_bl, deref_non, deref_tup, deref_lst, deref_scr, deref_dic, deref_ty, isLst, cellP, List.getElem?_cons_zero, List.getElem?_cons_succ, List.getElem?_nil, List.set_cons_zero, List.set_cons_succ, List.map_cons, List.map_nil, List.length_cons, List.length_nil, List.cons_append, List.nil_append, Option.some.injEq, Slot.val.injEq, Slot.own.injEq, PV.int.injEq, PV.bl.injEq, PV.str.injEq, PV.ref.injEq, PV.lst.injEq, PV.tup.injEq, exists_eq_left', exists_eq_left, and_true, true_and, true_or, or_true, and_self, reduceCtorEq, gAdd, gSubI, gMul, gDiv, gMod, gPow, gLt, gLe, gGt, gGe, gIx, gNeg, eqB_int, gEq_int, gNe_int, gEq_str, gNe_str, if_true, if_false, Bool.false_eq_true, Nat.reduceAdd, Nat.zero_add, Bool.not_true, Bool.not_false, atI_c0, atI_c1, atI_c2]
      rw [if_neg (by simpa using hne)]
      unfold r__law_chain_5
      simp only [mSeq, mSet, mSetN, mSetX, mExpr, mExprX, mRet, mRetN, mRetX, mIf, mNext, mPass, mBrk, mCnt, mFrz, mAsg, mAsgX, mPar, mParN, mBin, mUn, mArg, mC, mVar, mPeek, mCall, mCons, mNil, mTup, mLst, mBinT, mAsT, mNotT, mAndT, mOrT, mAndE, mOrE, mNotE, mIfE, mChain, mChainT, mSl, mO0, mO1, mIter, mRng1, mRng2, mZip, mEnum, mMut, mMutR, mSubSet, mShare, mMeth, mFor, mLc, mYes, slotV, frzS, tgN, tgT, tgNs, wipeE, retK, mAug, List.foldl_cons, List.foldl_nil, deref_int, deref_str, deref_bl, deref_non, deref_tup, deref_lst, deref_scr, deref_dic, deref_ty, isLst, cellP, List.getElem?_cons_zero, List.getElem?_cons_succ, List.getElem?_nil, List.set_cons_zero, List.set_cons_succ, List.map_cons, List.map_nil, List.length_cons, List.length_nil, List.cons_append, List.nil_append, Option.some.injEq, Slot.val.injEq, Slot.own.injEq, PV.int.injEq, PV.bl.injEq, PV.str.injEq, PV.ref.injEq, PV.lst.injEq, PV.tup.injEq, exists_eq_left', exists_eq_left, and_true, true_and, true_or, or_true, and_self, reduceCtorEq, gAdd, gSubI, gMul, gDiv, gMod, gPow, gLt, gLe, gGt, gGe, gIx, gNeg, eqB_int, gEq_int, gNe_int, gEq_str, gNe_str, if_true, if_false, Bool.false_eq_true, Nat.reduceAdd, Nat.zero_add, Bool.not_true, Bool.not_false, atI_c0, atI_c1, atI_c2]
      refine ⟨by decide, by decide, by decide, ?_⟩
      refine take_pt (n := n3) (by decide) (by decide) fun e e0 e1 => ?_
      have he : e = 0 ∨ e = 1 := by omega
      rcases he with rfl | rfl
      · refine ⟨_, atI_c0 _ _, n3, .two t s o, _, _, _, rfl, rfl, by omega, ?_, by omega, ho, oo⟩
        show max s.dep o.dep + 1 = _; omega
      · refine ⟨_, atI_c1 _ _ _, n3, .two t o s, _, _, _, rfl, rfl, by omega, ?_, by omega, oo, ho⟩
        show max o.dep s.dep + 1 = _; omega
  · rw [hlenR] at e
    unfold r__law_chain_6
    simp only [mSeq, mSet, mSetN, mSetX, mExpr, mExprX, mRet, mRetN, mRetX, mIf, mNext, mPass, mBrk, mCnt, mFrz, mAsg, mAsgX, mPar, mParN, mBin, mUn, mArg, mC, mVar, mPeek, mCall, mCons, mNil, mTup, mLst, mBinT, mAsT, mNotT, mAndT, mOrT, mAndE, mOrE, mNotE, mIfE, mChain, mChainT, mSl, mO0, mO1, mIter, mRng1, mRng2, mZip, mEnum, mMut, mMutR, mSubSet, mShare, mMeth, mFor, mLc, mYes, slotV, frzS, tgN, tgT, tgNs, wipeE, retK, mAug, List.foldl_cons, List.foldl_nil, deref_int, deref_str, deref_bl, deref_non, deref_tup, deref_lst, deref_scr, deref_dic, deref_ty, isLst, cellP, List.getElem?_cons_zero, List.getElem?_cons_succ, List.getElem?_nil, List.set_cons_zero, List.set_cons_succ, List.map_cons, List.map_nil, List.length_cons, List.length_nil, List.cons_append, List.nil_append, Option.some.injEq, Slot.val.injEq, Slot.own.injEq, PV.int.injEq, PV.bl.injEq, PV.str.injEq, PV.ref.injEq, PV.lst.injEq, PV.tup.injEq, exists_eq_left', exists_eq_left, and_true, true_and, true_or, or_true, and_self, reduceCtorEq, gAdd, gSubI, gMul, gDiv, gMod, gPow, gLt, gLe, gGt, gGe, gIx, gNeg, eqB_int, gEq_int, gNe_int, gEq_str, gNe_str, if_true, if_false, Bool.false_eq_true, Nat.reduceAdd, Nat.zero_add, Bool.not_true, Bool.not_false, atI_c0, atI_c1, atI_c2]
    exact hR n1 (by omega) s (by omega) ho
/-! what the predicate says of a drawn sum -/
theorem ofString_ne {a b : String} (h : a ≠ b) (h2 : (Str.ofString a == Str.ofString b) = false) : Str.ofString a ≠ Str.ofString b := str_ne h2
theorem tw_facts (t : Tw) : t.str ≠ Str.ofString "waits" ∧ t.str ≠ Str.ofString "not" ∧ twoB t.str = true := by cases t <;> exact ⟨by decide, by decide, by decide⟩
theorem sumIn_sm {ws bs : List Str} (hw : ∀ x ∈ ws, isWord x = true) (hb : ∀ x ∈ bs, isWord x = true) : ∀ (s : Sm) (n : Nat), s.ok ws bs → sumIn n s.pv = decide (s.dep ≤ n)
  | s, 0, _ => by
    have := dep_pos s
    show false = _
    symm; rw [decide_eq_false_iff_not]; omega
  | .val v, n + 1, h => by
    show (valB (.int v) || wordB (.int v)) = decide (1 ≤ n + 1)
    have h9 : v ≤ 9 := h
    have : valB (.int (v : Int)) = true := by
      simp only [valB, Bool.and_eq_true, decide_eq_true_eq]; omega
    simp [this]
  | .wrd x, n + 1, h => by
    show (valB (.str x) || wordB (.str x)) = decide (1 ≤ n + 1)
    have : wordB (.str x) = true := hw x h
    simp [this]
  | .wts x, n + 1, h => by
    have h1 : isWord x = true := hb x h
    show sumIn (n + 1) (.tup [.str "waits", .str x]) = decide (1 ≤ n + 1)
    simp [sumIn, wordB, h1]
  | .not a, n + 1, h => by
    show sumIn (n + 1) (.tup [.str "not", a.pv]) = decide (a.dep + 1 ≤ n + 1)
    have h1 : ("not" : Str) ≠ ("waits" : Str) := by decide
    simp [sumIn, h1, sumIn_sm hw hb a n h]
  | .two t a b, n + 1, h => by
    show sumIn (n + 1) (.tup [.str t.str, a.pv, b.pv]) = decide (max a.dep b.dep + 1 ≤ n + 1)
    obtain ⟨h1, h2, h3⟩ := tw_facts t
    simp only [sumIn, h1, h2, h3, if_false, if_true, sumIn_sm hw hb a n h.1, sumIn_sm hw hb b n h.2]
    rw [Bool.eq_iff_iff]; simp only [Bool.and_eq_true, decide_eq_true_eq]; omega
theorem word_fit {x : Str} (h : isWord x = true) : fitP (.str x) = true := by
  unfold isWord at h
  simp only [Bool.and_eq_true, decide_eq_true_eq] at h
  have : (8 : Nat) ≤ sizeLine := by decide
  simp only [fitP, decide_eq_true_eq]; omega
theorem fits_sm {ws bs : List Str} (hw : ∀ x ∈ ws, isWord x = true) (hb : ∀ x ∈ bs, isWord x = true) : ∀ (s : Sm) (n : Nat), s.ok ws bs → fits n s.pv = true
  | .val v, 0, h => rfl
  | .val v, n + 1, h => rfl
  | .wrd x, 0, h => word_fit (hw x h)
  | .wrd x, n + 1, h => word_fit (hw x h)
  | .wts x, 0, h => rfl
  | .wts x, n + 1, h => by
    show (decide ((2 : Nat) ≤ sizeLine) && [PV.str "waits", PV.str x].all fun y => fits n y) = true
    have h1 : fits n (.str x) = true := by cases n <;> exact word_fit (hb x h)
    have h2 : fits n (.str "waits") = true := by cases n <;> rfl
    simp [h1, h2]; decide
  | .not a, 0, h => rfl
  | .not a, n + 1, h => by
    show (decide ((2 : Nat) ≤ sizeLine) && [PV.str "not", a.pv].all fun y => fits n y) = true
    have h2 : fits n (.str "not") = true := by cases n <;> rfl
    simp [h2, fits_sm hw hb a n h]; decide
  | .two t a b, 0, h => rfl
  | .two t a b, n + 1, h => by
    show (decide ((3 : Nat) ≤ sizeLine) && [PV.str t.str, a.pv, b.pv].all fun y => fits n y) = true
    have h2 : fits n (.str t.str) = true := by cases n <;> cases t <;> rfl
    simp [h2, fits_sm hw hb a n h.1, fits_sm hw hb b n h.2]; decide
/-! joined letters -/
def ltr (n : Nat) : Str := ⟨#[97 + n % 26]⟩
theorem strsP_map (xs : List Str) : strsP (xs.map .str) = some xs := by
  induction xs with
  | nil => rfl
  | cons x xs ih => simp [strsP, ih]
theorem join_nil (xs : List Str) : (Txt.join (Str.ofString "") xs).cps.toList = xs.flatMap fun x => x.cps.toList := by
  show (Builtin.Str.glued (Str.ofString "") xs).cps.toList = _
  rw [StrLaws.glued_eq_join]
  induction xs with
  | nil => rfl
  | cons x xs ih =>
    cases xs with
    | nil => simp [Str.join]
    | cons y ys =>
      have : Str.join (Str.ofString "") (x :: y :: ys) = x ++ Str.ofString "" ++ Str.join (Str.ofString "") (y :: ys) := rfl
      rw [this, cps_append, Array.toList_append, cps_append, Array.toList_append, ih, List.flatMap_cons]
      have e : (Str.ofString "").cps.toList = [] := by decide
      rw [e, List.append_nil]; rfl
def ltrs (js : List Nat) : Str := Txt.join (Str.ofString "") (js.map ltr)
theorem ltrs_cps (js : List Nat) : (ltrs js).cps.toList = js.map fun n => 97 + n % 26 := by
  unfold ltrs
  rw [join_nil, List.flatMap_map]
  induction js with
  | nil => rfl
  | cons j js ih => rw [List.flatMap_cons, ih]; rfl
theorem ltrs_size (js : List Nat) : (ltrs js).cps.size = js.length := by
  rw [← Array.length_toList, ltrs_cps, List.length_map]
theorem ltrs_word (js : List Nat) : isWord (ltrs js) = (decide (0 < js.length) && decide (js.length < 9)) := by
  unfold isWord
  rw [ltrs_size, ltrs_cps]
  have : (js.map fun n => 97 + n % 26).all (fun c => decide (97 ≤ c) && decide (c ≤ 122)) = true := by
    rw [List.all_eq_true]
    intro c hc
    obtain ⟨n, _, rfl⟩ := List.mem_map.mp hc
    simp only [Bool.and_eq_true, decide_eq_true_eq]; omega
  rw [this, Bool.and_true, Bool.eq_iff_iff]
  simp only [Bool.and_eq_true, decide_eq_true_eq]; omega
theorem join_ltrs {js : List Nat} (h : js.length ≤ 1000) : gJoin (.str (Str.ofString "")) [.lst (js.map fun n => .str (ltr n))] = some (.str (ltrs js)) := by
  show ((strsP (js.map fun n => PV.str (ltr n))).bind _) = _
  have e : (js.map fun n => PV.str (ltr n)) = (js.map ltr).map .str := by rw [List.map_map]; rfl
  rw [e, strsP_map, Option.bind_some]
  refine if_pos ?_
  have : ((js.map ltr).map (·.length)).sum = js.length := by
    rw [List.map_map]
    have : ((fun x : Str => x.length) ∘ ltr) = fun _ => 1 := rfl
    rw [this]
    induction js with
    | nil => rfl
    | cons j js ih => rw [List.map_cons, List.sum_cons, ih (by simp at h; omega) (by rw [List.map_map]; rfl), List.length_cons, Nat.add_comm]
  rw [this]
  have : (Str.ofString "").length = 0 := by decide
  rw [this]; omega
theorem truth_true {a b : Bool} {et : Hi} {R : PV → Hi → Prop} (h : a = b) (k : R (.bl true) et) : spTruth [.bl a, .bl b] et R := ⟨a, b, rfl, by subst h; cases a <;> exact k⟩
theorem truth_chain {p q : Prop} [Decidable p] [Decidable q] {a : Bool} {et : Hi} {R : PV → Hi → Prop} (h : a = (decide p && decide q)) (k : R (.bl true) et) : if decide p = true then spTruth [.bl a, .bl (decide q)] et R else spTruth [.bl a, .bl false] et R := by
  split
  · rename_i e; rw [e, Bool.true_and] at h; exact truth_true h k
  · rename_i e; rw [Bool.eq_false_iff.mpr e, Bool.false_and] at h; exact truth_true h k
theorem truth_chain2 {p q r s : Prop} [Decidable p] [Decidable q] [Decidable r] [Decidable s] {a : Bool} {et : Hi} {R : PV → Hi → Prop} (h : a = ((decide p && decide q) && (decide r && decide s))) (k : R (.bl true) et) :
    if decide p = true then (if decide q = true then (if decide r = true then spTruth [.bl a, .bl (decide s)] et R else spTruth [.bl a, .bl false] et R) else spTruth [.bl a, .bl false] et R) else spTruth [.bl a, .bl false] et R := by
  split
  · rename_i e; rw [e, Bool.true_and] at h
    split
    · rename_i e; rw [e, Bool.true_and] at h
      exact truth_chain h k
    · rename_i e; rw [Bool.eq_false_iff.mpr e, Bool.false_and] at h; exact truth_true h k
  · rename_i e; rw [Bool.eq_false_iff.mpr e, Bool.false_and, Bool.false_and] at h; exact truth_true h k
def spLaw : FSpec := fun args et R => ∃ ns : List Int, args = [.scr ns] ∧ ns.length ≤ 63 ∧ et = [] ∧ ∀ et', R (.bl true) et'
theorem law_ok (args : List PV) (et : Hi) (R : PV → Hi → Prop) (h : spLaw args et R) : r_law spPot spWords spTruth spIsSum spChain spTake (env0 N_law args) et (retK R) := by
  obtain ⟨ns, rfl, hl, rfl, hR⟩ := h
  show r_law _ _ _ _ _ _ [.val (.scr ns), .no, .no, .no, .no, .no, .no, .no] _ (retK R)
  unfold r_law
  simp only [mSeq, mSet, mSetN, mSetX, mExpr, mExprX, mRet, mRetN, mRetX, mIf, mNext, mPass, mBrk, mCnt, mFrz, mAsg, mAsgX, mPar, mParN, mBin, mUn, mArg, mC, mVar, mPeek, mCall, mCons, mNil, mTup, mLst, mBinT, mAsT, mNotT, mAndT, mOrT, mAndE, mOrE, mNotE, mIfE, mChain, mChainT, mSl, mO0, mO1, mIter, mRng1, mRng2, mZip, mEnum, mMut, mMutR, mSubSet, mShare, mMeth, mFor, mLc, mYes, slotV, frzS, tgN, tgT, tgNs, wipeE, retK, mAug, List.foldl_cons, List.foldl_nil, deref_int, deref_str, deref_bl, deref_non, deref_tup, deref_lst, deref_scr, deref_dic, deref_ty, isLst, cellP, List.getElem?_cons_zero, List.getElem?_cons_succ, List.getElem?_nil, List.set_cons_zero, List.set_cons_succ, List.map_cons, List.map_nil, List.length_cons, List.length_nil, List.cons_append, List.nil_append, Option.some.injEq, Slot.val.injEq, Slot.own.injEq, PV.int.injEq, PV.bl.injEq, PV.str.injEq, PV.ref.injEq, PV.lst.injEq, PV.tup.injEq, exists_eq_left', exists_eq_left, and_true, true_and, true_or, or_true, and_self, reduceCtorEq, gAdd, gSubI, gMul, gDiv, gMod, gPow, gLt, gLe, gGt, gGe, gIx, gNeg, eqB_int, gEq_int, gNe_int, gEq_str, gNe_str, if_true, if_false, Bool.false_eq_true, Nat.reduceAdd, Nat.zero_add, Bool.not_true, Bool.not_false, atI_c0, atI_c1, atI_c2]
  refine ⟨ns, rfl, hl, ?_⟩
  show r_law_0 _ _ _ _ _ [.val (.scr ns), .val (.ref 1), .no, .no, .no, .no, .no, .no] (pt 1099511627776) (retK R)
  unfold r_law_0
  simp only [mSeq, mSet, mSetN, mSetX, mExpr, mExprX, mRet, mRetN, mRetX, mIf, mNext, mPass, mBrk, mCnt, mFrz, mAsg, mAsgX, mPar, mParN, mBin, mUn, mArg, mC, mVar, mPeek, mCall, mCons, mNil, mTup, mLst, mBinT, mAsT, mNotT, mAndT, mOrT, mAndE, mOrE, mNotE, mIfE, mChain, mChainT, mSl, mO0, mO1, mIter, mRng1, mRng2, mZip, mEnum, mMut, mMutR, mSubSet, mShare, mMeth, mFor, mLc, mYes, slotV, frzS, tgN, tgT, tgNs, wipeE, retK, mAug, List.foldl_cons, List.foldl_nil, deref_int, deref_str, deref_bl, deref_non, deref_tup, deref_lst, deref_scr, deref_dic, deref_ty, isLst, cellP, List.getElem?_cons_zero, List.getElem?_cons_succ, List.getElem?_nil, List.set_cons_zero, List.set_cons_succ, List.map_cons, List.map_nil, List.length_cons, List.length_nil, List.cons_append, List.nil_append, Option.some.injEq, Slot.val.injEq, Slot.own.injEq, PV.int.injEq, PV.bl.injEq, PV.str.injEq, PV.ref.injEq, PV.lst.injEq, PV.tup.injEq, exists_eq_left', exists_eq_left, and_true, true_and, true_or, or_true, and_self, reduceCtorEq, gAdd, gSubI, gMul, gDiv, gMod, gPow, gLt, gLe, gGt, gGe, gIx, gNeg, eqB_int, gEq_int, gNe_int, gEq_str, gNe_str, if_true, if_false, Bool.false_eq_true, Nat.reduceAdd, Nat.zero_add, Bool.not_true, Bool.not_false, atI_c0, atI_c1, atI_c2]
  refine ⟨1099511627774, 4, rfl, by decide, rfl, fun ws wl hw _ => ?_⟩
  unfold r_law_1
  have hlen : gLen [.scr ns] = some (.int ns.length) := rfl
  have hmin : gMin2 [.int 60, .int ns.length] = some (.int (min 60 ns.length : Nat)) := by
    unfold gMin2
    simp only []
    split <;> (congr 2; omega)
  have hmax : gMax2 [.int 16, .int (min 60 ns.length : Nat)] = some (.int (max 16 (min 60 ns.length) : Nat)) := by
    unfold gMax2
    simp only []
    split <;> (congr 2; omega)
  simp only [mSeq, mSet, mSetN, mSetX, mExpr, mExprX, mRet, mRetN, mRetX, mIf, mNext, mPass, mBrk, mCnt, mFrz, mAsg, mAsgX, mPar, mParN, mBin, mUn, mArg, mC, mVar, mPeek, mCall, mCons, mNil, mTup, mLst, mBinT, mAsT, mNotT, mAndT, mOrT, mAndE, mOrE, mNotE, mIfE, mChain, mChainT, mSl, mO0, mO1, mIter, mRng1, mRng2, mZip, mEnum, mMut, mMutR, mSubSet, mShare, mMeth, mFor, mLc, mYes, slotV, frzS, tgN, tgT, tgNs, wipeE, retK, mAug, List.foldl_cons, List.foldl_nil, deref_int, deref_str, deref_bl, deref_non, deref_tup, deref_lst, deref_scr, deref_dic, deref_ty, isLst, cellP, List.getElem?_cons_zero, List.getElem?_cons_succ, List.getElem?_nil, List.set_cons_zero, List.set_cons_succ, List.map_cons, List.map_nil, List.length_cons, List.length_nil, List.cons_append, List.nil_append, Option.some.injEq, Slot.val.injEq, Slot.own.injEq, PV.int.injEq, PV.bl.injEq, PV.str.injEq, PV.ref.injEq, PV.lst.injEq, PV.tup.injEq, exists_eq_left', exists_eq_left, and_true, true_and, true_or, or_true, and_self, reduceCtorEq, gAdd, gSubI, gMul, gDiv, gMod, gPow, gLt, gLe, gGt, gGe, gIx, gNeg, eqB_int, gEq_int, gNe_int, gEq_str, gNe_str, if_true, if_false, Bool.false_eq_true, Nat.reduceAdd, Nat.zero_add, Bool.not_true, Bool.not_false, atI_c0, atI_c1, atI_c2, hlen, hmin, hmax]
  refine ⟨(max 16 (min 60 ns.length) : Nat), rfl, by omega, by omega, fun i ep et1 => ∃ (n1 : Nat) (s3 s4 s5 s6 s7 : Slot), ep = [.val (.scr ns), .val (.ref 1), .val (.lst (ws.map .str)), s3, s4, s5, s6, s7] ∧ et1 = pt n1 ∧ 3000 * (60 - i) ≤ n1,
    ⟨1099511627774, _, _, _, _, _, rfl, rfl, by omega⟩, ?_⟩
  rintro i ep et1 ⟨n1, s3, s4, s5, s6, s7, rfl, rfl, hn1⟩
  have hlenR : (rng 0 (max 16 (min 60 ns.length) : Nat)).length = max 16 (min 60 ns.length) := by simp [rng]
  refine ⟨rfl, fun p hp => ⟨_, rfl, ?_⟩, fun e => ?_⟩
  · have hi : i < max 16 (min 60 ns.length) := by
      have := (List.getElem?_eq_some_iff.mp hp).1
      simpa [rng] using this
    have hpe : p = .int (i : Int) := by
      simp only [Int.toNat_natCast] at hp
      unfold rng at hp
      rw [List.getElem?_map, List.getElem?_range (by omega)] at hp
      cases hp; simp
    subst hpe
    unfold r_law_2
    simp only [mSeq, mSet, mSetN, mSetX, mExpr, mExprX, mRet, mRetN, mRetX, mIf, mNext, mPass, mBrk, mCnt, mFrz, mAsg, mAsgX, mPar, mParN, mBin, mUn, mArg, mC, mVar, mPeek, mCall, mCons, mNil, mTup, mLst, mBinT, mAsT, mNotT, mAndT, mOrT, mAndE, mOrE, mNotE, mIfE, mChain, mChainT, mSl, mO0, mO1, mIter, mRng1, mRng2, mZip, mEnum, mMut, mMutR, mSubSet, mShare, mMeth, mFor, mLc, mYes, slotV, frzS, tgN, tgT, tgNs, wipeE, retK, mAug, List.foldl_cons, List.foldl_nil, deref_int, deref_str, deref_bl, deref_non, deref_tup, deref_lst, deref_scr, deref_dic, deref_ty, isLst, cellP, List.getElem?_cons_zero, List.getElem?_cons_succ, List.getElem?_nil, List.set_cons_zero, List.set_cons_succ, List.map_cons, List.map_nil, List.length_cons, List.length_nil, List.cons_append, List.nil_append, Option.some.injEq, Slot.val.injEq, Slot.own.injEq, PV.int.injEq, PV.bl.injEq, PV.str.injEq, PV.ref.injEq, PV.lst.injEq, PV.tup.injEq, exists_eq_left', exists_eq_left, and_true, true_and, true_or, or_true, and_self, reduceCtorEq, gAdd, gSubI, gMul, gDiv, gMod, gPow, gLt, gLe, gGt, gGe, gIx, gNeg, eqB_int, gEq_int, gNe_int, gEq_str, gNe_str, if_true, if_false, Bool.false_eq_true, Nat.reduceAdd, Nat.zero_add, Bool.not_true, Bool.not_false, atI_c0, atI_c1, atI_c2, Int.reduceLT]
    have hdeep : (1 + (i : Int) % 8) = ((1 + i % 8 : Nat) : Int) := by omega
    rw [hdeep]
    generalize hD : 1 + i % 8 = deep
    unfold r_law_3
    simp only [mSeq, mSet, mSetN, mSetX, mExpr, mExprX, mRet, mRetN, mRetX, mIf, mNext, mPass, mBrk, mCnt, mFrz, mAsg, mAsgX, mPar, mParN, mBin, mUn, mArg, mC, mVar, mPeek, mCall, mCons, mNil, mTup, mLst, mBinT, mAsT, mNotT, mAndT, mOrT, mAndE, mOrE, mNotE, mIfE, mChain, mChainT, mSl, mO0, mO1, mIter, mRng1, mRng2, mZip, mEnum, mMut, mMutR, mSubSet, mShare, mMeth, mFor, mLc, mYes, slotV, frzS, tgN, tgT, tgNs, wipeE, retK, mAug, List.foldl_cons, List.foldl_nil, deref_int, deref_str, deref_bl, deref_non, deref_tup, deref_lst, deref_scr, deref_dic, deref_ty, isLst, cellP, List.getElem?_cons_zero, List.getElem?_cons_succ, List.getElem?_nil, List.set_cons_zero, List.set_cons_succ, List.map_cons, List.map_nil, List.length_cons, List.length_nil, List.cons_append, List.nil_append, Option.some.injEq, Slot.val.injEq, Slot.own.injEq, PV.int.injEq, PV.bl.injEq, PV.str.injEq, PV.ref.injEq, PV.lst.injEq, PV.tup.injEq, exists_eq_left', exists_eq_left, and_true, true_and, true_or, or_true, and_self, reduceCtorEq, gAdd, gSubI, gMul, gDiv, gMod, gPow, gLt, gLe, gGt, gGe, gIx, gNeg, eqB_int, gEq_int, gNe_int, gEq_str, gNe_str, if_true, if_false, Bool.false_eq_true, Nat.reduceAdd, Nat.zero_add, Bool.not_true, Bool.not_false, atI_c0, atI_c1, atI_c2]
    obtain ⟨n2, rfl⟩ : ∃ n2, n1 = n2 + 2000 := ⟨n1 - 2000, by omega⟩
    refine ⟨n2, deep, ws, rfl, by omega, by omega, hw, by omega, by omega, rfl, fun n3 hn3 s hs ho => ?_⟩
    refine ⟨s.pv, rfl, fits_sm hw hw s 5 ho, ?_⟩
    simp only [mSeq, mSet, mSetN, mSetX, mExpr, mExprX, mRet, mRetN, mRetX, mIf, mNext, mPass, mBrk, mCnt, mFrz, mAsg, mAsgX, mPar, mParN, mBin, mUn, mArg, mC, mVar, mPeek, mCall, mCons, mNil, mTup, mLst, mBinT, mAsT, mNotT, mAndT, mOrT, mAndE, mOrE, mNotE, mIfE, mChain, mChainT, mSl, mO0, mO1, mIter, mRng1, mRng2, mZip, mEnum, mMut, mMutR, mSubSet, mShare, mMeth, mFor, mLc, mYes, slotV, frzS, tgN, tgT, tgNs, wipeE, retK, mAug, List.foldl_cons, List.foldl_nil, deref_int, deref_str, deref_bl, deref_non, deref_tup, deref_lst, deref_scr, deref_dic, deref_ty, isLst, cellP, List.getElem?_cons_zero, List.getElem?_cons_succ, List.getElem?_nil, List.set_cons_zero, List.set_cons_succ, List.map_cons, List.map_nil, List.length_cons, List.length_nil, List.cons_append, List.nil_append, Option.some.injEq, Slot.val.injEq, Slot.own.injEq, PV.int.injEq, PV.bl.injEq, PV.str.injEq, PV.ref.injEq, PV.lst.injEq, PV.tup.injEq, exists_eq_left', exists_eq_left, and_true, true_and, true_or, or_true, and_self, reduceCtorEq, gAdd, gSubI, gMul, gDiv, gMod, gPow, gLt, gLe, gGt, gGe, gIx, gNeg, eqB_int, gEq_int, gNe_int, gEq_str, gNe_str, if_true, if_false, Bool.false_eq_true, Nat.reduceAdd, Nat.zero_add, Bool.not_true, Bool.not_false, atI_c0, atI_c1, atI_c2]
    refine ⟨_, _, rfl, ?_⟩
    have hb : (sumIn 5 s.pv == decide ((deep : Int) < 6)) = true := by
      rw [sumIn_sm hw hw s 5 ho, hs, beq_iff_eq, Bool.eq_iff_iff, decide_eq_true_eq, decide_eq_true_eq]; omega
    rw [hb]
    simp only [mSeq, mSet, mSetN, mSetX, mExpr, mExprX, mRet, mRetN, mRetX, mIf, mNext, mPass, mBrk, mCnt, mFrz, mAsg, mAsgX, mPar, mParN, mBin, mUn, mArg, mC, mVar, mPeek, mCall, mCons, mNil, mTup, mLst, mBinT, mAsT, mNotT, mAndT, mOrT, mAndE, mOrE, mNotE, mIfE, mChain, mChainT, mSl, mO0, mO1, mIter, mRng1, mRng2, mZip, mEnum, mMut, mMutR, mSubSet, mShare, mMeth, mFor, mLc, mYes, slotV, frzS, tgN, tgT, tgNs, wipeE, retK, mAug, List.foldl_cons, List.foldl_nil, deref_int, deref_str, deref_bl, deref_non, deref_tup, deref_lst, deref_scr, deref_dic, deref_ty, isLst, cellP, List.getElem?_cons_zero, List.getElem?_cons_succ, List.getElem?_nil, List.set_cons_zero, List.set_cons_succ, List.map_cons, List.map_nil, List.length_cons, List.length_nil, List.cons_append, List.nil_append, Option.some.injEq, Slot.val.injEq, Slot.own.injEq, PV.int.injEq, PV.bl.injEq, PV.str.injEq, PV.ref.injEq, PV.lst.injEq, PV.tup.injEq, exists_eq_left', exists_eq_left, and_true, true_and, true_or, or_true, and_self, reduceCtorEq, gAdd, gSubI, gMul, gDiv, gMod, gPow, gLt, gLe, gGt, gGe, gIx, gNeg, eqB_int, gEq_int, gNe_int, gEq_str, gNe_str, if_true, if_false, Bool.false_eq_true, Nat.reduceAdd, Nat.zero_add, Bool.not_true, Bool.not_false, atI_c0, atI_c1, atI_c2]
    unfold r_law_5
    simp only [mSeq, mSet, mSetN, mSetX, mExpr, mExprX, mRet, mRetN, mRetX, mIf, mNext, mPass, mBrk, mCnt, mFrz, mAsg, mAsgX, mPar, mParN, mBin, mUn, mArg, mC, mVar, mPeek, mCall, mCons, mNil, mTup, mLst, mBinT, mAsT, mNotT, mAndT, mOrT, mAndE, mOrE, mNotE, mIfE, mChain, mChainT, mSl, mO0, mO1, mIter, mRng1, mRng2, mZip, mEnum, mMut, mMutR, mSubSet, mShare, mMeth, mFor, mLc, mYes, slotV, frzS, tgN, tgT, tgNs, wipeE, retK, mAug, List.foldl_cons, List.foldl_nil, deref_int, deref_str, deref_bl, deref_non, deref_tup, deref_lst, deref_scr, deref_dic, deref_ty, isLst, cellP, List.getElem?_cons_zero, List.getElem?_cons_succ, List.getElem?_nil, List.set_cons_zero, List.set_cons_succ, List.map_cons, List.map_nil, List.length_cons, List.length_nil, List.cons_append, List.nil_append, Option.some.injEq, Slot.val.injEq, Slot.own.injEq, PV.int.injEq, PV.bl.injEq, PV.str.injEq, PV.ref.injEq, PV.lst.injEq, PV.tup.injEq, exists_eq_left', exists_eq_left, and_true, true_and, true_or, or_true, and_self, reduceCtorEq, gAdd, gSubI, gMul, gDiv, gMod, gPow, gLt, gLe, gGt, gGe, gIx, gNeg, eqB_int, gEq_int, gNe_int, gEq_str, gNe_str, if_true, if_false, Bool.false_eq_true, Nat.reduceAdd, Nat.zero_add, Bool.not_true, Bool.not_false, atI_c0, atI_c1, atI_c2, Int.reduceLT]
    refine ⟨by decide, ((i % 11 : Nat) : Int), by simp, by omega, by omega, fun j acc et1 => ∃ (n4 : Nat) (js : List Nat), et1 = pt n4 ∧ acc = js.map (fun n => .str (ltr n)) ∧ js.length = j ∧ j ≤ i % 11 ∧ n3 ≤ n4 + j, ⟨n3, [], rfl, rfl, rfl, by omega, by omega⟩, ?_⟩
    have hlenR2 : (rng 0 ((i % 11 : Nat) : Int).toNat).length = i % 11 := by rw [Int.toNat_natCast]; simp [rng]
    rintro j acc et1 ⟨n4, js, rfl, rfl, hjs, hj, hn4⟩
    refine ⟨rfl, fun q hq => ⟨_, rfl, ?_⟩, fun e => ?_⟩
    · simp only [mSeq, mSet, mSetN, mSetX, mExpr, mExprX, mRet, mRetN, mRetX, mIf, mNext, mPass, mBrk, mCnt, mFrz, mAsg, mAsgX, mPar, mParN, mBin, mUn, mArg, mC, mVar, mPeek, mCall, mCons, mNil, mTup, mLst, mBinT, mAsT, mNotT, mAndT, mOrT, mAndE, mOrE, mNotE, mIfE, mChain, mChainT, mSl, mO0, mO1, mIter, mRng1, mRng2, mZip, mEnum, mMut, mMutR, mSubSet, mShare, mMeth, mFor, mLc, mYes, slotV, frzS, tgN, tgT, tgNs, wipeE, retK, mAug, List.foldl_cons, List.foldl_nil, deref_int, deref_str, deref_bl, deref_non, deref_tup, deref_lst, deref_scr, deref_dic, deref_ty, isLst, cellP, List.getElem?_cons_zero, List.getElem?_cons_succ, List.getElem?_nil, List.set_cons_zero, List.set_cons_succ, List.map_cons, List.map_nil, List.length_cons, List.length_nil, List.cons_append, List.nil_append, Option.some.injEq, Slot.val.injEq, Slot.own.injEq, PV.int.injEq, PV.bl.injEq, PV.str.injEq, PV.ref.injEq, PV.lst.injEq, PV.tup.injEq, exists_eq_left', exists_eq_left, and_true, true_and, true_or, or_true, and_self, reduceCtorEq, gAdd, gSubI, gMul, gDiv, gMod, gPow, gLt, gLe, gGt, gGe, gIx, gNeg, eqB_int, gEq_int, gNe_int, gEq_str, gNe_str, if_true, if_false, Bool.false_eq_true, Nat.reduceAdd, Nat.zero_add, Bool.not_true, Bool.not_false, atI_c0, atI_c1, atI_c2]
      have hj' : js.length < i % 11 := by
        have := (List.getElem?_eq_some_iff.mp hq).1
        rw [hlenR2] at this; omega
      obtain ⟨n5, rfl⟩ : ∃ n5, n4 = n5 + 1 := ⟨n4 - 1, by omega⟩
      refine take_pt (n := n5) (by decide) (by decide) fun d d0 d1 => ?_
      obtain ⟨d, rfl⟩ : ∃ d' : Nat, d = (d' : Int) := ⟨d.toNat, by omega⟩
      have hx : gIx (.str letters) (.int (d : Int)) = some (.str (ltr d)) := by
        have l1 : letters.length ≤ sizeLine := by decide +kernel
        have e1 : atI letters.cps.toList (d : Int) = some (97 + d % 26) := by
          refine atI_nat ?_
          rw [letters_list, List.getElem?_map, List.getElem?_range (by omega)]
          simp [Nat.add_comm]; omega
        show (if letters.length ≤ sizeLine then (atI letters.cps.toList (d : Int)).map _ else none) = _
        rw [if_pos l1, e1]; rfl
      refine ⟨_, hx, ?_, n5, js ++ [d], rfl, by simp, by simp; omega, by omega, by omega⟩
      have : (1000 : Nat) ≤ sizeLine := by decide
      simp; omega
    · simp only [mSeq, mSet, mSetN, mSetX, mExpr, mExprX, mRet, mRetN, mRetX, mIf, mNext, mPass, mBrk, mCnt, mFrz, mAsg, mAsgX, mPar, mParN, mBin, mUn, mArg, mC, mVar, mPeek, mCall, mCons, mNil, mTup, mLst, mBinT, mAsT, mNotT, mAndT, mOrT, mAndE, mOrE, mNotE, mIfE, mChain, mChainT, mSl, mO0, mO1, mIter, mRng1, mRng2, mZip, mEnum, mMut, mMutR, mSubSet, mShare, mMeth, mFor, mLc, mYes, slotV, frzS, tgN, tgT, tgNs, wipeE, retK, mAug, List.foldl_cons, List.foldl_nil, deref_int, deref_str, deref_bl, deref_non, deref_tup, deref_lst, deref_scr, deref_dic, deref_ty, isLst, cellP, List.getElem?_cons_zero, List.getElem?_cons_succ, List.getElem?_nil, List.set_cons_zero, List.set_cons_succ, List.map_cons, List.map_nil, List.length_cons, List.length_nil, List.cons_append, List.nil_append, Option.some.injEq, Slot.val.injEq, Slot.own.injEq, PV.int.injEq, PV.bl.injEq, PV.str.injEq, PV.ref.injEq, PV.lst.injEq, PV.tup.injEq, exists_eq_left', exists_eq_left, and_true, true_and, true_or, or_true, and_self, reduceCtorEq, gAdd, gSubI, gMul, gDiv, gMod, gPow, gLt, gLe, gGt, gGe, gIx, gNeg, eqB_int, gEq_int, gNe_int, gEq_str, gNe_str, if_true, if_false, Bool.false_eq_true, Nat.reduceAdd, Nat.zero_add, Bool.not_true, Bool.not_false, atI_c0, atI_c1, atI_c2]
      have hje : js.length = i % 11 := by rw [hlenR2] at e; omega
      refine ⟨_, join_ltrs (by omega), ?_⟩
      have hwd := ltrs_word js
      have hsz := ltrs_size js
      generalize ltrs js = x at hwd hsz
      unfold r_law_6
      simp only [mSeq, mSet, mSetN, mSetX, mExpr, mExprX, mRet, mRetN, mRetX, mIf, mNext, mPass, mBrk, mCnt, mFrz, mAsg, mAsgX, mPar, mParN, mBin, mUn, mArg, mC, mVar, mPeek, mCall, mCons, mNil, mTup, mLst, mBinT, mAsT, mNotT, mAndT, mOrT, mAndE, mOrE, mNotE, mIfE, mChain, mChainT, mSl, mO0, mO1, mIter, mRng1, mRng2, mZip, mEnum, mMut, mMutR, mSubSet, mShare, mMeth, mFor, mLc, mYes, slotV, frzS, tgN, tgT, tgNs, wipeE, retK, mAug, List.foldl_cons, List.foldl_nil, deref_int, deref_str, deref_bl, deref_non, deref_tup, deref_lst, deref_scr, deref_dic, deref_ty, isLst, cellP, List.getElem?_cons_zero, List.getElem?_cons_succ, List.getElem?_nil, List.set_cons_zero, List.set_cons_succ, List.map_cons, List.map_nil, List.length_cons, List.length_nil, List.cons_append, List.nil_append, Option.some.injEq, Slot.val.injEq, Slot.own.injEq, PV.int.injEq, PV.bl.injEq, PV.str.injEq, PV.ref.injEq, PV.lst.injEq, PV.tup.injEq, exists_eq_left', exists_eq_left, and_true, true_and, true_or, or_true, and_self, reduceCtorEq, gAdd, gSubI, gMul, gDiv, gMod, gPow, gLt, gLe, gGt, gGe, gIx, gNeg, eqB_int, gEq_int, gNe_int, gEq_str, gNe_str, if_true, if_false, Bool.false_eq_true, Nat.reduceAdd, Nat.zero_add, Bool.not_true, Bool.not_false, atI_c0, atI_c1, atI_c2]
      obtain ⟨n5, rfl⟩ : ∃ n5, n4 = n5 + 1 := ⟨n4 - 1, by omega⟩
      refine take_pt (n := n5) (by decide) (by decide) fun d d0 d1 => ?_
      simp only [mSeq, mSet, mSetN, mSetX, mExpr, mExprX, mRet, mRetN, mRetX, mIf, mNext, mPass, mBrk, mCnt, mFrz, mAsg, mAsgX, mPar, mParN, mBin, mUn, mArg, mC, mVar, mPeek, mCall, mCons, mNil, mTup, mLst, mBinT, mAsT, mNotT, mAndT, mOrT, mAndE, mOrE, mNotE, mIfE, mChain, mChainT, mSl, mO0, mO1, mIter, mRng1, mRng2, mZip, mEnum, mMut, mMutR, mSubSet, mShare, mMeth, mFor, mLc, mYes, slotV, frzS, tgN, tgT, tgNs, wipeE, retK, mAug, List.foldl_cons, List.foldl_nil, deref_int, deref_str, deref_bl, deref_non, deref_tup, deref_lst, deref_scr, deref_dic, deref_ty, isLst, cellP, List.getElem?_cons_zero, List.getElem?_cons_succ, List.getElem?_nil, List.set_cons_zero, List.set_cons_succ, List.map_cons, List.map_nil, List.length_cons, List.length_nil, List.cons_append, List.nil_append, Option.some.injEq, Slot.val.injEq, Slot.own.injEq, PV.int.injEq, PV.bl.injEq, PV.str.injEq, PV.ref.injEq, PV.lst.injEq, PV.tup.injEq, exists_eq_left', exists_eq_left, and_true, true_and, true_or, or_true, and_self, reduceCtorEq, gAdd, gSubI, gMul, gDiv, gMod, gPow, gLt, gLe, gGt, gGe, gIx, gNeg, eqB_int, gEq_int, gNe_int, gEq_str, gNe_str, if_true, if_false, Bool.false_eq_true, Nat.reduceAdd, Nat.zero_add, Bool.not_true, Bool.not_false, atI_c0, atI_c1, atI_c2]
      have s1000 : (1000 : Nat) ≤ sizeLine := by decide
      have hl1 : gLen [.str x] = some (.int x.cps.size) := by show (if x.length ≤ sizeLine then some (PV.int x.length) else none) = _; rw [if_pos (show x.length ≤ sizeLine from show x.cps.size ≤ sizeLine by omega)]; rfl
      have fx : fitP (.str x) = true := by simp only [fitP, decide_eq_true_eq]; omega
      generalize hv : d - 3 = v
      -- what the code says, and what is so
      have w1 : sumIn 5 (.str x) = isWord x := rfl
      have v1 : sumIn 5 (.int v) = (decide (0 ≤ v) && decide (v ≤ 9)) := by
        show ((decide (0 ≤ v) && decide (v ≤ 9)) || false) = _
        rw [Bool.or_false]
      have b1 : sumIn 5 (.tup [.str "both", .tup [.str "waits", .str x], .int v]) = (isWord x && (decide (0 ≤ v) && decide (v ≤ 9))) := by
        show (sumIn 4 (.tup [.str "waits", .str x]) && ((decide (0 ≤ v) && decide (v ≤ 9)) || false)) = _
        rw [Bool.or_false]
        rfl
      unfold r_law_7
      simp only [mSeq, mSet, mSetN, mSetX, mExpr, mExprX, mRet, mRetN, mRetX, mIf, mNext, mPass, mBrk, mCnt, mFrz, mAsg, mAsgX, mPar, mParN, mBin, mUn, mArg, mC, mVar, mPeek, mCall, mCons, mNil, mTup, mLst, mBinT, mAsT, mNotT, mAndT, mOrT, mAndE, mOrE, mNotE, mIfE, mChain, mChainT, mSl, mO0, mO1, mIter, mRng1, mRng2, mZip, mEnum, mMut, mMutR, mSubSet, mShare, mMeth, mFor, mLc, mYes, slotV, frzS, tgN, tgT, tgNs, wipeE, retK, mAug, List.foldl_cons, List.foldl_nil, deref_int, deref_str, deref_bl, deref_non, deref_tup, deref_lst, deref_scr, deref_dic, deref_ty, isLst, cellP, List.getElem?_cons_zero, List.getElem?_cons_succ, List.getElem?_nil, List.set_cons_zero, List.set_cons_succ, List.map_cons, List.map_nil, List.length_cons, List.length_nil, List.cons_append, List.nil_append, Option.some.injEq, Slot.val.injEq, Slot.own.injEq, PV.int.injEq, PV.bl.injEq, PV.str.injEq, PV.ref.injEq, PV.lst.injEq, PV.tup.injEq, exists_eq_left', exists_eq_left, and_true, true_and, true_or, or_true, and_self, reduceCtorEq, gAdd, gSubI, gMul, gDiv, gMod, gPow, gLt, gLe, gGt, gGe, gIx, gNeg, eqB_int, gEq_int, gNe_int, gEq_str, gNe_str, if_true, if_false, Bool.false_eq_true, Nat.reduceAdd, Nat.zero_add, Bool.not_true, Bool.not_false, atI_c0, atI_c1, atI_c2]
      refine ⟨_, rfl, by simp only [fits]; exact fx, ?_⟩
      simp only [mSeq, mSet, mSetN, mSetX, mExpr, mExprX, mRet, mRetN, mRetX, mIf, mNext, mPass, mBrk, mCnt, mFrz, mAsg, mAsgX, mPar, mParN, mBin, mUn, mArg, mC, mVar, mPeek, mCall, mCons, mNil, mTup, mLst, mBinT, mAsT, mNotT, mAndT, mOrT, mAndE, mOrE, mNotE, mIfE, mChain, mChainT, mSl, mO0, mO1, mIter, mRng1, mRng2, mZip, mEnum, mMut, mMutR, mSubSet, mShare, mMeth, mFor, mLc, mYes, slotV, frzS, tgN, tgT, tgNs, wipeE, retK, mAug, List.foldl_cons, List.foldl_nil, deref_int, deref_str, deref_bl, deref_non, deref_tup, deref_lst, deref_scr, deref_dic, deref_ty, isLst, cellP, List.getElem?_cons_zero, List.getElem?_cons_succ, List.getElem?_nil, List.set_cons_zero, List.set_cons_succ, List.map_cons, List.map_nil, List.length_cons, List.length_nil, List.cons_append, List.nil_append, Option.some.injEq, Slot.val.injEq, Slot.own.injEq, PV.int.injEq, PV.bl.injEq, PV.str.injEq, PV.ref.injEq, PV.lst.injEq, PV.tup.injEq, exists_eq_left', exists_eq_left, and_true, true_and, true_or, or_true, and_self, reduceCtorEq, gAdd, gSubI, gMul, gDiv, gMod, gPow, gLt, gLe, gGt, gGe, gIx, gNeg, eqB_int, gEq_int, gNe_int, gEq_str, gNe_str, if_true, if_false, Bool.false_eq_true, Nat.reduceAdd, Nat.zero_add, Bool.not_true, Bool.not_false, atI_c0, atI_c1, atI_c2, hl1, w1]
      refine truth_chain (by rw [hwd, hsz, Bool.eq_iff_iff]; simp; omega) ?_
      simp only [mSeq, mSet, mSetN, mSetX, mExpr, mExprX, mRet, mRetN, mRetX, mIf, mNext, mPass, mBrk, mCnt, mFrz, mAsg, mAsgX, mPar, mParN, mBin, mUn, mArg, mC, mVar, mPeek, mCall, mCons, mNil, mTup, mLst, mBinT, mAsT, mNotT, mAndT, mOrT, mAndE, mOrE, mNotE, mIfE, mChain, mChainT, mSl, mO0, mO1, mIter, mRng1, mRng2, mZip, mEnum, mMut, mMutR, mSubSet, mShare, mMeth, mFor, mLc, mYes, slotV, frzS, tgN, tgT, tgNs, wipeE, retK, mAug, List.foldl_cons, List.foldl_nil, deref_int, deref_str, deref_bl, deref_non, deref_tup, deref_lst, deref_scr, deref_dic, deref_ty, isLst, cellP, List.getElem?_cons_zero, List.getElem?_cons_succ, List.getElem?_nil, List.set_cons_zero, List.set_cons_succ, List.map_cons, List.map_nil, List.length_cons, List.length_nil, List.cons_append, List.nil_append, Option.some.injEq, Slot.val.injEq, Slot.own.injEq, PV.int.injEq, PV.bl.injEq, PV.str.injEq, PV.ref.injEq, PV.lst.injEq, PV.tup.injEq, exists_eq_left', exists_eq_left, and_true, true_and, true_or, or_true, and_self, reduceCtorEq, gAdd, gSubI, gMul, gDiv, gMod, gPow, gLt, gLe, gGt, gGe, gIx, gNeg, eqB_int, gEq_int, gNe_int, gEq_str, gNe_str, if_true, if_false, Bool.false_eq_true, Nat.reduceAdd, Nat.zero_add, Bool.not_true, Bool.not_false, atI_c0, atI_c1, atI_c2]
      refine ⟨_, rfl, rfl, ?_⟩
      simp only [mSeq, mSet, mSetN, mSetX, mExpr, mExprX, mRet, mRetN, mRetX, mIf, mNext, mPass, mBrk, mCnt, mFrz, mAsg, mAsgX, mPar, mParN, mBin, mUn, mArg, mC, mVar, mPeek, mCall, mCons, mNil, mTup, mLst, mBinT, mAsT, mNotT, mAndT, mOrT, mAndE, mOrE, mNotE, mIfE, mChain, mChainT, mSl, mO0, mO1, mIter, mRng1, mRng2, mZip, mEnum, mMut, mMutR, mSubSet, mShare, mMeth, mFor, mLc, mYes, slotV, frzS, tgN, tgT, tgNs, wipeE, retK, mAug, List.foldl_cons, List.foldl_nil, deref_int, deref_str, deref_bl, deref_non, deref_tup, deref_lst, deref_scr, deref_dic, deref_ty, isLst, cellP, List.getElem?_cons_zero, List.getElem?_cons_succ, List.getElem?_nil, List.set_cons_zero, List.set_cons_succ, List.map_cons, List.map_nil, List.length_cons, List.length_nil, List.cons_append, List.nil_append, Option.some.injEq, Slot.val.injEq, Slot.own.injEq, PV.int.injEq, PV.bl.injEq, PV.str.injEq, PV.ref.injEq, PV.lst.injEq, PV.tup.injEq, exists_eq_left', exists_eq_left, and_true, true_and, true_or, or_true, and_self, reduceCtorEq, gAdd, gSubI, gMul, gDiv, gMod, gPow, gLt, gLe, gGt, gGe, gIx, gNeg, eqB_int, gEq_int, gNe_int, gEq_str, gNe_str, if_true, if_false, Bool.false_eq_true, Nat.reduceAdd, Nat.zero_add, Bool.not_true, Bool.not_false, atI_c0, atI_c1, atI_c2, v1]
      refine truth_chain (by rw [Bool.eq_iff_iff]; simp; omega) ?_
      simp only [mSeq, mSet, mSetN, mSetX, mExpr, mExprX, mRet, mRetN, mRetX, mIf, mNext, mPass, mBrk, mCnt, mFrz, mAsg, mAsgX, mPar, mParN, mBin, mUn, mArg, mC, mVar, mPeek, mCall, mCons, mNil, mTup, mLst, mBinT, mAsT, mNotT, mAndT, mOrT, mAndE, mOrE, mNotE, mIfE, mChain, mChainT, mSl, mO0, mO1, mIter, mRng1, mRng2, mZip, mEnum, mMut, mMutR, mSubSet, mShare, mMeth, mFor, mLc, mYes, slotV, frzS, tgN, tgT, tgNs, wipeE, retK, mAug, List.foldl_cons, List.foldl_nil, deref_int, deref_str, deref_bl, deref_non, deref_tup, deref_lst, deref_scr, deref_dic, deref_ty, isLst, cellP, List.getElem?_cons_zero, List.getElem?_cons_succ, List.getElem?_nil, List.set_cons_zero, List.set_cons_succ, List.map_cons, List.map_nil, List.length_cons, List.length_nil, List.cons_append, List.nil_append, Option.some.injEq, Slot.val.injEq, Slot.own.injEq, PV.int.injEq, PV.bl.injEq, PV.str.injEq, PV.ref.injEq, PV.lst.injEq, PV.tup.injEq, exists_eq_left', exists_eq_left, and_true, true_and, true_or, or_true, and_self, reduceCtorEq, gAdd, gSubI, gMul, gDiv, gMod, gPow, gLt, gLe, gGt, gGe, gIx, gNeg, eqB_int, gEq_int, gNe_int, gEq_str, gNe_str, if_true, if_false, Bool.false_eq_true, Nat.reduceAdd, Nat.zero_add, Bool.not_true, Bool.not_false, atI_c0, atI_c1, atI_c2]
      unfold r_law_9
      simp only [mSeq, mSet, mSetN, mSetX, mExpr, mExprX, mRet, mRetN, mRetX, mIf, mNext, mPass, mBrk, mCnt, mFrz, mAsg, mAsgX, mPar, mParN, mBin, mUn, mArg, mC, mVar, mPeek, mCall, mCons, mNil, mTup, mLst, mBinT, mAsT, mNotT, mAndT, mOrT, mAndE, mOrE, mNotE, mIfE, mChain, mChainT, mSl, mO0, mO1, mIter, mRng1, mRng2, mZip, mEnum, mMut, mMutR, mSubSet, mShare, mMeth, mFor, mLc, mYes, slotV, frzS, tgN, tgT, tgNs, wipeE, retK, mAug, List.foldl_cons, List.foldl_nil, deref_int, deref_str, deref_bl, deref_non, deref_tup, deref_lst, deref_scr, deref_dic, deref_ty, isLst, cellP, List.getElem?_cons_zero, List.getElem?_cons_succ, List.getElem?_nil, List.set_cons_zero, List.set_cons_succ, List.map_cons, List.map_nil, List.length_cons, List.length_nil, List.cons_append, List.nil_append, Option.some.injEq, Slot.val.injEq, Slot.own.injEq, PV.int.injEq, PV.bl.injEq, PV.str.injEq, PV.ref.injEq, PV.lst.injEq, PV.tup.injEq, exists_eq_left', exists_eq_left, and_true, true_and, true_or, or_true, and_self, reduceCtorEq, gAdd, gSubI, gMul, gDiv, gMod, gPow, gLt, gLe, gGt, gGe, gIx, gNeg, eqB_int, gEq_int, gNe_int, gEq_str, gNe_str, if_true, if_false, Bool.false_eq_true, Nat.reduceAdd, Nat.zero_add, Bool.not_true, Bool.not_false, atI_c0, atI_c1, atI_c2, hl1]
      refine ⟨by decide, by decide, _, rfl, ?_, ?_⟩
      · have f3 : fits 3 (.str x) = true := fx
        have f4 : (decide ((2 : Nat) ≤ sizeLine) && [PV.str "waits", PV.str x].all fun y => fits 3 y) = true := by
          simp [f3]; exact ⟨by decide, rfl⟩
        show (decide ((3 : Nat) ≤ sizeLine) && [PV.str "both", PV.tup [PV.str "waits", PV.str x], PV.int v].all fun y => fits 4 y) = true
        have f5 : fits 4 (PV.tup [PV.str "waits", PV.str x]) = true := f4
        simp [f5]; exact ⟨by decide, rfl, rfl⟩
      rw [b1]
      refine truth_chain2 (by rw [hwd, hsz, Bool.eq_iff_iff]; simp; omega) ?_
      simp only [mSeq, mSet, mSetN, mSetX, mExpr, mExprX, mRet, mRetN, mRetX, mIf, mNext, mPass, mBrk, mCnt, mFrz, mAsg, mAsgX, mPar, mParN, mBin, mUn, mArg, mC, mVar, mPeek, mCall, mCons, mNil, mTup, mLst, mBinT, mAsT, mNotT, mAndT, mOrT, mAndE, mOrE, mNotE, mIfE, mChain, mChainT, mSl, mO0, mO1, mIter, mRng1, mRng2, mZip, mEnum, mMut, mMutR, mSubSet, mShare, mMeth, mFor, mLc, mYes, slotV, frzS, tgN, tgT, tgNs, wipeE, retK, mAug, List.foldl_cons, List.foldl_nil, deref_int, deref_str, deref_bl, deref_non, deref_tup, deref_lst, deref_scr, deref_dic, deref_ty, isLst, cellP, List.getElem?_cons_zero, List.getElem?_cons_succ, List.getElem?_nil, List.set_cons_zero, List.set_cons_succ, List.map_cons, List.map_nil, List.length_cons, List.length_nil, List.cons_append, List.nil_append, Option.some.injEq, Slot.val.injEq, Slot.own.injEq, PV.int.injEq, PV.bl.injEq, PV.str.injEq, PV.ref.injEq, PV.lst.injEq, PV.tup.injEq, exists_eq_left', exists_eq_left, and_true, true_and, true_or, or_true, and_self, reduceCtorEq, gAdd, gSubI, gMul, gDiv, gMod, gPow, gLt, gLe, gGt, gGe, gIx, gNeg, eqB_int, gEq_int, gNe_int, gEq_str, gNe_str, if_true, if_false, Bool.false_eq_true, Nat.reduceAdd, Nat.zero_add, Bool.not_true, Bool.not_false, atI_c0, atI_c1, atI_c2]
      exact ⟨n5, _, _, _, _, _, rfl, rfl, by omega⟩
  · unfold r_law_11
    simp only [mSeq, mSet, mSetN, mSetX, mExpr, mExprX, mRet, mRetN, mRetX, mIf, mNext, mPass, mBrk, mCnt, mFrz, mAsg, mAsgX, mPar, mParN, mBin, mUn, mArg, mC, mVar, mPeek, mCall, mCons, mNil, mTup, mLst, mBinT, mAsT, mNotT, mAndT, mOrT, mAndE, mOrE, mNotE, mIfE, mChain, mChainT, mSl, mO0, mO1, mIter, mRng1, mRng2, mZip, mEnum, mMut, mMutR, mSubSet, mShare, mMeth, mFor, mLc, mYes, slotV, frzS, tgN, tgT, tgNs, wipeE, retK, mAug, List.foldl_cons, List.foldl_nil, deref_int, deref_str, deref_bl, deref_non, deref_tup, deref_lst, deref_scr, deref_dic, deref_ty, isLst, cellP, List.getElem?_cons_zero, List.getElem?_cons_succ, List.getElem?_nil, List.set_cons_zero, List.set_cons_succ, List.map_cons, List.map_nil, List.length_cons, List.length_nil, List.cons_append, List.nil_append, Option.some.injEq, Slot.val.injEq, Slot.own.injEq, PV.int.injEq, PV.bl.injEq, PV.str.injEq, PV.ref.injEq, PV.lst.injEq, PV.tup.injEq, exists_eq_left', exists_eq_left, and_true, true_and, true_or, or_true, and_self, reduceCtorEq, gAdd, gSubI, gMul, gDiv, gMod, gPow, gLt, gLe, gGt, gGe, gIx, gNeg, eqB_int, gEq_int, gNe_int, gEq_str, gNe_str, if_true, if_false, Bool.false_eq_true, Nat.reduceAdd, Nat.zero_add, Bool.not_true, Bool.not_false, atI_c0, atI_c1, atI_c2]
    exact hR _
end Sq

/-! helpers of more than one law: dicts by words, sums' words -/
namespace Sx
open PySem L2 Mw Lw Vl Wb
theorem ev_bd {th wa : Str → Int} (ht : ∀ x, 0 ≤ th x ∧ th x ≤ 9) {ws bs : List Str} : ∀ s : Sm, s.ok ws bs → 0 ≤ ev th wa s ∧ ev th wa s ≤ 9
  | .val n, h => by have h9 : n ≤ 9 := h; simp only [ev]; omega
  | .wrd x, _ => ht x
  | .wts x, _ => by simp only [ev]; split <;> omega
  | .not a, _ => by simp only [ev]; split <;> omega
  | .two t a b, h => by
    have h1 := ev_bd (wa := wa) ht a h.1
    have h2 := ev_bd (wa := wa) ht b h.2
    cases t <;> simp only [ev, comb] <;> split <;> omega
def entD (ws : List Str) (f : Str → Int) : List (Key × PV) := ws.map fun x => (.inr x, .int (f x))
def prsD (ws : List Str) (f : Str → Int) : List PV := ws.map fun x => .tup [.str x, .int (f x)]
theorem pairs_prs (ws : List Str) (f : Str → Int) : pairsP (prsD ws f) = some (entD ws f) := by
  induction ws with
  | nil => rfl
  | cons x ws ih =>
    show pairsP (.tup [.str x, .int (f x)] :: prsD ws f) = _
    unfold pairsP
    simp only [keyP, Option.bind_some, ih, Option.map_some]
    rfl
theorem put_new {ks : List (Key × PV)} {k : Key} {p : PV} (h : ∀ kv ∈ ks, kv.1 ≠ k) : putP ks k p = ks ++ [(k, p)] := by
  unfold putP
  have : (ks.any fun kv => decide (kv.1 = k)) = false := by
    rw [List.any_eq_false]
    intro kv hkv; simpa using h kv hkv
  rw [this]; rfl
theorem merge_new : ∀ (more ks : List (Key × PV)), ((ks ++ more).map (·.1)).Nodup → mergeP ks more = ks ++ more
  | [], ks, _ => by simp [mergeP]
  | (k, p) :: r, ks, h => by
    have hk : ∀ kv ∈ ks, kv.1 ≠ k := by
      intro kv hkv e
      rw [List.map_append, List.nodup_append] at h
      exact h.2.2 kv.1 (List.mem_map_of_mem hkv) k (by simp) e
    show mergeP (putP ks k p) r = _
    rw [put_new hk, merge_new r (ks ++ [(k, p)]) (by simpa using h)]
    simp
theorem ent_keys {ws : List Str} {f : Str → Int} (h : ws.Nodup) : ((entD ws f).map (·.1)).Nodup := by
  unfold entD
  rw [List.map_map]
  exact nodup_map_on h fun x _ y _ e => by simpa using e
theorem merge_ent {ws : List Str} {f : Str → Int} (h : ws.Nodup) : mergeP [] (entD ws f) = entD ws f := by
  rw [merge_new _ _ (by simpa using ent_keys h)]; rfl
theorem val_ent {f : Str → Int} : ∀ {ws : List Str} {x : Str}, x ∈ ws → valP (entD ws f) (.inr x) = some (.int (f x))
  | y :: ws, x, h => by
    unfold entD valP
    rw [List.map_cons, List.find?_cons]
    by_cases e : y = x
    · subst e; simp
    · have : decide ((Sum.inr y : Key) = Sum.inr x) = false := by simpa using e
      simp only [this]
      rcases List.mem_cons.mp h with h | h
      · exact absurd h.symm e
      · exact val_ent (f := f) h
theorem prs_upd {ws : List Str} {x : Str} {f : Str → Int} {v : Int} (h : x ∉ ws) : prsD ws (fun y => if y = x then v else f y) = prsD ws f := by
  unfold prsD
  refine List.map_congr_left fun y hy => ?_
  have : y ≠ x := fun e => h (e ▸ hy)
  simp [this]
theorem take_nodup {ws : List Str} (h : ws.Nodup) {i : Nat} {x : Str} (hx : ws[i]? = some x) : x ∉ ws.take i := fun hm => by
  obtain ⟨j, hj, e⟩ := List.mem_iff_getElem.mp hm
  rw [List.length_take] at hj
  rw [List.getElem_take] at e
  have hi := (List.getElem?_eq_some_iff.mp hx)
  obtain ⟨hi1, hi2⟩ := hi
  have := (List.getElem_inj h).mp (e.trans hi2.symm)
  omega
theorem prs_snoc {ws : List Str} (h : ws.Nodup) {i : Nat} {x : Str} (hx : ws[i]? = some x) {f : Str → Int} {v : Int} : prsD (ws.take (i + 1)) (fun y => if y = x then v else f y) = prsD (ws.take i) f ++ [.tup [.str x, .int v]] := by
  rw [List.take_succ, hx]
  show prsD (ws.take i ++ [x]) _ = _
  unfold prsD
  rw [List.map_append]
  have := prs_upd (v := v) (f := f) (take_nodup h hx)
  unfold prsD at this
  rw [this]
  simp
theorem eqX_ent {ws : List Str} (f : Str → Int) : eqX 60 (.dic (entD ws f)) (.dic (entD ws f)) = some true := by
  show (flatX (.dic (entD ws f)) (.dic (entD ws f))).orElse _ = _
  show (none : Option Bool).orElse (fun _ => eqXS (eqX 59) (.dic (entD ws f)) (.dic (entD ws f))) = _
  show eqXS (eqX 59) (.dic (entD ws f)) (.dic (entD ws f)) = _
  unfold eqXS
  refine if_pos ⟨rfl, ?_⟩
  rw [List.all_eq_true]
  intro kv hkv
  obtain ⟨x, hx, rfl⟩ := List.mem_map.mp (show kv ∈ ws.map (fun x => ((Sum.inr x : Key), PV.int (f x))) from hkv)
  simp only [val_ent hx]
  have : eqX 59 (.int (f x)) (.int (f x)) = some true := by
    show (flatX (.int (f x)) (.int (f x))).orElse _ = _
    show (some (f x == f x)).orElse _ = _
    simp
  rw [this]; rfl
theorem gEqX_ents {ws : List Str} (f g : Str → Int) : gEqX (.tup [.dic (entD ws f), .dic (entD ws g)]) (.tup [.dic (entD ws f), .dic (entD ws g)]) = some (.bl true) := by
  have h : eqXS (eqX 60) (.tup [.dic (entD ws f), .dic (entD ws g)]) (.tup [.dic (entD ws f), .dic (entD ws g)]) = some true := by
    show (allB [eqX 60 (.dic (entD ws f)) (.dic (entD ws f)), eqX 60 (.dic (entD ws g)) (.dic (entD ws g))]).map _ = _
    rw [eqX_ent, eqX_ent]; rfl
  unfold gEqX
  rw [h]
theorem gEqX_int (i j : Int) : gEqX (.int i) (.int j) = some (.bl (decide (i = j))) := rfl
theorem inD_ok {ws : List Str} {th wa : Str → Int} : ∀ s : Sm, s.ok ws ws → inD (entD ws th) (entD ws wa) th wa s
  | .val _, _ => trivial
  | .wrd x, h => val_ent h
  | .wts x, h => val_ent h
  | .not a, h => inD_ok a h
  | .two _ a b, h => ⟨inD_ok a h.1, inD_ok b h.2⟩
theorem cut_map {α β : Type} (f : α → β) (xs : List α) (lo hi : Option Int) : cutP (xs.map f) lo hi = (cutP xs lo hi).map f := by
  unfold cutP
  rw [List.length_map, List.map_take, List.map_drop]
theorem cut_mem {α : Type} {xs : List α} {lo hi : Option Int} {x : α} (h : x ∈ cutP xs lo hi) : x ∈ xs := by
  unfold cutP at h
  exact List.mem_of_mem_drop (List.mem_of_mem_take h)
theorem cut_len {α : Type} (xs : List α) (lo hi : Option Int) : (cutP xs lo hi).length ≤ xs.length := by
  unfold cutP
  rw [List.length_take, List.length_drop]; omega
theorem ok_sub {ws bs cs' : List Str} (h1 : ∀ x ∈ ws, x ∈ cs') (h2 : ∀ x ∈ bs, x ∈ cs') : ∀ s : Sm, s.ok ws bs → s.ok cs' cs'
  | .val _, h => h
  | .wrd x, h => h1 x h
  | .wts x, h => h2 x h
  | .not a, h => ok_sub h1 h2 a h
  | .two _ a b, h => ⟨ok_sub h1 h2 a h.1, ok_sub h1 h2 b h.2⟩
theorem cs_mono' {a b : Nat} (h : a ≤ b) : cs a ≤ cs b := by
  induction h with
  | refl => exact Nat.le_refl _
  | step _ ih => simp only [cs]; omega
def okW : Sm → Prop
  | .val _ => True
  | .wrd x => isWord x = true
  | .wts x => isWord x = true
  | .not a => okW a
  | .two _ a b => okW a ∧ okW b
theorem okW_of {ws bs : List Str} (hw : ∀ x ∈ ws, isWord x = true) (hb : ∀ x ∈ bs, isWord x = true) : ∀ s : Sm, s.ok ws bs → okW s
  | .val _, _ => trivial
  | .wrd x, h => hw x h
  | .wts x, h => hb x h
  | .not a, h => okW_of hw hb a h
  | .two _ a b, h => ⟨okW_of hw hb a h.1, okW_of hw hb b h.2⟩
theorem parts_okW {s a : Sm} (h : a ∈ partsL s) (ho : okW s) : okW a := by
  cases s <;> simp [partsL] at h
  · subst h; exact ho
  · rcases h with rfl | rfl
    · exact ho.1
    · exact ho.2
theorem dok_sm : ∀ s : Sm, okW s → dok s.pv = true ∧ dpt s.pv ≤ s.dep
  | .val n, _ => ⟨rfl, Nat.zero_le _⟩
  | .wrd x, h => ⟨isWord_strOk h, Nat.zero_le _⟩
  | .wts x, h => ⟨by simp [Sm.pv, dok, doks, isWord_strOk h]; decide +kernel, by simp [Sm.pv, dpt, dpts, Sm.dep]⟩
  | .not a, h => by
    obtain ⟨h1, h2⟩ := dok_sm a h
    refine ⟨by simp [Sm.pv, dok, doks, h1]; decide +kernel, ?_⟩
    simp only [Sm.pv, dpt, dpts, Sm.dep]; omega
  | .two t a b, h => by
    obtain ⟨h1, h2⟩ := dok_sm a h.1
    obtain ⟨h3, h4⟩ := dok_sm b h.2
    refine ⟨by simp [Sm.pv, dok, doks, h1, h3]; cases t <;> decide +kernel, ?_⟩
    simp only [Sm.pv, dpt, dpts, Sm.dep]; omega
theorem doks_sms : ∀ l : List Sm, (∀ s ∈ l, okW s) → (∀ s ∈ l, s.dep ≤ 5) → doks (l.map Sm.pv) = true ∧ dpts (l.map Sm.pv) ≤ 5
  | [], _, _ => ⟨rfl, Nat.zero_le _⟩
  | s :: l, h, h5 => by
    obtain ⟨h1, h2⟩ := dok_sm s (h s (by simp))
    obtain ⟨h3, h4⟩ := doks_sms l (fun x hx => h x (by simp [hx])) fun x hx => h5 x (by simp [hx])
    have := h5 s (by simp)
    refine ⟨by simp [doks, h1, h3], ?_⟩
    simp only [List.map_cons, dpts]; omega
theorem perm_add (ws r x : List Str) : ((ws ++ x) ++ r).Perm (ws ++ (r ++ x)) := by rw [List.append_assoc]; exact (List.perm_append_comm).append_left ws
theorem set_eq {l l' : List Str} (m : ∀ k, k ∈ l ↔ k ∈ l') : setS l = setS l' :=
  pw_uniq (srt_pw _) (srt_pw _) ((srt_perm _).trans (((List.perm_ext_iff_of_nodup (once_nodup l) (once_nodup l')).mpr fun k => ((once_mem l k).trans (m k)).trans (once_mem l' k).symm).trans (srt_perm _).symm))
theorem set_mem (l : List Str) (k : Str) : k ∈ setS l ↔ k ∈ l := ((srt_perm _).mem_iff).trans (once_mem l k)
theorem set_len (l : List Str) : (setS l).length ≤ l.length := by
  unfold setS
  rw [(srt_perm _).length_eq]
  induction l with
  | nil => exact Nat.le_refl _
  | cons x r ih =>
    unfold onceS
    split
    · rw [List.length_cons]; omega
    · rw [List.length_cons, List.length_cons]; omega
theorem last_at (f : List Str) (l : Str) : atI ((f ++ [l]).map PV.str) (-1) = some (.str l) := by
  unfold atI ixN
  simp
  rw [if_pos (by omega)]
  have : (-1 + ((f.length : Int) + 1)).toNat = (f.map PV.str).length := by rw [List.length_map]; omega
  simp only [Option.bind_some, this]
  rw [List.getElem?_append_right (Nat.le_refl _)]
  simp
theorem peqs_self : ∀ l : List Str, peqs (l.map .str) (l.map .str) = true
  | [] => by simp [peqs]
  | x :: l => by simp [peqs, peq, peqs_self l]
theorem gNe_self {l : List Str} (h : ∀ x ∈ l, isWord x = true) : gNe (.tup (l.map .str)) (.tup (l.map .str)) = some (.bl false) := by
  obtain ⟨d1, d2⟩ := doks_words h
  have hd : dok (.tup (l.map .str)) = true := by simpa [dok] using d1
  have hp : dpt (.tup (l.map .str)) ≤ 64 := by simp [dpt, d2]
  unfold gNe
  rw [eqB_peq hd hd hp hp]
  simp [peq, peqs_self]
theorem gEq_self {l : List Str} (h : ∀ x ∈ l, isWord x = true) : gEq (.tup (l.map .str)) (.tup (l.map .str)) = some (.bl true) := by
  obtain ⟨d1, d2⟩ := doks_words h
  have hd : dok (.tup (l.map .str)) = true := by simpa [dok] using d1
  have hp : dpt (.tup (l.map .str)) ≤ 64 := by simp [dpt, d2]
  unfold gEq
  rw [eqB_peq hd hd hp hp]
  simp [peq, peqs_self]
theorem okW_words : ∀ s : Sm, okW s → (∀ x ∈ wordsL s, isWord x = true) ∧ ∀ x ∈ bellsL s, isWord x = true
  | .val _, _ => by simp [wordsL, bellsL]
  | .wrd x, h => ⟨fun y hy => by rw [List.mem_singleton.mp hy]; exact h, by simp [bellsL]⟩
  | .wts x, h => ⟨by simp [wordsL], fun y hy => by rw [List.mem_singleton.mp hy]; exact h⟩
  | .not a, h => okW_words a h
  | .two _ a b, h => by
    obtain ⟨h1, h2⟩ := okW_words a h.1
    obtain ⟨h3, h4⟩ := okW_words b h.2
    constructor
    · intro x hx
      rcases List.mem_append.mp hx with hx | hx
      · exact h1 x hx
      · exact h3 x hx
    · intro x hx
      rcases List.mem_append.mp hx with hx | hx
      · exact h2 x hx
      · exact h4 x hx
end Sx

namespace Q6
open PySem L2 Mw Lw Sx
def r__law_put_in_0 : SM := (mRet (mVar 2))
def r__law_put_in_2 : SM := (mRet (mVar 0))
def r__law_put_in_3 (S__law_put_in : FSpec) : SM := (mRet (mBin gAdd (mSl gSlA (mPeek 0) mO0 (mO1 (mC (.int 1)))) (mArg gTuple (mCons (mLc (mIter (mSl gSlA (mPeek 0) (mO1 (mC (.int 1))) mO0)) [3] (tgN 3) mYes (mCall 3 S__law_put_in (mCons (mVar 3) (mCons (mVar 1) (mCons (mVar 2) mNil))))) mNil))))
def r__law_put_in_1 (S__law_put_in : FSpec) : SM := (mSeq (mIf (mOrT (mNotT (mAsT (mArg gIsi (mCons (mPeek 0) (mCons (mC (.ty .tup)) mNil))))) (mBinT gEq (mBin gIx (mPeek 0) (mC (.int 0))) (mC (.str "waits")))) (r__law_put_in_2) mNext) (r__law_put_in_3 S__law_put_in))
def r__law_put_in (S__law_put_in : FSpec) : SM := (mSeq (mIf (mBinT gEq (mPeek 0) (mPeek 1)) (r__law_put_in_0) mNext) (r__law_put_in_1 S__law_put_in))
abbrev N__law_put_in : List Str := ["_law_told", "_law_word", "_law_other", "_law_part"]
def r__law_right_6 : SM := (mRet (mC (.bl false)))
def r__law_right_10 (S_words_of : FSpec) (S_bells_of : FSpec) : SM := (mPar 11 12 (mCons (mBin gCat (mPeek 11) (mArg gList (mCons (mCall 1 S_words_of (mCons (mVar 3) mNil)) mNil))) (mCons (mBin gCat (mPeek 12) (mArg gList (mCons (mCall 1 S_bells_of (mCons (mVar 3) mNil)) mNil))) mNil)))
def r__law_right_12 : SM := (mRet (mC (.bl false)))
def r__law_right_14 (S_value_of : FSpec) : SM := (mRet (mAndE (mBin gEq (mPeek 13) (mArg gMin2 (mCons (mC (.int 1)) (mCons (mPeek 9) mNil)))) (mBin gEq (mCall 3 S_value_of (mCons (mTup (mCons (mC (.str "not")) (mCons (mVar 3) mNil))) (mCons (mVar 6) (mCons (mVar 7) mNil)))) (mBin gSubI (mC (.int 1)) (mPeek 13)))))
def r__law_right_13 (S_value_of : FSpec) : SM := (mSeq (mSet 13 (mCall 3 S_value_of (mCons (mTup (mCons (mC (.str "not")) (mCons (mTup (mCons (mC (.str "not")) (mCons (mVar 3) mNil))) mNil))) (mCons (mVar 6) (mCons (mVar 7) mNil))))) (r__law_right_14 S_value_of))
def r__law_right_11 (S_value_of : FSpec) (S_words_of : FSpec) (S_bells_of : FSpec) : SM := (mSeq (mIf (mOrT (mBinT gNe (mCall 1 S_words_of (mCons (mVar 8) mNil)) (mArg gTuple (mCons (mUn gSortedSet (mPeek 11)) mNil))) (mBinT gNe (mCall 1 S_bells_of (mCons (mVar 8) mNil)) (mArg gTuple (mCons (mUn gSortedSet (mPeek 12)) mNil)))) (r__law_right_12) mNext) (r__law_right_13 S_value_of))
def r__law_right_9 (S_value_of : FSpec) (S_words_of : FSpec) (S_bells_of : FSpec) : SM := (mSeq (mIf (mBinT gIn (mPeek 2) (mCall 1 S_words_of (mCons (mVar 1) mNil))) (r__law_right_10 S_words_of S_bells_of) mNext) (r__law_right_11 S_value_of S_words_of S_bells_of))
def r__law_right_8 (S_value_of : FSpec) (S_words_of : FSpec) (S_bells_of : FSpec) : SM := (mSeq (mSet 12 (mArg gList (mCons (mCall 1 S_bells_of (mCons (mVar 1) mNil)) mNil))) (r__law_right_9 S_value_of S_words_of S_bells_of))
def r__law_right_7 (S_value_of : FSpec) (S_words_of : FSpec) (S_bells_of : FSpec) : SM := (mSeq (mSet 11 (mLc (mIter (mCall 1 S_words_of (mCons (mVar 1) mNil))) [5] (tgN 5) (mBinT gNe (mPeek 5) (mPeek 2)) (mVar 5))) (r__law_right_8 S_value_of S_words_of S_bells_of))
def r__law_right_5 (S_value_of : FSpec) (S_is_sum : FSpec) (S_words_of : FSpec) (S_bells_of : FSpec) : SM := (mSeq (mFrz [10] (mIf (mOrT (mBinT gIsNot (mCall 1 S_is_sum (mCons (mVar 8) mNil)) (mC (.bl true))) (mBinT gNe (mCall 3 S_value_of (mCons (mVar 8) (mCons (mVar 6) (mCons (mVar 7) mNil)))) (mCall 3 S_value_of (mCons (mVar 1) (mCons (mVar 10) (mCons (mVar 7) mNil)))))) (r__law_right_6) mNext)) (r__law_right_7 S_value_of S_words_of S_bells_of))
def r__law_right_4 (S_value_of : FSpec) (S_is_sum : FSpec) (S_words_of : FSpec) (S_bells_of : FSpec) : SM := (mSeq (mDPutN 10 (mVar 9) (mPeek 2)) (r__law_right_5 S_value_of S_is_sum S_words_of S_bells_of))
def r__law_right_3 (S_value_of : FSpec) (S_is_sum : FSpec) (S_words_of : FSpec) (S_bells_of : FSpec) : SM := (mSeq (mSetN 10 (mArg gDict (mCons (mPeek 6) mNil))) (r__law_right_4 S_value_of S_is_sum S_words_of S_bells_of))
def r__law_right_2 (S_value_of : FSpec) (S_is_sum : FSpec) (S_words_of : FSpec) (S_bells_of : FSpec) : SM := (mSeq (mSet 9 (mCall 3 S_value_of (mCons (mVar 3) (mCons (mVar 6) (mCons (mVar 7) mNil))))) (r__law_right_3 S_value_of S_is_sum S_words_of S_bells_of))
def r__law_right_1 (S__law_put_in : FSpec) (S_value_of : FSpec) (S_is_sum : FSpec) (S_words_of : FSpec) (S_bells_of : FSpec) : SM := (mSeq (mSet 8 (mCall 3 S__law_put_in (mCons (mVar 1) (mCons (mVar 2) (mCons (mVar 3) mNil))))) (r__law_right_2 S_value_of S_is_sum S_words_of S_bells_of))
def r__law_right_0 (S__law_take : FSpec) (S__law_put_in : FSpec) (S_value_of : FSpec) (S_is_sum : FSpec) (S_words_of : FSpec) (S_bells_of : FSpec) : SM := (mSeq (mSet 7 (mArg gDict (mCons (mLc (mIter (mVar 4)) [5] (tgN 5) mYes (mTup (mCons (mVar 5) (mCons (mCall 2 S__law_take (mCons (mVar 0) (mCons (mC (.int 3)) mNil))) mNil)))) mNil))) (r__law_right_1 S__law_put_in S_value_of S_is_sum S_words_of S_bells_of))
def r__law_right (S__law_take : FSpec) (S__law_put_in : FSpec) (S_value_of : FSpec) (S_is_sum : FSpec) (S_words_of : FSpec) (S_bells_of : FSpec) : SM := (mSeq (mSet 6 (mArg gDict (mCons (mLc (mIter (mVar 4)) [5] (tgN 5) mYes (mTup (mCons (mVar 5) (mCons (mCall 2 S__law_take (mCons (mVar 0) (mCons (mC (.int 10)) mNil))) mNil)))) mNil))) (r__law_right_0 S__law_take S__law_put_in S_value_of S_is_sum S_words_of S_bells_of))
abbrev N__law_right : List Str := ["_law_pot_here", "_law_told", "_law_word", "_law_other", "_law_words_here", "_law_one", "_law_things", "_law_waiting", "_law_whole", "_law_inner", "_law_swapped", "_law_left", "_law_bells", "_law_found"]
def r_law_5 : SM := (mRet (mC (.bl false)))
def r_law_4 (S__law_right : FSpec) (S__law_of : FSpec) : SM := (mIf (mNotT (mAsT (mCall 5 S__law_right (mCons (mVar 1) (mCons (mVar 4) (mCons (mCall 2 S__law_of (mCons (mVar 1) (mCons (mSl gSlA (mPeek 2) mO0 (mO1 (mC (.int 4)))) mNil))) (mCons (mVar 5) (mCons (mVar 2) mNil)))))))) (r_law_5) mNext)
def r_law_3 (S__law_sum : FSpec) (S__law_take : FSpec) (S__law_right : FSpec) (S__law_of : FSpec) : SM := (mSeq (mSet 5 (mCall 4 S__law_sum (mCons (mVar 1) (mCons (mVar 2) (mCons (mSl gSlA (mPeek 2) (mO1 (mC (.int 4))) mO0) (mCons (mBin gAdd (mC (.int 1)) (mCall 2 S__law_take (mCons (mVar 1) (mCons (mC (.int 3)) mNil)))) mNil)))))) (r_law_4 S__law_right S__law_of))
def r_law_2 (S__law_sum : FSpec) (S__law_take : FSpec) (S__law_right : FSpec) (S__law_of : FSpec) : SM := (mSeq (mSet 4 (mCall 4 S__law_sum (mCons (mVar 1) (mCons (mSl gSlA (mPeek 2) mO0 (mO1 (mC (.int 4)))) (mCons (mSl gSlA (mPeek 2) (mO1 (mC (.int 2))) mO0) (mCons (mBin gAdd (mC (.int 1)) (mCall 2 S__law_take (mCons (mVar 1) (mCons (mC (.int 3)) mNil)))) mNil)))))) (r_law_3 S__law_sum S__law_take S__law_right S__law_of))
def r_law_6 : SM := (mRet (mC (.bl true)))
def r_law_1 (S__law_sum : FSpec) (S__law_take : FSpec) (S__law_right : FSpec) (S__law_of : FSpec) : SM := (mSeq (mFor (mRng1 (mCons (mArg gMax2 (mCons (mC (.int 16)) (mCons (mArg gMin2 (mCons (mC (.int 60)) (mCons (mArg gLen (mCons (mPeek 0) mNil)) mNil))) mNil))) mNil)) (tgN 3) (r_law_2 S__law_sum S__law_take S__law_right S__law_of)) (r_law_6))
def r_law_0 (S__law_words : FSpec) (S__law_sum : FSpec) (S__law_take : FSpec) (S__law_right : FSpec) (S__law_of : FSpec) : SM := (mSeq (mSet 2 (mCall 2 S__law_words (mCons (mVar 1) (mCons (mC (.int 7)) mNil)))) (r_law_1 S__law_sum S__law_take S__law_right S__law_of))
def r_law (S__law_pot : FSpec) (S__law_words : FSpec) (S__law_sum : FSpec) (S__law_take : FSpec) (S__law_right : FSpec) (S__law_of : FSpec) : SM := (mSeq (mSet 1 (mCall 1 S__law_pot (mCons (mVar 0) mNil))) (r_law_0 S__law_words S__law_sum S__law_take S__law_right S__law_of))
abbrev N_law : List Str := ["_law_script", "_law_pot_here", "_law_words_here", "_law_k", "_law_told", "_law_other"]
/-- o in the place of the word w -/
def sub (w : Str) (o : Sm) : Sm → Sm
  | .val n => .val n
  | .wrd x => if x = w then o else .wrd x
  | .wts x => .wts x
  | .not a => .not (sub w o a)
  | .two t a b => .two t (sub w o a) (sub w o b)
theorem sub_dep (w : Str) (o : Sm) : ∀ s : Sm, (sub w o s).dep + 1 ≤ s.dep + o.dep
  | .val _ => by have := Sq.dep_pos o; show 1 + 1 ≤ 1 + _; omega
  | .wrd x => by
    have := Sq.dep_pos o
    unfold sub
    split
    · show _ ≤ 1 + _; omega
    · show 1 + 1 ≤ 1 + _; omega
  | .wts _ => by have := Sq.dep_pos o; show 1 + 1 ≤ 1 + _; omega
  | .not a => by have := sub_dep w o a; show _ + 1 + 1 ≤ a.dep + 1 + _; omega
  | .two t a b => by
    have h1 := sub_dep w o a
    have h2 := sub_dep w o b
    show max _ _ + 1 + 1 ≤ max a.dep b.dep + 1 + _; omega
theorem sub_ev {th wa : Str → Int} (w : Str) (o : Sm) : ∀ s : Sm, Vl.ev th wa (sub w o s) = Vl.ev (fun x => if x = w then Vl.ev th wa o else th x) wa s
  | .val _ => rfl
  | .wrd x => by
    unfold sub
    by_cases e : x = w
    · simp [e, Vl.ev]
    · simp [e, Vl.ev]
  | .wts _ => rfl
  | .not a => by simp only [sub, Vl.ev, sub_ev w o a]
  | .two t a b => by simp only [sub, Vl.ev, sub_ev w o a, sub_ev w o b]
def spPutIn : Nat → FSpec := fun j args et R => ∃ (s o : Sm) (w : Str), args = [s.pv, .str w, o.pv] ∧ s.dep ≤ j ∧ s.dep ≤ 5 ∧ okW s ∧ isWord w = true ∧ R (sub w o s).pv et
theorem eq_text {s : Sm} {w : Str} (hs : okW s) (h5 : s.dep ≤ 5) (hw : isWord w = true) : gEq s.pv (.str w) = some (.bl (match s with | .wrd x => decide (x = w) | _ => false)) := by
  obtain ⟨d1, d2⟩ := dok_sm s hs
  unfold gEq
  rw [eqB_peq d1 (show dok (.str w) = true from isWord_strOk hw) (by omega) (by simp [dpt])]
  cases s <;> simp [Sm.pv, peq, Bool.beq_eq_decide_eq]
theorem deref_sm (et : Hi) (s : Sm) : deref et s.pv = s.pv := by cases s <;> rfl
theorem put_in_ok (j : Nat) (args : List PV) (et : Hi) (R : PV → Hi → Prop) (h : spPutIn (j + 1) args et R) : r__law_put_in (spPutIn j) (env0 N__law_put_in args) et (retK R) := by
  obtain ⟨s, o, w, rfl, hj, h5, hs, hw, hR⟩ := h
  show r__law_put_in _ [.val s.pv, .val (.str w), .val o.pv, .no] et (retK R)
  unfold r__law_put_in
  have e0 := eq_text hs h5 hw
  simp only [mSeq, mSet, mSetN, mSetX, mExpr, mExprX, mRet, mRetN, mRetX, mIf, mNext, mPass, mBrk, mCnt, mFrz, mAsg, mAsgX, mPar, mParN, mBin, mUn, mArg, mC, mVar, mPeek, mCall, mCons, mNil, mTup, mLst, mBinT, mAsT, mNotT, mAndT, mOrT, mAndE, mOrE, mNotE, mIfE, mChain, mChainT, mSl, mO0, mO1, mIter, mRng1, mRng2, mZip, mEnum, mMut, mMutR, mSubSet, mShare, mMeth, mFor, mLc, mYes, slotV, frzS, tgN, tgT, tgNs, wipeE, retK, mAug, List.foldl_cons, List.foldl_nil, deref_int, deref_str, deref_bl, deref_non, deref_tup, deref_lst, deref_scr, deref_dic, deref_ty, isLst, cellP, List.getElem?_cons_zero, List.getElem?_cons_succ, List.getElem?_nil, List.set_cons_zero, List.set_cons_succ, List.map_cons, List.map_nil, List.length_cons, List.length_nil, List.cons_append, List.nil_append, Option.some.injEq, Slot.val.injEq, Slot.own.injEq, PV.int.injEq, PV.bl.injEq, PV.str.injEq, PV.ref.injEq, PV.lst.injEq, PV.tup.injEq, exists_eq_left', exists_eq_left, and_true, true_and, true_or, or_true, and_self, reduceCtorEq, gAdd, gSubI, gMul, gDiv, gMod, gPow, gLt, gLe, gGt, gGe, gIx, gNeg, eqB_int, gEq_int, gNe_int, gEq_str, gNe_str, if_true, if_false, Bool.false_eq_true, Nat.reduceAdd, Nat.zero_add, Bool.not_true, Bool.not_false, atI_c0, atI_c1, atI_c2, deref_sm, e0]
  cases s with
  | val n =>
    simp only [Bool.false_eq_true, if_false]
    unfold r__law_put_in_1
    have e1 : gIsi [PV.int n, .ty .tup] = some (.bl false) := rfl
    simp only [mSeq, mSet, mSetN, mSetX, mExpr, mExprX, mRet, mRetN, mRetX, mIf, mNext, mPass, mBrk, mCnt, mFrz, mAsg, mAsgX, mPar, mParN, mBin, mUn, mArg, mC, mVar, mPeek, mCall, mCons, mNil, mTup, mLst, mBinT, mAsT, mNotT, mAndT, mOrT, mAndE, mOrE, mNotE, mIfE, mChain, mChainT, mSl, mO0, mO1, mIter, mRng1, mRng2, mZip, mEnum, mMut, mMutR, mSubSet, mShare, mMeth, mFor, mLc, mYes, slotV, frzS, tgN, tgT, tgNs, wipeE, retK, mAug, List.foldl_cons, List.foldl_nil, deref_int, deref_str, deref_bl, deref_non, deref_tup, deref_lst, deref_scr, deref_dic, deref_ty, isLst, cellP, List.getElem?_cons_zero, List.getElem?_cons_succ, List.getElem?_nil, List.set_cons_zero, List.set_cons_succ, List.map_cons, List.map_nil, List.length_cons, List.length_nil, List.cons_append, List.nil_append, Option.some.injEq, Slot.val.injEq, Slot.own.injEq, PV.int.injEq, PV.bl.injEq, PV.str.injEq, PV.ref.injEq, PV.lst.injEq, PV.tup.injEq, exists_eq_left', exists_eq_left, and_true, true_and, true_or, or_true, and_self, reduceCtorEq, gAdd, gSubI, gMul, gDiv, gMod, gPow, gLt, gLe, gGt, gGe, gIx, gNeg, eqB_int, gEq_int, gNe_int, gEq_str, gNe_str, if_true, if_false, Bool.false_eq_true, Nat.reduceAdd, Nat.zero_add, Bool.not_true, Bool.not_false, atI_c0, atI_c1, atI_c2, Sm.pv, e1]
    unfold r__law_put_in_2
    simp only [mSeq, mSet, mSetN, mSetX, mExpr, mExprX, mRet, mRetN, mRetX, mIf, mNext, mPass, mBrk, mCnt, mFrz, mAsg, mAsgX, mPar, mParN, mBin, mUn, mArg, mC, mVar, mPeek, mCall, mCons, mNil, mTup, mLst, mBinT, mAsT, mNotT, mAndT, mOrT, mAndE, mOrE, mNotE, mIfE, mChain, mChainT, mSl, mO0, mO1, mIter, mRng1, mRng2, mZip, mEnum, mMut, mMutR, mSubSet, mShare, mMeth, mFor, mLc, mYes, slotV, frzS, tgN, tgT, tgNs, wipeE, retK, mAug, List.foldl_cons, List.foldl_nil, deref_int, deref_str, deref_bl, deref_non, deref_tup, deref_lst, deref_scr, deref_dic, deref_ty, isLst, cellP, List.getElem?_cons_zero, List.getElem?_cons_succ, List.getElem?_nil, List.set_cons_zero, List.set_cons_succ, List.map_cons, List.map_nil, List.length_cons, List.length_nil, List.cons_append, List.nil_append, Option.some.injEq, Slot.val.injEq, Slot.own.injEq, PV.int.injEq, PV.bl.injEq, PV.str.injEq, PV.ref.injEq, PV.lst.injEq, PV.tup.injEq, exists_eq_left', exists_eq_left, and_true, true_and, true_or, or_true, and_self, reduceCtorEq, gAdd, gSubI, gMul, gDiv, gMod, gPow, gLt, gLe, gGt, gGe, gIx, gNeg, eqB_int, gEq_int, gNe_int, gEq_str, gNe_str, if_true, if_false, Bool.false_eq_true, Nat.reduceAdd, Nat.zero_add, Bool.not_true, Bool.not_false, atI_c0, atI_c1, atI_c2]
    exact hR
  | wrd x =>
    by_cases e : x = w
    · simp only [e, decide_true, if_true]
      unfold r__law_put_in_0
      simp only [mSeq, mSet, mSetN, mSetX, mExpr, mExprX, mRet, mRetN, mRetX, mIf, mNext, mPass, mBrk, mCnt, mFrz, mAsg, mAsgX, mPar, mParN, mBin, mUn, mArg, mC, mVar, mPeek, mCall, mCons, mNil, mTup, mLst, mBinT, mAsT, mNotT, mAndT, mOrT, mAndE, mOrE, mNotE, mIfE, mChain, mChainT, mSl, mO0, mO1, mIter, mRng1, mRng2, mZip, mEnum, mMut, mMutR, mSubSet, mShare, mMeth, mFor, mLc, mYes, slotV, frzS, tgN, tgT, tgNs, wipeE, retK, mAug, List.foldl_cons, List.foldl_nil, deref_int, deref_str, deref_bl, deref_non, deref_tup, deref_lst, deref_scr, deref_dic, deref_ty, isLst, cellP, List.getElem?_cons_zero, List.getElem?_cons_succ, List.getElem?_nil, List.set_cons_zero, List.set_cons_succ, List.map_cons, List.map_nil, List.length_cons, List.length_nil, List.cons_append, List.nil_append, Option.some.injEq, Slot.val.injEq, Slot.own.injEq, PV.int.injEq, PV.bl.injEq, PV.str.injEq, PV.ref.injEq, PV.lst.injEq, PV.tup.injEq, exists_eq_left', exists_eq_left, and_true, true_and, true_or, or_true, and_self, reduceCtorEq, gAdd, gSubI, gMul, gDiv, gMod, gPow, gLt, gLe, gGt, gGe, gIx, gNeg, eqB_int, gEq_int, gNe_int, gEq_str, gNe_str, if_true, if_false, Bool.false_eq_true, Nat.reduceAdd, Nat.zero_add, Bool.not_true, Bool.not_false, atI_c0, atI_c1, atI_c2]
      have : (sub w o (.wrd x)) = o := by unfold sub; rw [if_pos e]
      rw [this] at hR; exact hR
    · simp only [e, decide_false, Bool.false_eq_true, if_false]
      unfold r__law_put_in_1
      have e1 : gIsi [PV.str x, .ty .tup] = some (.bl false) := rfl
      simp only [mSeq, mSet, mSetN, mSetX, mExpr, mExprX, mRet, mRetN, mRetX, mIf, mNext, mPass, mBrk, mCnt, mFrz, mAsg, mAsgX, mPar, mParN, mBin, mUn, mArg, mC, mVar, mPeek, mCall, mCons, mNil, mTup, mLst, mBinT, mAsT, mNotT, mAndT, mOrT, mAndE, mOrE, mNotE, mIfE, mChain, mChainT, mSl, mO0, mO1, mIter, mRng1, mRng2, mZip, mEnum, mMut, mMutR, mSubSet, mShare, mMeth, mFor, mLc, mYes, slotV, frzS, tgN, tgT, tgNs, wipeE, retK, mAug, List.foldl_cons, List.foldl_nil, deref_int, deref_str, deref_bl, deref_non, deref_tup, deref_lst, deref_scr, deref_dic, deref_ty, isLst, cellP, List.getElem?_cons_zero, List.getElem?_cons_succ, List.getElem?_nil, List.set_cons_zero, List.set_cons_succ, List.map_cons, List.map_nil, List.length_cons, List.length_nil, List.cons_append, List.nil_append, Option.some.injEq, Slot.val.injEq, Slot.own.injEq, PV.int.injEq, PV.bl.injEq, PV.str.injEq, PV.ref.injEq, PV.lst.injEq, PV.tup.injEq, exists_eq_left', exists_eq_left, and_true, true_and, true_or, or_true, and_self, reduceCtorEq, gAdd, gSubI, gMul, gDiv, gMod, gPow, gLt, gLe, gGt, gGe, gIx, gNeg, eqB_int, gEq_int, gNe_int, gEq_str, gNe_str, if_true, if_false, Bool.false_eq_true, Nat.reduceAdd, Nat.zero_add, Bool.not_true, Bool.not_false, atI_c0, atI_c1, atI_c2, Sm.pv, e1]
      unfold r__law_put_in_2
      simp only [mSeq, mSet, mSetN, mSetX, mExpr, mExprX, mRet, mRetN, mRetX, mIf, mNext, mPass, mBrk, mCnt, mFrz, mAsg, mAsgX, mPar, mParN, mBin, mUn, mArg, mC, mVar, mPeek, mCall, mCons, mNil, mTup, mLst, mBinT, mAsT, mNotT, mAndT, mOrT, mAndE, mOrE, mNotE, mIfE, mChain, mChainT, mSl, mO0, mO1, mIter, mRng1, mRng2, mZip, mEnum, mMut, mMutR, mSubSet, mShare, mMeth, mFor, mLc, mYes, slotV, frzS, tgN, tgT, tgNs, wipeE, retK, mAug, List.foldl_cons, List.foldl_nil, deref_int, deref_str, deref_bl, deref_non, deref_tup, deref_lst, deref_scr, deref_dic, deref_ty, isLst, cellP, List.getElem?_cons_zero, List.getElem?_cons_succ, List.getElem?_nil, List.set_cons_zero, List.set_cons_succ, List.map_cons, List.map_nil, List.length_cons, List.length_nil, List.cons_append, List.nil_append, Option.some.injEq, Slot.val.injEq, Slot.own.injEq, PV.int.injEq, PV.bl.injEq, PV.str.injEq, PV.ref.injEq, PV.lst.injEq, PV.tup.injEq, exists_eq_left', exists_eq_left, and_true, true_and, true_or, or_true, and_self, reduceCtorEq, gAdd, gSubI, gMul, gDiv, gMod, gPow, gLt, gLe, gGt, gGe, gIx, gNeg, eqB_int, gEq_int, gNe_int, gEq_str, gNe_str, if_true, if_false, Bool.false_eq_true, Nat.reduceAdd, Nat.zero_add, Bool.not_true, Bool.not_false, atI_c0, atI_c1, atI_c2]
      have : (sub w o (.wrd x)) = .wrd x := by unfold sub; rw [if_neg e]
      rw [this] at hR; exact hR
  | wts x =>
    simp only [Bool.false_eq_true, if_false]
    unfold r__law_put_in_1
    have e1 : gIsi [PV.tup [.str "waits", .str x], .ty .tup] = some (.bl true) := rfl
    simp only [mSeq, mSet, mSetN, mSetX, mExpr, mExprX, mRet, mRetN, mRetX, mIf, mNext, mPass, mBrk, mCnt, mFrz, mAsg, mAsgX, mPar, mParN, mBin, mUn, mArg, mC, mVar, mPeek, mCall, mCons, mNil, mTup, mLst, mBinT, mAsT, mNotT, mAndT, mOrT, mAndE, mOrE, mNotE, mIfE, mChain, mChainT, mSl, mO0, mO1, mIter, mRng1, mRng2, mZip, mEnum, mMut, mMutR, mSubSet, mShare, mMeth, mFor, mLc, mYes, slotV, frzS, tgN, tgT, tgNs, wipeE, retK, mAug, List.foldl_cons, List.foldl_nil, deref_int, deref_str, deref_bl, deref_non, deref_tup, deref_lst, deref_scr, deref_dic, deref_ty, isLst, cellP, List.getElem?_cons_zero, List.getElem?_cons_succ, List.getElem?_nil, List.set_cons_zero, List.set_cons_succ, List.map_cons, List.map_nil, List.length_cons, List.length_nil, List.cons_append, List.nil_append, Option.some.injEq, Slot.val.injEq, Slot.own.injEq, PV.int.injEq, PV.bl.injEq, PV.str.injEq, PV.ref.injEq, PV.lst.injEq, PV.tup.injEq, exists_eq_left', exists_eq_left, and_true, true_and, true_or, or_true, and_self, reduceCtorEq, gAdd, gSubI, gMul, gDiv, gMod, gPow, gLt, gLe, gGt, gGe, gIx, gNeg, eqB_int, gEq_int, gNe_int, gEq_str, gNe_str, if_true, if_false, Bool.false_eq_true, Nat.reduceAdd, Nat.zero_add, Bool.not_true, Bool.not_false, atI_c0, atI_c1, atI_c2, Sm.pv, e1, decide_true]
    unfold r__law_put_in_2
    simp only [mSeq, mSet, mSetN, mSetX, mExpr, mExprX, mRet, mRetN, mRetX, mIf, mNext, mPass, mBrk, mCnt, mFrz, mAsg, mAsgX, mPar, mParN, mBin, mUn, mArg, mC, mVar, mPeek, mCall, mCons, mNil, mTup, mLst, mBinT, mAsT, mNotT, mAndT, mOrT, mAndE, mOrE, mNotE, mIfE, mChain, mChainT, mSl, mO0, mO1, mIter, mRng1, mRng2, mZip, mEnum, mMut, mMutR, mSubSet, mShare, mMeth, mFor, mLc, mYes, slotV, frzS, tgN, tgT, tgNs, wipeE, retK, mAug, List.foldl_cons, List.foldl_nil, deref_int, deref_str, deref_bl, deref_non, deref_tup, deref_lst, deref_scr, deref_dic, deref_ty, isLst, cellP, List.getElem?_cons_zero, List.getElem?_cons_succ, List.getElem?_nil, List.set_cons_zero, List.set_cons_succ, List.map_cons, List.map_nil, List.length_cons, List.length_nil, List.cons_append, List.nil_append, Option.some.injEq, Slot.val.injEq, Slot.own.injEq, PV.int.injEq, PV.bl.injEq, PV.str.injEq, PV.ref.injEq, PV.lst.injEq, PV.tup.injEq, exists_eq_left', exists_eq_left, and_true, true_and, true_or, or_true, and_self, reduceCtorEq, gAdd, gSubI, gMul, gDiv, gMod, gPow, gLt, gLe, gGt, gGe, gIx, gNeg, eqB_int, gEq_int, gNe_int, gEq_str, gNe_str, if_true, if_false, Bool.false_eq_true, Nat.reduceAdd, Nat.zero_add, Bool.not_true, Bool.not_false, atI_c0, atI_c1, atI_c2]
    exact hR
  | not a =>
    simp only [Bool.false_eq_true, if_false]
    unfold r__law_put_in_1
    have e1 : gIsi [PV.tup [.str "not", a.pv], .ty .tup] = some (.bl true) := rfl
    have e2 : decide (Str.ofString "not" = Str.ofString "waits") = false := by decide
    simp only [mSeq, mSet, mSetN, mSetX, mExpr, mExprX, mRet, mRetN, mRetX, mIf, mNext, mPass, mBrk, mCnt, mFrz, mAsg, mAsgX, mPar, mParN, mBin, mUn, mArg, mC, mVar, mPeek, mCall, mCons, mNil, mTup, mLst, mBinT, mAsT, mNotT, mAndT, mOrT, mAndE, mOrE, mNotE, mIfE, mChain, mChainT, mSl, mO0, mO1, mIter, mRng1, mRng2, mZip, mEnum, mMut, mMutR, mSubSet, mShare, mMeth, mFor, mLc, mYes, slotV, frzS, tgN, tgT, tgNs, wipeE, retK, mAug, List.foldl_cons, List.foldl_nil, deref_int, deref_str, deref_bl, deref_non, deref_tup, deref_lst, deref_scr, deref_dic, deref_ty, isLst, cellP, List.getElem?_cons_zero, List.getElem?_cons_succ, List.getElem?_nil, List.set_cons_zero, List.set_cons_succ, List.map_cons, List.map_nil, List.length_cons, List.length_nil, List.cons_append, List.nil_append, Option.some.injEq, Slot.val.injEq, Slot.own.injEq, PV.int.injEq, PV.bl.injEq, PV.str.injEq, PV.ref.injEq, PV.lst.injEq, PV.tup.injEq, exists_eq_left', exists_eq_left, and_true, true_and, true_or, or_true, and_self, reduceCtorEq, gAdd, gSubI, gMul, gDiv, gMod, gPow, gLt, gLe, gGt, gGe, gIx, gNeg, eqB_int, gEq_int, gNe_int, gEq_str, gNe_str, if_true, if_false, Bool.false_eq_true, Nat.reduceAdd, Nat.zero_add, Bool.not_true, Bool.not_false, atI_c0, atI_c1, atI_c2, Sm.pv, e1, e2]
    unfold r__law_put_in_3
    have s1 : gSlA (PV.tup [.str "not", a.pv]) none (some 1) = some (.tup [.str "not"]) := rfl
    have s2 : gSlA (PV.tup [.str "not", a.pv]) (some 1) none = some (.tup [a.pv]) := rfl
    simp only [mSeq, mSet, mSetN, mSetX, mExpr, mExprX, mRet, mRetN, mRetX, mIf, mNext, mPass, mBrk, mCnt, mFrz, mAsg, mAsgX, mPar, mParN, mBin, mUn, mArg, mC, mVar, mPeek, mCall, mCons, mNil, mTup, mLst, mBinT, mAsT, mNotT, mAndT, mOrT, mAndE, mOrE, mNotE, mIfE, mChain, mChainT, mSl, mO0, mO1, mIter, mRng1, mRng2, mZip, mEnum, mMut, mMutR, mSubSet, mShare, mMeth, mFor, mLc, mYes, slotV, frzS, tgN, tgT, tgNs, wipeE, retK, mAug, List.foldl_cons, List.foldl_nil, deref_int, deref_str, deref_bl, deref_non, deref_tup, deref_lst, deref_scr, deref_dic, deref_ty, isLst, cellP, List.getElem?_cons_zero, List.getElem?_cons_succ, List.getElem?_nil, List.set_cons_zero, List.set_cons_succ, List.map_cons, List.map_nil, List.length_cons, List.length_nil, List.cons_append, List.nil_append, Option.some.injEq, Slot.val.injEq, Slot.own.injEq, PV.int.injEq, PV.bl.injEq, PV.str.injEq, PV.ref.injEq, PV.lst.injEq, PV.tup.injEq, exists_eq_left', exists_eq_left, and_true, true_and, true_or, or_true, and_self, reduceCtorEq, gAdd, gSubI, gMul, gDiv, gMod, gPow, gLt, gLe, gGt, gGe, gIx, gNeg, eqB_int, gEq_int, gNe_int, gEq_str, gNe_str, if_true, if_false, Bool.false_eq_true, Nat.reduceAdd, Nat.zero_add, Bool.not_true, Bool.not_false, atI_c0, atI_c1, atI_c2, s1, s2, itemsP]
    refine Vl.lc_rel (rs := [(sub w o a).pv]) rfl (by show (1 : Nat) ≤ sizeLine; decide) rfl (fun i p r hp hr => ?_) ?_
    · match i, hp, hr with
      | 0, hp, hr =>
        cases hp; cases hr
        refine ⟨_, rfl, fun Q hQ => ?_⟩
        simp only [mSeq, mSet, mSetN, mSetX, mExpr, mExprX, mRet, mRetN, mRetX, mIf, mNext, mPass, mBrk, mCnt, mFrz, mAsg, mAsgX, mPar, mParN, mBin, mUn, mArg, mC, mVar, mPeek, mCall, mCons, mNil, mTup, mLst, mBinT, mAsT, mNotT, mAndT, mOrT, mAndE, mOrE, mNotE, mIfE, mChain, mChainT, mSl, mO0, mO1, mIter, mRng1, mRng2, mZip, mEnum, mMut, mMutR, mSubSet, mShare, mMeth, mFor, mLc, mYes, slotV, frzS, tgN, tgT, tgNs, wipeE, retK, mAug, List.foldl_cons, List.foldl_nil, deref_int, deref_str, deref_bl, deref_non, deref_tup, deref_lst, deref_scr, deref_dic, deref_ty, isLst, cellP, List.getElem?_cons_zero, List.getElem?_cons_succ, List.getElem?_nil, List.set_cons_zero, List.set_cons_succ, List.map_cons, List.map_nil, List.length_cons, List.length_nil, List.cons_append, List.nil_append, Option.some.injEq, Slot.val.injEq, Slot.own.injEq, PV.int.injEq, PV.bl.injEq, PV.str.injEq, PV.ref.injEq, PV.lst.injEq, PV.tup.injEq, exists_eq_left', exists_eq_left, and_true, true_and, true_or, or_true, and_self, reduceCtorEq, gAdd, gSubI, gMul, gDiv, gMod, gPow, gLt, gLe, gGt, gGe, gIx, gNeg, eqB_int, gEq_int, gNe_int, gEq_str, gNe_str, if_true, if_false, Bool.false_eq_true, Nat.reduceAdd, Nat.zero_add, Bool.not_true, Bool.not_false, atI_c0, atI_c1, atI_c2]
        exact ⟨a, o, w, rfl, by simp [Sm.dep] at hj; omega, by simp [Sm.dep] at h5; omega, hs, hw, hQ⟩
      | i + 1, hp, _ => simp at hp
    · have gt : gTuple [.lst [(sub w o a).pv]] = some (.tup [(sub w o a).pv]) := rfl
      simp only [mSeq, mSet, mSetN, mSetX, mExpr, mExprX, mRet, mRetN, mRetX, mIf, mNext, mPass, mBrk, mCnt, mFrz, mAsg, mAsgX, mPar, mParN, mBin, mUn, mArg, mC, mVar, mPeek, mCall, mCons, mNil, mTup, mLst, mBinT, mAsT, mNotT, mAndT, mOrT, mAndE, mOrE, mNotE, mIfE, mChain, mChainT, mSl, mO0, mO1, mIter, mRng1, mRng2, mZip, mEnum, mMut, mMutR, mSubSet, mShare, mMeth, mFor, mLc, mYes, slotV, frzS, tgN, tgT, tgNs, wipeE, retK, mAug, List.foldl_cons, List.foldl_nil, deref_int, deref_str, deref_bl, deref_non, deref_tup, deref_lst, deref_scr, deref_dic, deref_ty, isLst, cellP, List.getElem?_cons_zero, List.getElem?_cons_succ, List.getElem?_nil, List.set_cons_zero, List.set_cons_succ, List.map_cons, List.map_nil, List.length_cons, List.length_nil, List.cons_append, List.nil_append, Option.some.injEq, Slot.val.injEq, Slot.own.injEq, PV.int.injEq, PV.bl.injEq, PV.str.injEq, PV.ref.injEq, PV.lst.injEq, PV.tup.injEq, exists_eq_left', exists_eq_left, and_true, true_and, true_or, or_true, and_self, reduceCtorEq, gAdd, gSubI, gMul, gDiv, gMod, gPow, gLt, gLe, gGt, gGe, gIx, gNeg, eqB_int, gEq_int, gNe_int, gEq_str, gNe_str, if_true, if_false, Bool.false_eq_true, Nat.reduceAdd, Nat.zero_add, Bool.not_true, Bool.not_false, atI_c0, atI_c1, atI_c2, gt]
      refine ⟨_, if_pos (by show (2 : Nat) ≤ sizeLine; decide), hR⟩
  | two t a b =>
    simp only [Bool.false_eq_true, if_false]
    unfold r__law_put_in_1
    have e1 : gIsi [PV.tup [.str t.str, a.pv, b.pv], .ty .tup] = some (.bl true) := rfl
    have e2 : decide (t.str = Str.ofString "waits") = false := by cases t <;> decide
    simp only [mSeq, mSet, mSetN, mSetX, mExpr, mExprX, mRet, mRetN, mRetX, mIf, mNext, mPass, mBrk, mCnt, mFrz, mAsg, mAsgX, mPar, mParN, mBin, mUn, mArg, mC, mVar, mPeek, mCall, mCons, mNil, mTup, mLst, mBinT, mAsT, mNotT, mAndT, mOrT, mAndE, mOrE, mNotE, mIfE, mChain, mChainT, mSl, mO0, mO1, mIter, mRng1, mRng2, mZip, mEnum, mMut, mMutR, mSubSet, mShare, mMeth, mFor, mLc, mYes, slotV, frzS, tgN, tgT, tgNs, wipeE, retK, mAug, List.foldl_cons, List.foldl_nil, deref_int, deref_str, deref_bl, deref_non, deref_tup, deref_lst, deref_scr, deref_dic, deref_ty, isLst, cellP, List.getElem?_cons_zero, List.getElem?_cons_succ, List.getElem?_nil, List.set_cons_zero, List.set_cons_succ, List.map_cons, List.map_nil, List.length_cons, List.length_nil, List.cons_append, List.nil_append, Option.some.injEq, Slot.val.injEq, Slot.own.injEq, PV.int.injEq, PV.bl.injEq, PV.str.injEq, PV.ref.injEq, PV.lst.injEq, PV.tup.injEq, exists_eq_left', exists_eq_left, and_true, true_and, true_or, or_true, and_self, reduceCtorEq, gAdd, gSubI, gMul, gDiv, gMod, gPow, gLt, gLe, gGt, gGe, gIx, gNeg, eqB_int, gEq_int, gNe_int, gEq_str, gNe_str, if_true, if_false, Bool.false_eq_true, Nat.reduceAdd, Nat.zero_add, Bool.not_true, Bool.not_false, atI_c0, atI_c1, atI_c2, Sm.pv, e1, e2]
    unfold r__law_put_in_3
    have s1 : gSlA (PV.tup [.str t.str, a.pv, b.pv]) none (some 1) = some (.tup [.str t.str]) := rfl
    have s2 : gSlA (PV.tup [.str t.str, a.pv, b.pv]) (some 1) none = some (.tup [a.pv, b.pv]) := rfl
    simp only [mSeq, mSet, mSetN, mSetX, mExpr, mExprX, mRet, mRetN, mRetX, mIf, mNext, mPass, mBrk, mCnt, mFrz, mAsg, mAsgX, mPar, mParN, mBin, mUn, mArg, mC, mVar, mPeek, mCall, mCons, mNil, mTup, mLst, mBinT, mAsT, mNotT, mAndT, mOrT, mAndE, mOrE, mNotE, mIfE, mChain, mChainT, mSl, mO0, mO1, mIter, mRng1, mRng2, mZip, mEnum, mMut, mMutR, mSubSet, mShare, mMeth, mFor, mLc, mYes, slotV, frzS, tgN, tgT, tgNs, wipeE, retK, mAug, List.foldl_cons, List.foldl_nil, deref_int, deref_str, deref_bl, deref_non, deref_tup, deref_lst, deref_scr, deref_dic, deref_ty, isLst, cellP, List.getElem?_cons_zero, List.getElem?_cons_succ, List.getElem?_nil, List.set_cons_zero, List.set_cons_succ, List.map_cons, List.map_nil, List.length_cons, List.length_nil, List.cons_append, List.nil_append, Option.some.injEq, Slot.val.injEq, Slot.own.injEq, PV.int.injEq, PV.bl.injEq, PV.str.injEq, PV.ref.injEq, PV.lst.injEq, PV.tup.injEq, exists_eq_left', exists_eq_left, and_true, true_and, true_or, or_true, and_self, reduceCtorEq, gAdd, gSubI, gMul, gDiv, gMod, gPow, gLt, gLe, gGt, gGe, gIx, gNeg, eqB_int, gEq_int, gNe_int, gEq_str, gNe_str, if_true, if_false, Bool.false_eq_true, Nat.reduceAdd, Nat.zero_add, Bool.not_true, Bool.not_false, atI_c0, atI_c1, atI_c2, s1, s2, itemsP]
    refine Vl.lc_rel (rs := [(sub w o a).pv, (sub w o b).pv]) rfl (by show (2 : Nat) ≤ sizeLine; decide) rfl (fun i p r hp hr => ?_) ?_
    · match i, hp, hr with
      | 0, hp, hr =>
        cases hp; cases hr
        refine ⟨_, rfl, fun Q hQ => ?_⟩
        simp only [mSeq, mSet, mSetN, mSetX, mExpr, mExprX, mRet, mRetN, mRetX, mIf, mNext, mPass, mBrk, mCnt, mFrz, mAsg, mAsgX, mPar, mParN, mBin, mUn, mArg, mC, mVar, mPeek, mCall, mCons, mNil, mTup, mLst, mBinT, mAsT, mNotT, mAndT, mOrT, mAndE, mOrE, mNotE, mIfE, mChain, mChainT, mSl, mO0, mO1, mIter, mRng1, mRng2, mZip, mEnum, mMut, mMutR, mSubSet, mShare, mMeth, mFor, mLc, mYes, slotV, frzS, tgN, tgT, tgNs, wipeE, retK, mAug, List.foldl_cons, List.foldl_nil, deref_int, deref_str, deref_bl, deref_non, deref_tup, deref_lst, deref_scr, deref_dic, deref_ty, isLst, cellP, List.getElem?_cons_zero, List.getElem?_cons_succ, List.getElem?_nil, List.set_cons_zero, List.set_cons_succ, List.map_cons, List.map_nil, List.length_cons, List.length_nil, List.cons_append, List.nil_append, Option.some.injEq, Slot.val.injEq, Slot.own.injEq, PV.int.injEq, PV.bl.injEq, PV.str.injEq, PV.ref.injEq, PV.lst.injEq, PV.tup.injEq, exists_eq_left', exists_eq_left, and_true, true_and, true_or, or_true, and_self, reduceCtorEq, gAdd, gSubI, gMul, gDiv, gMod, gPow, gLt, gLe, gGt, gGe, gIx, gNeg, eqB_int, gEq_int, gNe_int, gEq_str, gNe_str, if_true, if_false, Bool.false_eq_true, Nat.reduceAdd, Nat.zero_add, Bool.not_true, Bool.not_false, atI_c0, atI_c1, atI_c2]
        exact ⟨a, o, w, rfl, by simp [Sm.dep] at hj; omega, by simp [Sm.dep] at h5; omega, hs.1, hw, hQ⟩
      | 1, hp, hr =>
        cases hp; cases hr
        refine ⟨_, rfl, fun Q hQ => ?_⟩
        simp only [mSeq, mSet, mSetN, mSetX, mExpr, mExprX, mRet, mRetN, mRetX, mIf, mNext, mPass, mBrk, mCnt, mFrz, mAsg, mAsgX, mPar, mParN, mBin, mUn, mArg, mC, mVar, mPeek, mCall, mCons, mNil, mTup, mLst, mBinT, mAsT, mNotT, mAndT, mOrT, mAndE, mOrE, mNotE, mIfE, mChain, mChainT, mSl, mO0, mO1, mIter, mRng1, mRng2, mZip, mEnum, mMut, mMutR, mSubSet, mShare, mMeth, mFor, mLc, mYes, slotV, frzS, tgN, tgT, tgNs, wipeE, retK, mAug, List.foldl_cons, List.foldl_nil, deref_int, deref_str, deref_bl, deref_non, deref_tup, deref_lst, deref_scr, deref_dic, deref_ty, isLst, cellP, List.getElem?_cons_zero, List.getElem?_cons_succ, List.getElem?_nil, List.set_cons_zero, List.set_cons_succ, List.map_cons, List.map_nil, List.length_cons, List.length_nil, List.cons_append, List.nil_append, Option.some.injEq, Slot.val.injEq, Slot.own.injEq, PV.int.injEq, PV.bl.injEq, PV.str.injEq, PV.ref.injEq, PV.lst.injEq, PV.tup.injEq, exists_eq_left', exists_eq_left, and_true, true_and, true_or, or_true, and_self, reduceCtorEq, gAdd, gSubI, gMul, gDiv, gMod, gPow, gLt, gLe, gGt, gGe, gIx, gNeg, eqB_int, gEq_int, gNe_int, gEq_str, gNe_str, if_true, if_false, Bool.false_eq_true, Nat.reduceAdd, Nat.zero_add, Bool.not_true, Bool.not_false, atI_c0, atI_c1, atI_c2]
        exact ⟨b, o, w, rfl, by simp [Sm.dep] at hj; omega, by simp [Sm.dep] at h5; omega, hs.2, hw, hQ⟩
      | i + 2, hp, _ => simp at hp
    · have gt : gTuple [.lst [(sub w o a).pv, (sub w o b).pv]] = some (.tup [(sub w o a).pv, (sub w o b).pv]) := rfl
      simp only [mSeq, mSet, mSetN, mSetX, mExpr, mExprX, mRet, mRetN, mRetX, mIf, mNext, mPass, mBrk, mCnt, mFrz, mAsg, mAsgX, mPar, mParN, mBin, mUn, mArg, mC, mVar, mPeek, mCall, mCons, mNil, mTup, mLst, mBinT, mAsT, mNotT, mAndT, mOrT, mAndE, mOrE, mNotE, mIfE, mChain, mChainT, mSl, mO0, mO1, mIter, mRng1, mRng2, mZip, mEnum, mMut, mMutR, mSubSet, mShare, mMeth, mFor, mLc, mYes, slotV, frzS, tgN, tgT, tgNs, wipeE, retK, mAug, List.foldl_cons, List.foldl_nil, deref_int, deref_str, deref_bl, deref_non, deref_tup, deref_lst, deref_scr, deref_dic, deref_ty, isLst, cellP, List.getElem?_cons_zero, List.getElem?_cons_succ, List.getElem?_nil, List.set_cons_zero, List.set_cons_succ, List.map_cons, List.map_nil, List.length_cons, List.length_nil, List.cons_append, List.nil_append, Option.some.injEq, Slot.val.injEq, Slot.own.injEq, PV.int.injEq, PV.bl.injEq, PV.str.injEq, PV.ref.injEq, PV.lst.injEq, PV.tup.injEq, exists_eq_left', exists_eq_left, and_true, true_and, true_or, or_true, and_self, reduceCtorEq, gAdd, gSubI, gMul, gDiv, gMod, gPow, gLt, gLe, gGt, gGe, gIx, gNeg, eqB_int, gEq_int, gNe_int, gEq_str, gNe_str, if_true, if_false, Bool.false_eq_true, Nat.reduceAdd, Nat.zero_add, Bool.not_true, Bool.not_false, atI_c0, atI_c1, atI_c2, gt]
      refine ⟨_, if_pos (by show (3 : Nat) ≤ sizeLine; decide), hR⟩
theorem words_sub (w : Str) (o : Sm) (k : Str) : ∀ s : Sm, k ∈ Wb.wordsL (sub w o s) ↔ (k ∈ Wb.wordsL s ∧ k ≠ w) ∨ (w ∈ Wb.wordsL s ∧ k ∈ Wb.wordsL o)
  | .val _ => by simp [sub, Wb.wordsL]
  | .wrd x => by
    by_cases e : x = w
    · subst e; simp [sub, Wb.wordsL]
    · have e' : ¬ w = x := fun z => e z.symm
      simp [sub, Wb.wordsL, e, e']
      rintro rfl; exact e
  | .wts _ => by simp [sub, Wb.wordsL]
  | .not a => by simpa [sub, Wb.wordsL] using words_sub w o k a
  | .two _ a b => by
    simp only [sub, Wb.wordsL, List.mem_append, words_sub w o k a, words_sub w o k b, or_and_right]
    constructor
    · rintro ((h | h) | (h | h)) <;> simp [h]
    · rintro ((h | h) | (h | h)) <;> simp [h]
theorem bells_sub (w : Str) (o : Sm) (k : Str) : ∀ s : Sm, k ∈ Wb.bellsL (sub w o s) ↔ k ∈ Wb.bellsL s ∨ (w ∈ Wb.wordsL s ∧ k ∈ Wb.bellsL o)
  | .val _ => by simp [sub, Wb.wordsL, Wb.bellsL]
  | .wrd x => by
    by_cases e : x = w
    · subst e; simp [sub, Wb.wordsL, Wb.bellsL]
    · have e' : ¬ w = x := fun z => e z.symm
      simp [sub, Wb.wordsL, Wb.bellsL, e, e']
  | .wts _ => by simp [sub, Wb.wordsL, Wb.bellsL]
  | .not a => by simpa [sub, Wb.wordsL, Wb.bellsL] using bells_sub w o k a
  | .two _ a b => by
    simp only [sub, Wb.wordsL, Wb.bellsL, List.mem_append, bells_sub w o k a, bells_sub w o k b, or_and_right]
    constructor
    · rintro ((h | h) | (h | h)) <;> simp [h]
    · rintro ((h | h) | (h | h)) <;> simp [h]
theorem okW_sub {w : Str} {o : Sm} (ho : okW o) : ∀ s : Sm, okW s → okW (sub w o s)
  | .val _, _ => trivial
  | .wrd x, h => by unfold sub; split <;> assumption
  | .wts _, h => h
  | .not a, h => okW_sub ho a h
  | .two _ a b, h => ⟨okW_sub ho a h.1, okW_sub ho b h.2⟩
theorem ok_sub2 {ws bs : List Str} {w : Str} {o : Sm} (ho : o.ok ws bs) : ∀ s : Sm, s.ok ws bs → (sub w o s).ok ws bs
  | .val _, h => h
  | .wrd x, h => by unfold sub; split <;> assumption
  | .wts _, h => h
  | .not a, h => ok_sub2 ho a h
  | .two _ a b, h => ⟨ok_sub2 ho a h.1, ok_sub2 ho b h.2⟩
/-- dict([(x, take(m)) for x in ws]) -/
theorem dict_lc {src want : List PV} (hsrc : ∀ n, src.map (deref (pt n)) = want) {ws : List Str} {m : Int} {n0 : Nat} (m0 : 0 < m) (m1 : m < 1073741824) (hn : ws.Nodup) (hl : ws.length ≤ 10) {epw : En} {tg : PV → En → Option En} {me : EM PV} {R : PV → Hi → Prop}
    (step : ∀ x ∈ ws, ∃ ep1, tg (.str x) epw = some ep1 ∧ ∀ (n : Nat) (Q : PV → Hi → Prop), (∀ d : Int, 0 ≤ d → d < m → Q (.tup [.str x, .int d]) (pt n)) → me ep1 (pt (n + 1)) Q)
    (fin : ∀ (n' : Nat) (th : Str → Int), n0 ≤ n' → (∀ x, 0 ≤ th x ∧ th x < m) → R (.lst (prsD ws th)) (pt n')) : lcGo src want tg mYes me epw (ws.map .str) (pt (n0 + 10)) R := by
  refine ⟨fun i acc et1 => ∃ (k : Nat) (th : Str → Int), et1 = pt k ∧ n0 + 10 ≤ k + i ∧ (∀ x, 0 ≤ th x ∧ th x < m) ∧ acc = prsD (ws.take i) th ∧ i ≤ ws.length, ⟨n0 + 10, fun _ => 0, rfl, by omega, fun _ => ⟨Int.le_refl 0, m0⟩, by simp [prsD], Nat.zero_le _⟩, ?_⟩
  rintro i acc et1 ⟨k, th, rfl, hk, ht, rfl, hi⟩
  refine ⟨hsrc _, fun p hp => ?_, fun e => ?_⟩
  · rw [List.getElem?_map] at hp
    obtain ⟨x, hx, rfl⟩ : ∃ x, ws[i]? = some x ∧ p = .str x := by
      cases e : ws[i]? with
      | none => rw [e] at hp; cases hp
      | some c => rw [e] at hp; cases hp; exact ⟨c, rfl, rfl⟩
    have hi2 := (List.getElem?_eq_some_iff.mp hx).1
    obtain ⟨ep1, h1, h2⟩ := step x (List.mem_of_getElem? hx)
    obtain ⟨k2, rfl⟩ : ∃ k2, k = k2 + 1 := ⟨k - 1, by omega⟩
    refine ⟨ep1, h1, ?_⟩
    simp only [mYes, if_true]
    refine h2 k2 _ fun d d0 d1 => ⟨?_, k2, fun y => if y = x then d else th y, rfl, by omega, fun y => ?_, (prs_snoc hn hx).symm, hi2⟩
    · unfold prsD; rw [List.length_map, List.length_take]
      have : (100 : Nat) ≤ sizeLine := by decide
      omega
    · by_cases e : y = x
      · simp only [e, if_true]; exact ⟨d0, d1⟩
      · simp only [e, if_false]; exact ht y
  · have hi2 : i = ws.length := by rw [e, List.length_map]
    subst hi2
    rw [List.take_length]
    exact fin k th (by omega) ht
/-- comprehensions with a test, that change nothing -/
theorem lc_filt {src want : List PV} {tg : PV → En → Option En} {mt : EM Bool} {me : EM PV} {epw : En} {ps : List PV} {et : Hi} {R : PV → Hi → Prop} (keep : PV → Bool) (val : PV → PV) (h : src.map (deref et) = want) (hl : ps.length ≤ sizeLine)
    (step : ∀ p ∈ ps, ∃ ep1, tg p epw = some ep1 ∧ (∀ Q : Bool → Hi → Prop, Q (keep p) et → mt ep1 et Q) ∧ (keep p = true → ∀ Q : PV → Hi → Prop, Q (val p) et → me ep1 et Q)) (fin : R (.lst ((ps.filter keep).map val)) et) : lcGo src want tg mt me epw ps et R := by
  refine ⟨fun i acc et1 => et1 = et ∧ acc = ((ps.take i).filter keep).map val ∧ i ≤ ps.length, ⟨rfl, by simp, Nat.zero_le _⟩, ?_⟩
  rintro i acc et1 ⟨rfl, rfl, hi⟩
  refine ⟨h, fun p hp => ?_, fun e => ?_⟩
  · have hlt := (List.getElem?_eq_some_iff.mp hp).1
    obtain ⟨ep1, h1, h2, h3⟩ := step p (List.mem_of_getElem? hp)
    have et' : (ps.take (i + 1)).filter keep = (ps.take i).filter keep ++ [p].filter keep := by rw [List.take_succ, hp, List.filter_append]; rfl
    refine ⟨ep1, h1, h2 _ ?_⟩
    cases hk : keep p with
    | true =>
      simp only [if_true]
      refine h3 hk _ ⟨?_, rfl, ?_, hlt⟩
      · rw [List.length_map]
        have := List.length_filter_le keep (ps.take i)
        rw [List.length_take] at this; omega
      · rw [et']; simp [hk]
    | false =>
      simp only [Bool.false_eq_true, if_false]
      refine ⟨trivial, ?_, hlt⟩
      rw [et']; simp [hk]
  · rw [e, List.take_length]; exact fin
theorem put_ent {ws : List Str} {f : Str → Int} {w : Str} {v : Int} (h : w ∈ ws) : putP (entD ws f) (.inr w) (.int v) = entD ws (fun x => if x = w then v else f x) := by
  unfold putP
  have : ((entD ws f).any fun kv => decide (kv.1 = .inr w)) = true := by
    rw [List.any_eq_true]
    exact ⟨(.inr w, .int (f w)), List.mem_map.mpr ⟨w, h, rfl⟩, by simp⟩
  rw [this, if_pos rfl]
  unfold entD
  rw [List.map_map]
  refine List.map_congr_left fun x _ => ?_
  by_cases e : x = w
  · subst e; simp
  · have : ¬ (Sum.inr x : Key) = Sum.inr w := by simpa using e
    simp [e, this]
theorem in_texts (w : Str) (l : List Str) : gIn (.str w) (.tup (l.map .str)) = some (.bl (decide (w ∈ l))) := by
  unfold gIn
  have h : inB (.str w) (.tup (l.map .str)) = some (decide (w ∈ l)) := by
    have ha : (l.map PV.str).all flatP = true := by simp [flatP]
    show (if flatP (.str w) = true ∧ (l.map PV.str).all flatP = true then some ((l.map PV.str).any fun y => eqP y (.str w)) else none) = _
    rw [if_pos ⟨rfl, ha⟩, List.any_map]
    congr 1
    induction l with
    | nil => rfl
    | cons x l ih =>
      rw [List.any_cons, ih (by simp [flatP])]
      by_cases e : w = x
      · subst e; simp [eqP]
      · have : ¬ x = w := fun z => e z.symm
        simp [eqP, e, this]
  rw [h]; rfl
theorem cat_texts {l r : List Str} (h : l.length + r.length ≤ 1000) : gCat (.lst (l.map .str)) (.lst (r.map .str)) = some (.lst ((l ++ r).map .str)) := by
  unfold gCat
  have : (1000 : Nat) ≤ sizeLine := by decide
  simp only [List.length_map]
  rw [if_pos (by omega), List.map_append]
def spRight : FSpec := fun args et R => ∃ (n : Nat) (s o : Sm) (w : Str) (ws : List Str), args = [.ref 1, s.pv, .str w, o.pv, .lst (ws.map .str)] ∧ s.dep ≤ 3 ∧ o.dep ≤ 3 ∧ s.ok ws ws ∧ o.ok ws ws ∧ w ∈ ws ∧ (∀ x ∈ ws, isWord x = true) ∧ ws.Nodup ∧ ws.length ≤ 10 ∧ et = pt (n + 20) ∧ ∀ n', n ≤ n' → R (.bl true) (pt n')
theorem right_ok (args : List PV) (et : Hi) (R : PV → Hi → Prop) (h : spRight args et R) : r__law_right spTake (spPutIn 5) (Vl.spVal 6) Sq.spIsSum (Wb.spSet Wb.wordsL) (Wb.spSet Wb.bellsL) (env0 N__law_right args) et (retK R) := by
  obtain ⟨n, s, o, w, ws, rfl, s3, o3, so, oo, hm, hw, hn, hl, rfl, hR⟩ := h
  show r__law_right _ _ _ _ _ _ [.val (.ref 1), .val s.pv, .val (.str w), .val o.pv, .val (.lst (ws.map .str)), .no, .no, .no, .no, .no, .no, .no, .no, .no] _ (retK R)
  have sW := okW_of hw hw s so
  have oW := okW_of hw hw o oo
  unfold r__law_right
  simp only [mSeq, mSet, mSetN, mSetX, mExpr, mExprX, mRet, mRetN, mRetX, mIf, mNext, mPass, mBrk, mCnt, mFrz, mAsg, mAsgX, mPar, mParN, mBin, mUn, mArg, mC, mVar, mPeek, mCall, mCons, mNil, mTup, mLst, mBinT, mAsT, mNotT, mAndT, mOrT, mAndE, mOrE, mNotE, mIfE, mChain, mChainT, mSl, mO0, mO1, mIter, mRng1, mRng2, mZip, mEnum, mMut, mMutR, mSubSet, mShare, mMeth, mFor, mLc, mYes, slotV, frzS, tgN, tgT, tgNs, wipeE, retK, mAug, List.foldl_cons, List.foldl_nil, deref_int, deref_str, deref_bl, deref_non, deref_tup, deref_lst, deref_scr, deref_dic, deref_ty, isLst, cellP, List.getElem?_cons_zero, List.getElem?_cons_succ, List.getElem?_nil, List.set_cons_zero, List.set_cons_succ, List.map_cons, List.map_nil, List.length_cons, List.length_nil, List.cons_append, List.nil_append, Option.some.injEq, Slot.val.injEq, Slot.own.injEq, PV.int.injEq, PV.bl.injEq, PV.str.injEq, PV.ref.injEq, PV.lst.injEq, PV.tup.injEq, exists_eq_left', exists_eq_left, and_true, true_and, true_or, or_true, and_self, reduceCtorEq, gAdd, gSubI, gMul, gDiv, gMod, gPow, gLt, gLe, gGt, gGe, gIx, gNeg, eqB_int, gEq_int, gNe_int, gEq_str, gNe_str, if_true, if_false, Bool.false_eq_true, Nat.reduceAdd, Nat.zero_add, Bool.not_true, Bool.not_false, atI_c0, atI_c1, atI_c2, itemsP]
  refine dict_lc (fun _ => rfl) (n0 := n + 10) (m := 10) (by decide) (by decide) hn hl (tg := tgN 5) (fun x hx => ⟨_, rfl, fun k Q hQ => ?_⟩) fun n1 th h1 ht => ?_
  · simp only [mSeq, mSet, mSetN, mSetX, mExpr, mExprX, mRet, mRetN, mRetX, mIf, mNext, mPass, mBrk, mCnt, mFrz, mAsg, mAsgX, mPar, mParN, mBin, mUn, mArg, mC, mVar, mPeek, mCall, mCons, mNil, mTup, mLst, mBinT, mAsT, mNotT, mAndT, mOrT, mAndE, mOrE, mNotE, mIfE, mChain, mChainT, mSl, mO0, mO1, mIter, mRng1, mRng2, mZip, mEnum, mMut, mMutR, mSubSet, mShare, mMeth, mFor, mLc, mYes, slotV, frzS, tgN, tgT, tgNs, wipeE, retK, mAug, List.foldl_cons, List.foldl_nil, deref_int, deref_str, deref_bl, deref_non, deref_tup, deref_lst, deref_scr, deref_dic, deref_ty, isLst, cellP, List.getElem?_cons_zero, List.getElem?_cons_succ, List.getElem?_nil, List.set_cons_zero, List.set_cons_succ, List.map_cons, List.map_nil, List.length_cons, List.length_nil, List.cons_append, List.nil_append, Option.some.injEq, Slot.val.injEq, Slot.own.injEq, PV.int.injEq, PV.bl.injEq, PV.str.injEq, PV.ref.injEq, PV.lst.injEq, PV.tup.injEq, exists_eq_left', exists_eq_left, and_true, true_and, true_or, or_true, and_self, reduceCtorEq, gAdd, gSubI, gMul, gDiv, gMod, gPow, gLt, gLe, gGt, gGe, gIx, gNeg, eqB_int, gEq_int, gNe_int, gEq_str, gNe_str, if_true, if_false, Bool.false_eq_true, Nat.reduceAdd, Nat.zero_add, Bool.not_true, Bool.not_false, atI_c0, atI_c1, atI_c2]
    refine take_pt (by decide) (by decide) fun d d0 d1 => ⟨by decide, hQ d d0 d1⟩
  have g1 : ∀ f : Str → Int, gDict [.lst (prsD ws f)] = some (.dic (entD ws f)) := fun f => by
    show (pairsP (prsD ws f)).map _ = _
    rw [pairs_prs, Option.map_some, merge_ent hn]
  simp only [mSeq, mSet, mSetN, mSetX, mExpr, mExprX, mRet, mRetN, mRetX, mIf, mNext, mPass, mBrk, mCnt, mFrz, mAsg, mAsgX, mPar, mParN, mBin, mUn, mArg, mC, mVar, mPeek, mCall, mCons, mNil, mTup, mLst, mBinT, mAsT, mNotT, mAndT, mOrT, mAndE, mOrE, mNotE, mIfE, mChain, mChainT, mSl, mO0, mO1, mIter, mRng1, mRng2, mZip, mEnum, mMut, mMutR, mSubSet, mShare, mMeth, mFor, mLc, mYes, slotV, frzS, tgN, tgT, tgNs, wipeE, retK, mAug, List.foldl_cons, List.foldl_nil, deref_int, deref_str, deref_bl, deref_non, deref_tup, deref_lst, deref_scr, deref_dic, deref_ty, isLst, cellP, List.getElem?_cons_zero, List.getElem?_cons_succ, List.getElem?_nil, List.set_cons_zero, List.set_cons_succ, List.map_cons, List.map_nil, List.length_cons, List.length_nil, List.cons_append, List.nil_append, Option.some.injEq, Slot.val.injEq, Slot.own.injEq, PV.int.injEq, PV.bl.injEq, PV.str.injEq, PV.ref.injEq, PV.lst.injEq, PV.tup.injEq, exists_eq_left', exists_eq_left, and_true, true_and, true_or, or_true, and_self, reduceCtorEq, gAdd, gSubI, gMul, gDiv, gMod, gPow, gLt, gLe, gGt, gGe, gIx, gNeg, eqB_int, gEq_int, gNe_int, gEq_str, gNe_str, if_true, if_false, Bool.false_eq_true, Nat.reduceAdd, Nat.zero_add, Bool.not_true, Bool.not_false, atI_c0, atI_c1, atI_c2, g1]
  unfold r__law_right_0
  simp only [mSeq, mSet, mSetN, mSetX, mExpr, mExprX, mRet, mRetN, mRetX, mIf, mNext, mPass, mBrk, mCnt, mFrz, mAsg, mAsgX, mPar, mParN, mBin, mUn, mArg, mC, mVar, mPeek, mCall, mCons, mNil, mTup, mLst, mBinT, mAsT, mNotT, mAndT, mOrT, mAndE, mOrE, mNotE, mIfE, mChain, mChainT, mSl, mO0, mO1, mIter, mRng1, mRng2, mZip, mEnum, mMut, mMutR, mSubSet, mShare, mMeth, mFor, mLc, mYes, slotV, frzS, tgN, tgT, tgNs, wipeE, retK, mAug, List.foldl_cons, List.foldl_nil, deref_int, deref_str, deref_bl, deref_non, deref_tup, deref_lst, deref_scr, deref_dic, deref_ty, isLst, cellP, List.getElem?_cons_zero, List.getElem?_cons_succ, List.getElem?_nil, List.set_cons_zero, List.set_cons_succ, List.map_cons, List.map_nil, List.length_cons, List.length_nil, List.cons_append, List.nil_append, Option.some.injEq, Slot.val.injEq, Slot.own.injEq, PV.int.injEq, PV.bl.injEq, PV.str.injEq, PV.ref.injEq, PV.lst.injEq, PV.tup.injEq, exists_eq_left', exists_eq_left, and_true, true_and, true_or, or_true, and_self, reduceCtorEq, gAdd, gSubI, gMul, gDiv, gMod, gPow, gLt, gLe, gGt, gGe, gIx, gNeg, eqB_int, gEq_int, gNe_int, gEq_str, gNe_str, if_true, if_false, Bool.false_eq_true, Nat.reduceAdd, Nat.zero_add, Bool.not_true, Bool.not_false, atI_c0, atI_c1, atI_c2, itemsP]
  obtain ⟨n2, rfl⟩ : ∃ n2, n1 = n2 + 10 := ⟨n1 - 10, by omega⟩
  refine dict_lc (fun _ => rfl) (n0 := n2) (m := 3) (by decide) (by decide) hn hl (tg := tgN 5) (fun x hx => ⟨_, rfl, fun k Q hQ => ?_⟩) fun n3 wa h3 hwa => ?_
  · simp only [mSeq, mSet, mSetN, mSetX, mExpr, mExprX, mRet, mRetN, mRetX, mIf, mNext, mPass, mBrk, mCnt, mFrz, mAsg, mAsgX, mPar, mParN, mBin, mUn, mArg, mC, mVar, mPeek, mCall, mCons, mNil, mTup, mLst, mBinT, mAsT, mNotT, mAndT, mOrT, mAndE, mOrE, mNotE, mIfE, mChain, mChainT, mSl, mO0, mO1, mIter, mRng1, mRng2, mZip, mEnum, mMut, mMutR, mSubSet, mShare, mMeth, mFor, mLc, mYes, slotV, frzS, tgN, tgT, tgNs, wipeE, retK, mAug, List.foldl_cons, List.foldl_nil, deref_int, deref_str, deref_bl, deref_non, deref_tup, deref_lst, deref_scr, deref_dic, deref_ty, isLst, cellP, List.getElem?_cons_zero, List.getElem?_cons_succ, List.getElem?_nil, List.set_cons_zero, List.set_cons_succ, List.map_cons, List.map_nil, List.length_cons, List.length_nil, List.cons_append, List.nil_append, Option.some.injEq, Slot.val.injEq, Slot.own.injEq, PV.int.injEq, PV.bl.injEq, PV.str.injEq, PV.ref.injEq, PV.lst.injEq, PV.tup.injEq, exists_eq_left', exists_eq_left, and_true, true_and, true_or, or_true, and_self, reduceCtorEq, gAdd, gSubI, gMul, gDiv, gMod, gPow, gLt, gLe, gGt, gGe, gIx, gNeg, eqB_int, gEq_int, gNe_int, gEq_str, gNe_str, if_true, if_false, Bool.false_eq_true, Nat.reduceAdd, Nat.zero_add, Bool.not_true, Bool.not_false, atI_c0, atI_c1, atI_c2]
    refine take_pt (by decide) (by decide) fun d d0 d1 => ⟨by decide, hQ d d0 d1⟩
  simp only [mSeq, mSet, mSetN, mSetX, mExpr, mExprX, mRet, mRetN, mRetX, mIf, mNext, mPass, mBrk, mCnt, mFrz, mAsg, mAsgX, mPar, mParN, mBin, mUn, mArg, mC, mVar, mPeek, mCall, mCons, mNil, mTup, mLst, mBinT, mAsT, mNotT, mAndT, mOrT, mAndE, mOrE, mNotE, mIfE, mChain, mChainT, mSl, mO0, mO1, mIter, mRng1, mRng2, mZip, mEnum, mMut, mMutR, mSubSet, mShare, mMeth, mFor, mLc, mYes, slotV, frzS, tgN, tgT, tgNs, wipeE, retK, mAug, List.foldl_cons, List.foldl_nil, deref_int, deref_str, deref_bl, deref_non, deref_tup, deref_lst, deref_scr, deref_dic, deref_ty, isLst, cellP, List.getElem?_cons_zero, List.getElem?_cons_succ, List.getElem?_nil, List.set_cons_zero, List.set_cons_succ, List.map_cons, List.map_nil, List.length_cons, List.length_nil, List.cons_append, List.nil_append, Option.some.injEq, Slot.val.injEq, Slot.own.injEq, PV.int.injEq, PV.bl.injEq, PV.str.injEq, PV.ref.injEq, PV.lst.injEq, PV.tup.injEq, exists_eq_left', exists_eq_left, and_true, true_and, true_or, or_true, and_self, reduceCtorEq, gAdd, gSubI, gMul, gDiv, gMod, gPow, gLt, gLe, gGt, gGe, gIx, gNeg, eqB_int, gEq_int, gNe_int, gEq_str, gNe_str, if_true, if_false, Bool.false_eq_true, Nat.reduceAdd, Nat.zero_add, Bool.not_true, Bool.not_false, atI_c0, atI_c1, atI_c2, g1]
  unfold r__law_right_1
  simp only [mSeq, mSet, mSetN, mSetX, mExpr, mExprX, mRet, mRetN, mRetX, mIf, mNext, mPass, mBrk, mCnt, mFrz, mAsg, mAsgX, mPar, mParN, mBin, mUn, mArg, mC, mVar, mPeek, mCall, mCons, mNil, mTup, mLst, mBinT, mAsT, mNotT, mAndT, mOrT, mAndE, mOrE, mNotE, mIfE, mChain, mChainT, mSl, mO0, mO1, mIter, mRng1, mRng2, mZip, mEnum, mMut, mMutR, mSubSet, mShare, mMeth, mFor, mLc, mYes, slotV, frzS, tgN, tgT, tgNs, wipeE, retK, mAug, List.foldl_cons, List.foldl_nil, deref_int, deref_str, deref_bl, deref_non, deref_tup, deref_lst, deref_scr, deref_dic, deref_ty, isLst, cellP, List.getElem?_cons_zero, List.getElem?_cons_succ, List.getElem?_nil, List.set_cons_zero, List.set_cons_succ, List.map_cons, List.map_nil, List.length_cons, List.length_nil, List.cons_append, List.nil_append, Option.some.injEq, Slot.val.injEq, Slot.own.injEq, PV.int.injEq, PV.bl.injEq, PV.str.injEq, PV.ref.injEq, PV.lst.injEq, PV.tup.injEq, exists_eq_left', exists_eq_left, and_true, true_and, true_or, or_true, and_self, reduceCtorEq, gAdd, gSubI, gMul, gDiv, gMod, gPow, gLt, gLe, gGt, gGe, gIx, gNeg, eqB_int, gEq_int, gNe_int, gEq_str, gNe_str, if_true, if_false, Bool.false_eq_true, Nat.reduceAdd, Nat.zero_add, Bool.not_true, Bool.not_false, atI_c0, atI_c1, atI_c2]
  refine ⟨s, o, w, rfl, by omega, by omega, sW, hw w hm, ?_⟩
  unfold r__law_right_2
  simp only [mSeq, mSet, mSetN, mSetX, mExpr, mExprX, mRet, mRetN, mRetX, mIf, mNext, mPass, mBrk, mCnt, mFrz, mAsg, mAsgX, mPar, mParN, mBin, mUn, mArg, mC, mVar, mPeek, mCall, mCons, mNil, mTup, mLst, mBinT, mAsT, mNotT, mAndT, mOrT, mAndE, mOrE, mNotE, mIfE, mChain, mChainT, mSl, mO0, mO1, mIter, mRng1, mRng2, mZip, mEnum, mMut, mMutR, mSubSet, mShare, mMeth, mFor, mLc, mYes, slotV, frzS, tgN, tgT, tgNs, wipeE, retK, mAug, List.foldl_cons, List.foldl_nil, deref_int, deref_str, deref_bl, deref_non, deref_tup, deref_lst, deref_scr, deref_dic, deref_ty, isLst, cellP, List.getElem?_cons_zero, List.getElem?_cons_succ, List.getElem?_nil, List.set_cons_zero, List.set_cons_succ, List.map_cons, List.map_nil, List.length_cons, List.length_nil, List.cons_append, List.nil_append, Option.some.injEq, Slot.val.injEq, Slot.own.injEq, PV.int.injEq, PV.bl.injEq, PV.str.injEq, PV.ref.injEq, PV.lst.injEq, PV.tup.injEq, exists_eq_left', exists_eq_left, and_true, true_and, true_or, or_true, and_self, reduceCtorEq, gAdd, gSubI, gMul, gDiv, gMod, gPow, gLt, gLe, gGt, gGe, gIx, gNeg, eqB_int, gEq_int, gNe_int, gEq_str, gNe_str, if_true, if_false, Bool.false_eq_true, Nat.reduceAdd, Nat.zero_add, Bool.not_true, Bool.not_false, atI_c0, atI_c1, atI_c2]
  refine ⟨o, _, _, th, wa, rfl, by omega, inD_ok o oo, ?_⟩
  unfold r__law_right_3
  have g2 : gDict [.dic (entD ws th)] = some (.dic (entD ws th)) := rfl
  simp only [mSeq, mSet, mSetN, mSetX, mExpr, mExprX, mRet, mRetN, mRetX, mIf, mNext, mPass, mBrk, mCnt, mFrz, mAsg, mAsgX, mPar, mParN, mBin, mUn, mArg, mC, mVar, mPeek, mCall, mCons, mNil, mTup, mLst, mBinT, mAsT, mNotT, mAndT, mOrT, mAndE, mOrE, mNotE, mIfE, mChain, mChainT, mSl, mO0, mO1, mIter, mRng1, mRng2, mZip, mEnum, mMut, mMutR, mSubSet, mShare, mMeth, mFor, mLc, mYes, slotV, frzS, tgN, tgT, tgNs, wipeE, retK, mAug, List.foldl_cons, List.foldl_nil, deref_int, deref_str, deref_bl, deref_non, deref_tup, deref_lst, deref_scr, deref_dic, deref_ty, isLst, cellP, List.getElem?_cons_zero, List.getElem?_cons_succ, List.getElem?_nil, List.set_cons_zero, List.set_cons_succ, List.map_cons, List.map_nil, List.length_cons, List.length_nil, List.cons_append, List.nil_append, Option.some.injEq, Slot.val.injEq, Slot.own.injEq, PV.int.injEq, PV.bl.injEq, PV.str.injEq, PV.ref.injEq, PV.lst.injEq, PV.tup.injEq, exists_eq_left', exists_eq_left, and_true, true_and, true_or, or_true, and_self, reduceCtorEq, gAdd, gSubI, gMul, gDiv, gMod, gPow, gLt, gLe, gGt, gGe, gIx, gNeg, eqB_int, gEq_int, gNe_int, gEq_str, gNe_str, if_true, if_false, Bool.false_eq_true, Nat.reduceAdd, Nat.zero_add, Bool.not_true, Bool.not_false, atI_c0, atI_c1, atI_c2, g2]
  unfold r__law_right_4
  simp only [mSeq, mSet, mSetN, mSetX, mExpr, mExprX, mRet, mRetN, mRetX, mIf, mNext, mPass, mBrk, mCnt, mFrz, mAsg, mAsgX, mPar, mParN, mBin, mUn, mArg, mC, mVar, mPeek, mCall, mCons, mNil, mTup, mLst, mBinT, mAsT, mNotT, mAndT, mOrT, mAndE, mOrE, mNotE, mIfE, mChain, mChainT, mSl, mO0, mO1, mIter, mRng1, mRng2, mZip, mEnum, mMut, mMutR, mSubSet, mShare, mMeth, mFor, mLc, mYes, slotV, frzS, tgN, tgT, tgNs, wipeE, retK, mAug, List.foldl_cons, List.foldl_nil, deref_int, deref_str, deref_bl, deref_non, deref_tup, deref_lst, deref_scr, deref_dic, deref_ty, isLst, cellP, List.getElem?_cons_zero, List.getElem?_cons_succ, List.getElem?_nil, List.set_cons_zero, List.set_cons_succ, List.map_cons, List.map_nil, List.length_cons, List.length_nil, List.cons_append, List.nil_append, Option.some.injEq, Slot.val.injEq, Slot.own.injEq, PV.int.injEq, PV.bl.injEq, PV.str.injEq, PV.ref.injEq, PV.lst.injEq, PV.tup.injEq, exists_eq_left', exists_eq_left, and_true, true_and, true_or, or_true, and_self, reduceCtorEq, gAdd, gSubI, gMul, gDiv, gMod, gPow, gLt, gLe, gGt, gGe, gIx, gNeg, eqB_int, gEq_int, gNe_int, gEq_str, gNe_str, if_true, if_false, Bool.false_eq_true, Nat.reduceAdd, Nat.zero_add, Bool.not_true, Bool.not_false, atI_c0, atI_c1, atI_c2, mDPutN]
  have b9 : ∀ x, 0 ≤ th x ∧ th x ≤ 9 := fun x => by have := ht x; omega
  obtain ⟨iv0, iv9⟩ := ev_bd (th := th) (wa := wa) b9 o oo
  generalize hiv : Vl.ev th wa o = iv at *
  refine ⟨_, rfl, .inr w, rfl, by unfold entD; rw [List.length_map]; have : (100 : Nat) ≤ sizeLine := by decide
                                  omega, ?_⟩
  rw [put_ent hm]
  unfold r__law_right_5
  simp only [mSeq, mSet, mSetN, mSetX, mExpr, mExprX, mRet, mRetN, mRetX, mIf, mNext, mPass, mBrk, mCnt, mFrz, mAsg, mAsgX, mPar, mParN, mBin, mUn, mArg, mC, mVar, mPeek, mCall, mCons, mNil, mTup, mLst, mBinT, mAsT, mNotT, mAndT, mOrT, mAndE, mOrE, mNotE, mIfE, mChain, mChainT, mSl, mO0, mO1, mIter, mRng1, mRng2, mZip, mEnum, mMut, mMutR, mSubSet, mShare, mMeth, mFor, mLc, mYes, slotV, frzS, tgN, tgT, tgNs, wipeE, retK, mAug, List.foldl_cons, List.foldl_nil, deref_int, deref_str, deref_bl, deref_non, deref_tup, deref_lst, deref_scr, deref_dic, deref_ty, isLst, cellP, List.getElem?_cons_zero, List.getElem?_cons_succ, List.getElem?_nil, List.set_cons_zero, List.set_cons_succ, List.map_cons, List.map_nil, List.length_cons, List.length_nil, List.cons_append, List.nil_append, Option.some.injEq, Slot.val.injEq, Slot.own.injEq, PV.int.injEq, PV.bl.injEq, PV.str.injEq, PV.ref.injEq, PV.lst.injEq, PV.tup.injEq, exists_eq_left', exists_eq_left, and_true, true_and, true_or, or_true, and_self, reduceCtorEq, gAdd, gSubI, gMul, gDiv, gMod, gPow, gLt, gLe, gGt, gGe, gIx, gNeg, eqB_int, gEq_int, gNe_int, gEq_str, gNe_str, if_true, if_false, Bool.false_eq_true, Nat.reduceAdd, Nat.zero_add, Bool.not_true, Bool.not_false, atI_c0, atI_c1, atI_c2]
  have wok : (sub w o s).ok ws ws := ok_sub2 oo s so
  have wdep : (sub w o s).dep ≤ 5 := by have := sub_dep w o s; omega
  have wW := okW_sub (w := w) oW s sW
  have isu : Sq.sumIn 5 (sub w o s).pv = true := by rw [Sq.sumIn_sm hw hw _ 5 wok, decide_eq_true_eq]; exact wdep
  refine ⟨_, rfl, Sq.fits_sm hw hw _ 5 wok, ?_⟩
  rw [isu]
  have gis : gIsNot (.bl true) (.bl true) = some (.bl false) := rfl
  simp only [mSeq, mSet, mSetN, mSetX, mExpr, mExprX, mRet, mRetN, mRetX, mIf, mNext, mPass, mBrk, mCnt, mFrz, mAsg, mAsgX, mPar, mParN, mBin, mUn, mArg, mC, mVar, mPeek, mCall, mCons, mNil, mTup, mLst, mBinT, mAsT, mNotT, mAndT, mOrT, mAndE, mOrE, mNotE, mIfE, mChain, mChainT, mSl, mO0, mO1, mIter, mRng1, mRng2, mZip, mEnum, mMut, mMutR, mSubSet, mShare, mMeth, mFor, mLc, mYes, slotV, frzS, tgN, tgT, tgNs, wipeE, retK, mAug, List.foldl_cons, List.foldl_nil, deref_int, deref_str, deref_bl, deref_non, deref_tup, deref_lst, deref_scr, deref_dic, deref_ty, isLst, cellP, List.getElem?_cons_zero, List.getElem?_cons_succ, List.getElem?_nil, List.set_cons_zero, List.set_cons_succ, List.map_cons, List.map_nil, List.length_cons, List.length_nil, List.cons_append, List.nil_append, Option.some.injEq, Slot.val.injEq, Slot.own.injEq, PV.int.injEq, PV.bl.injEq, PV.str.injEq, PV.ref.injEq, PV.lst.injEq, PV.tup.injEq, exists_eq_left', exists_eq_left, and_true, true_and, true_or, or_true, and_self, reduceCtorEq, gAdd, gSubI, gMul, gDiv, gMod, gPow, gLt, gLe, gGt, gGe, gIx, gNeg, eqB_int, gEq_int, gNe_int, gEq_str, gNe_str, if_true, if_false, Bool.false_eq_true, Nat.reduceAdd, Nat.zero_add, Bool.not_true, Bool.not_false, atI_c0, atI_c1, atI_c2, gis]
  refine ⟨sub w o s, _, _, th, wa, rfl, by omega, inD_ok _ wok, ?_⟩
  simp only [mSeq, mSet, mSetN, mSetX, mExpr, mExprX, mRet, mRetN, mRetX, mIf, mNext, mPass, mBrk, mCnt, mFrz, mAsg, mAsgX, mPar, mParN, mBin, mUn, mArg, mC, mVar, mPeek, mCall, mCons, mNil, mTup, mLst, mBinT, mAsT, mNotT, mAndT, mOrT, mAndE, mOrE, mNotE, mIfE, mChain, mChainT, mSl, mO0, mO1, mIter, mRng1, mRng2, mZip, mEnum, mMut, mMutR, mSubSet, mShare, mMeth, mFor, mLc, mYes, slotV, frzS, tgN, tgT, tgNs, wipeE, retK, mAug, List.foldl_cons, List.foldl_nil, deref_int, deref_str, deref_bl, deref_non, deref_tup, deref_lst, deref_scr, deref_dic, deref_ty, isLst, cellP, List.getElem?_cons_zero, List.getElem?_cons_succ, List.getElem?_nil, List.set_cons_zero, List.set_cons_succ, List.map_cons, List.map_nil, List.length_cons, List.length_nil, List.cons_append, List.nil_append, Option.some.injEq, Slot.val.injEq, Slot.own.injEq, PV.int.injEq, PV.bl.injEq, PV.str.injEq, PV.ref.injEq, PV.lst.injEq, PV.tup.injEq, exists_eq_left', exists_eq_left, and_true, true_and, true_or, or_true, and_self, reduceCtorEq, gAdd, gSubI, gMul, gDiv, gMod, gPow, gLt, gLe, gGt, gGe, gIx, gNeg, eqB_int, gEq_int, gNe_int, gEq_str, gNe_str, if_true, if_false, Bool.false_eq_true, Nat.reduceAdd, Nat.zero_add, Bool.not_true, Bool.not_false, atI_c0, atI_c1, atI_c2]
  refine ⟨s, _, _, (fun x => if x = w then iv else th x), wa, rfl, by omega, inD_ok s so, ?_⟩
  have ev1 : Vl.ev th wa (sub w o s) = Vl.ev (fun x => if x = w then iv else th x) wa s := by rw [sub_ev, hiv]
  rw [ev1]
  simp only [mSeq, mSet, mSetN, mSetX, mExpr, mExprX, mRet, mRetN, mRetX, mIf, mNext, mPass, mBrk, mCnt, mFrz, mAsg, mAsgX, mPar, mParN, mBin, mUn, mArg, mC, mVar, mPeek, mCall, mCons, mNil, mTup, mLst, mBinT, mAsT, mNotT, mAndT, mOrT, mAndE, mOrE, mNotE, mIfE, mChain, mChainT, mSl, mO0, mO1, mIter, mRng1, mRng2, mZip, mEnum, mMut, mMutR, mSubSet, mShare, mMeth, mFor, mLc, mYes, slotV, frzS, tgN, tgT, tgNs, wipeE, retK, mAug, List.foldl_cons, List.foldl_nil, deref_int, deref_str, deref_bl, deref_non, deref_tup, deref_lst, deref_scr, deref_dic, deref_ty, isLst, cellP, List.getElem?_cons_zero, List.getElem?_cons_succ, List.getElem?_nil, List.set_cons_zero, List.set_cons_succ, List.map_cons, List.map_nil, List.length_cons, List.length_nil, List.cons_append, List.nil_append, Option.some.injEq, Slot.val.injEq, Slot.own.injEq, PV.int.injEq, PV.bl.injEq, PV.str.injEq, PV.ref.injEq, PV.lst.injEq, PV.tup.injEq, exists_eq_left', exists_eq_left, and_true, true_and, true_or, or_true, and_self, reduceCtorEq, gAdd, gSubI, gMul, gDiv, gMod, gPow, gLt, gLe, gGt, gGe, gIx, gNeg, eqB_int, gEq_int, gNe_int, gEq_str, gNe_str, if_true, if_false, Bool.false_eq_true, Nat.reduceAdd, Nat.zero_add, Bool.not_true, Bool.not_false, atI_c0, atI_c1, atI_c2, decide_true]
  unfold r__law_right_7
  simp only [mSeq, mSet, mSetN, mSetX, mExpr, mExprX, mRet, mRetN, mRetX, mIf, mNext, mPass, mBrk, mCnt, mFrz, mAsg, mAsgX, mPar, mParN, mBin, mUn, mArg, mC, mVar, mPeek, mCall, mCons, mNil, mTup, mLst, mBinT, mAsT, mNotT, mAndT, mOrT, mAndE, mOrE, mNotE, mIfE, mChain, mChainT, mSl, mO0, mO1, mIter, mRng1, mRng2, mZip, mEnum, mMut, mMutR, mSubSet, mShare, mMeth, mFor, mLc, mYes, slotV, frzS, tgN, tgT, tgNs, wipeE, retK, mAug, List.foldl_cons, List.foldl_nil, deref_int, deref_str, deref_bl, deref_non, deref_tup, deref_lst, deref_scr, deref_dic, deref_ty, isLst, cellP, List.getElem?_cons_zero, List.getElem?_cons_succ, List.getElem?_nil, List.set_cons_zero, List.set_cons_succ, List.map_cons, List.map_nil, List.length_cons, List.length_nil, List.cons_append, List.nil_append, Option.some.injEq, Slot.val.injEq, Slot.own.injEq, PV.int.injEq, PV.bl.injEq, PV.str.injEq, PV.ref.injEq, PV.lst.injEq, PV.tup.injEq, exists_eq_left', exists_eq_left, and_true, true_and, true_or, or_true, and_self, reduceCtorEq, gAdd, gSubI, gMul, gDiv, gMod, gPow, gLt, gLe, gGt, gGe, gIx, gNeg, eqB_int, gEq_int, gNe_int, gEq_str, gNe_str, if_true, if_false, Bool.false_eq_true, Nat.reduceAdd, Nat.zero_add, Bool.not_true, Bool.not_false, atI_c0, atI_c1, atI_c2]
  refine ⟨s, rfl, by omega, ?_⟩
  simp only [mSeq, mSet, mSetN, mSetX, mExpr, mExprX, mRet, mRetN, mRetX, mIf, mNext, mPass, mBrk, mCnt, mFrz, mAsg, mAsgX, mPar, mParN, mBin, mUn, mArg, mC, mVar, mPeek, mCall, mCons, mNil, mTup, mLst, mBinT, mAsT, mNotT, mAndT, mOrT, mAndE, mOrE, mNotE, mIfE, mChain, mChainT, mSl, mO0, mO1, mIter, mRng1, mRng2, mZip, mEnum, mMut, mMutR, mSubSet, mShare, mMeth, mFor, mLc, mYes, slotV, frzS, tgN, tgT, tgNs, wipeE, retK, mAug, List.foldl_cons, List.foldl_nil, deref_int, deref_str, deref_bl, deref_non, deref_tup, deref_lst, deref_scr, deref_dic, deref_ty, isLst, cellP, List.getElem?_cons_zero, List.getElem?_cons_succ, List.getElem?_nil, List.set_cons_zero, List.set_cons_succ, List.map_cons, List.map_nil, List.length_cons, List.length_nil, List.cons_append, List.nil_append, Option.some.injEq, Slot.val.injEq, Slot.own.injEq, PV.int.injEq, PV.bl.injEq, PV.str.injEq, PV.ref.injEq, PV.lst.injEq, PV.tup.injEq, exists_eq_left', exists_eq_left, and_true, true_and, true_or, or_true, and_self, reduceCtorEq, gAdd, gSubI, gMul, gDiv, gMod, gPow, gLt, gLe, gGt, gGe, gIx, gNeg, eqB_int, gEq_int, gNe_int, gEq_str, gNe_str, if_true, if_false, Bool.false_eq_true, Nat.reduceAdd, Nat.zero_add, Bool.not_true, Bool.not_false, atI_c0, atI_c1, atI_c2, itemsP]
  have lw := Wb.words_len s
  have lb := Wb.bells_len s
  have ls := Wb.lvs_small (s := s) (by omega)
  have lwo := Wb.words_len o
  have lbo := Wb.bells_len o
  have lso := Wb.lvs_small (s := o) (by omega)
  obtain ⟨sw1, sb1⟩ := okW_words s sW
  obtain ⟨ow1, ob1⟩ := okW_words o oW
  have nW : (setS (Wb.wordsL s)).length ≤ 16 := Nat.le_trans (set_len _) (by omega)
  have nB : (setS (Wb.bellsL s)).length ≤ 16 := Nat.le_trans (set_len _) (by omega)
  have nWo : (setS (Wb.wordsL o)).length ≤ 16 := Nat.le_trans (set_len _) (by omega)
  have nBo : (setS (Wb.bellsL o)).length ≤ 16 := Nat.le_trans (set_len _) (by omega)
  have big : (1000 : Nat) ≤ sizeLine := by decide
  refine lc_filt (fun p => match p with | .str x => !decide (x = w) | _ => false) id rfl (by rw [List.length_map]; omega) (fun p hp => ?_) ?_
  · obtain ⟨x, hx, rfl⟩ := List.mem_map.mp hp
    refine ⟨_, rfl, fun Q hQ => ?_, fun _ Q hQ => ?_⟩
    · simp only [mSeq, mSet, mSetN, mSetX, mExpr, mExprX, mRet, mRetN, mRetX, mIf, mNext, mPass, mBrk, mCnt, mFrz, mAsg, mAsgX, mPar, mParN, mBin, mUn, mArg, mC, mVar, mPeek, mCall, mCons, mNil, mTup, mLst, mBinT, mAsT, mNotT, mAndT, mOrT, mAndE, mOrE, mNotE, mIfE, mChain, mChainT, mSl, mO0, mO1, mIter, mRng1, mRng2, mZip, mEnum, mMut, mMutR, mSubSet, mShare, mMeth, mFor, mLc, mYes, slotV, frzS, tgN, tgT, tgNs, wipeE, retK, mAug, List.foldl_cons, List.foldl_nil, deref_int, deref_str, deref_bl, deref_non, deref_tup, deref_lst, deref_scr, deref_dic, deref_ty, isLst, cellP, List.getElem?_cons_zero, List.getElem?_cons_succ, List.getElem?_nil, List.set_cons_zero, List.set_cons_succ, List.map_cons, List.map_nil, List.length_cons, List.length_nil, List.cons_append, List.nil_append, Option.some.injEq, Slot.val.injEq, Slot.own.injEq, PV.int.injEq, PV.bl.injEq, PV.str.injEq, PV.ref.injEq, PV.lst.injEq, PV.tup.injEq, exists_eq_left', exists_eq_left, and_true, true_and, true_or, or_true, and_self, reduceCtorEq, gAdd, gSubI, gMul, gDiv, gMod, gPow, gLt, gLe, gGt, gGe, gIx, gNeg, eqB_int, gEq_int, gNe_int, gEq_str, gNe_str, if_true, if_false, Bool.false_eq_true, Nat.reduceAdd, Nat.zero_add, Bool.not_true, Bool.not_false, atI_c0, atI_c1, atI_c2]
      exact hQ
    · simp only [mSeq, mSet, mSetN, mSetX, mExpr, mExprX, mRet, mRetN, mRetX, mIf, mNext, mPass, mBrk, mCnt, mFrz, mAsg, mAsgX, mPar, mParN, mBin, mUn, mArg, mC, mVar, mPeek, mCall, mCons, mNil, mTup, mLst, mBinT, mAsT, mNotT, mAndT, mOrT, mAndE, mOrE, mNotE, mIfE, mChain, mChainT, mSl, mO0, mO1, mIter, mRng1, mRng2, mZip, mEnum, mMut, mMutR, mSubSet, mShare, mMeth, mFor, mLc, mYes, slotV, frzS, tgN, tgT, tgNs, wipeE, retK, mAug, List.foldl_cons, List.foldl_nil, deref_int, deref_str, deref_bl, deref_non, deref_tup, deref_lst, deref_scr, deref_dic, deref_ty, isLst, cellP, List.getElem?_cons_zero, List.getElem?_cons_succ, List.getElem?_nil, List.set_cons_zero, List.set_cons_succ, List.map_cons, List.map_nil, List.length_cons, List.length_nil, List.cons_append, List.nil_append, Option.some.injEq, Slot.val.injEq, Slot.own.injEq, PV.int.injEq, PV.bl.injEq, PV.str.injEq, PV.ref.injEq, PV.lst.injEq, PV.tup.injEq, exists_eq_left', exists_eq_left, and_true, true_and, true_or, or_true, and_self, reduceCtorEq, gAdd, gSubI, gMul, gDiv, gMod, gPow, gLt, gLe, gGt, gGe, gIx, gNeg, eqB_int, gEq_int, gNe_int, gEq_str, gNe_str, if_true, if_false, Bool.false_eq_true, Nat.reduceAdd, Nat.zero_add, Bool.not_true, Bool.not_false, atI_c0, atI_c1, atI_c2]
      exact hQ
  have efl : ((((setS (Wb.wordsL s)).map PV.str).filter (fun p => match p with | .str x => !decide (x = w) | _ => false)).map id) = ((setS (Wb.wordsL s)).filter fun x => !decide (x = w)).map PV.str := by
    rw [List.map_id, List.filter_map]; rfl
  rw [efl]
  generalize hL : (setS (Wb.wordsL s)).filter (fun x => !decide (x = w)) = L
  have mL : ∀ k, k ∈ L ↔ k ∈ Wb.wordsL s ∧ k ≠ w := fun k => by
    rw [← hL, List.mem_filter, set_mem]; simp
  have nL : L.length ≤ 16 := by rw [← hL]; exact Nat.le_trans (List.length_filter_le _ _) nW
  unfold r__law_right_8
  simp only [mSeq, mSet, mSetN, mSetX, mExpr, mExprX, mRet, mRetN, mRetX, mIf, mNext, mPass, mBrk, mCnt, mFrz, mAsg, mAsgX, mPar, mParN, mBin, mUn, mArg, mC, mVar, mPeek, mCall, mCons, mNil, mTup, mLst, mBinT, mAsT, mNotT, mAndT, mOrT, mAndE, mOrE, mNotE, mIfE, mChain, mChainT, mSl, mO0, mO1, mIter, mRng1, mRng2, mZip, mEnum, mMut, mMutR, mSubSet, mShare, mMeth, mFor, mLc, mYes, slotV, frzS, tgN, tgT, tgNs, wipeE, retK, mAug, List.foldl_cons, List.foldl_nil, deref_int, deref_str, deref_bl, deref_non, deref_tup, deref_lst, deref_scr, deref_dic, deref_ty, isLst, cellP, List.getElem?_cons_zero, List.getElem?_cons_succ, List.getElem?_nil, List.set_cons_zero, List.set_cons_succ, List.map_cons, List.map_nil, List.length_cons, List.length_nil, List.cons_append, List.nil_append, Option.some.injEq, Slot.val.injEq, Slot.own.injEq, PV.int.injEq, PV.bl.injEq, PV.str.injEq, PV.ref.injEq, PV.lst.injEq, PV.tup.injEq, exists_eq_left', exists_eq_left, and_true, true_and, true_or, or_true, and_self, reduceCtorEq, gAdd, gSubI, gMul, gDiv, gMod, gPow, gLt, gLe, gGt, gGe, gIx, gNeg, eqB_int, gEq_int, gNe_int, gEq_str, gNe_str, if_true, if_false, Bool.false_eq_true, Nat.reduceAdd, Nat.zero_add, Bool.not_true, Bool.not_false, atI_c0, atI_c1, atI_c2]
  refine ⟨s, rfl, by omega, ?_⟩
  have gl : ∀ l : List Str, gList [.tup (l.map .str)] = some (.lst (l.map .str)) := fun _ => rfl
  simp only [mSeq, mSet, mSetN, mSetX, mExpr, mExprX, mRet, mRetN, mRetX, mIf, mNext, mPass, mBrk, mCnt, mFrz, mAsg, mAsgX, mPar, mParN, mBin, mUn, mArg, mC, mVar, mPeek, mCall, mCons, mNil, mTup, mLst, mBinT, mAsT, mNotT, mAndT, mOrT, mAndE, mOrE, mNotE, mIfE, mChain, mChainT, mSl, mO0, mO1, mIter, mRng1, mRng2, mZip, mEnum, mMut, mMutR, mSubSet, mShare, mMeth, mFor, mLc, mYes, slotV, frzS, tgN, tgT, tgNs, wipeE, retK, mAug, List.foldl_cons, List.foldl_nil, deref_int, deref_str, deref_bl, deref_non, deref_tup, deref_lst, deref_scr, deref_dic, deref_ty, isLst, cellP, List.getElem?_cons_zero, List.getElem?_cons_succ, List.getElem?_nil, List.set_cons_zero, List.set_cons_succ, List.map_cons, List.map_nil, List.length_cons, List.length_nil, List.cons_append, List.nil_append, Option.some.injEq, Slot.val.injEq, Slot.own.injEq, PV.int.injEq, PV.bl.injEq, PV.str.injEq, PV.ref.injEq, PV.lst.injEq, PV.tup.injEq, exists_eq_left', exists_eq_left, and_true, true_and, true_or, or_true, and_self, reduceCtorEq, gAdd, gSubI, gMul, gDiv, gMod, gPow, gLt, gLe, gGt, gGe, gIx, gNeg, eqB_int, gEq_int, gNe_int, gEq_str, gNe_str, if_true, if_false, Bool.false_eq_true, Nat.reduceAdd, Nat.zero_add, Bool.not_true, Bool.not_false, atI_c0, atI_c1, atI_c2, gl]
  unfold r__law_right_9
  simp only [mSeq, mSet, mSetN, mSetX, mExpr, mExprX, mRet, mRetN, mRetX, mIf, mNext, mPass, mBrk, mCnt, mFrz, mAsg, mAsgX, mPar, mParN, mBin, mUn, mArg, mC, mVar, mPeek, mCall, mCons, mNil, mTup, mLst, mBinT, mAsT, mNotT, mAndT, mOrT, mAndE, mOrE, mNotE, mIfE, mChain, mChainT, mSl, mO0, mO1, mIter, mRng1, mRng2, mZip, mEnum, mMut, mMutR, mSubSet, mShare, mMeth, mFor, mLc, mYes, slotV, frzS, tgN, tgT, tgNs, wipeE, retK, mAug, List.foldl_cons, List.foldl_nil, deref_int, deref_str, deref_bl, deref_non, deref_tup, deref_lst, deref_scr, deref_dic, deref_ty, isLst, cellP, List.getElem?_cons_zero, List.getElem?_cons_succ, List.getElem?_nil, List.set_cons_zero, List.set_cons_succ, List.map_cons, List.map_nil, List.length_cons, List.length_nil, List.cons_append, List.nil_append, Option.some.injEq, Slot.val.injEq, Slot.own.injEq, PV.int.injEq, PV.bl.injEq, PV.str.injEq, PV.ref.injEq, PV.lst.injEq, PV.tup.injEq, exists_eq_left', exists_eq_left, and_true, true_and, true_or, or_true, and_self, reduceCtorEq, gAdd, gSubI, gMul, gDiv, gMod, gPow, gLt, gLe, gGt, gGe, gIx, gNeg, eqB_int, gEq_int, gNe_int, gEq_str, gNe_str, if_true, if_false, Bool.false_eq_true, Nat.reduceAdd, Nat.zero_add, Bool.not_true, Bool.not_false, atI_c0, atI_c1, atI_c2]
  refine ⟨s, rfl, by omega, ?_⟩
  simp only [mSeq, mSet, mSetN, mSetX, mExpr, mExprX, mRet, mRetN, mRetX, mIf, mNext, mPass, mBrk, mCnt, mFrz, mAsg, mAsgX, mPar, mParN, mBin, mUn, mArg, mC, mVar, mPeek, mCall, mCons, mNil, mTup, mLst, mBinT, mAsT, mNotT, mAndT, mOrT, mAndE, mOrE, mNotE, mIfE, mChain, mChainT, mSl, mO0, mO1, mIter, mRng1, mRng2, mZip, mEnum, mMut, mMutR, mSubSet, mShare, mMeth, mFor, mLc, mYes, slotV, frzS, tgN, tgT, tgNs, wipeE, retK, mAug, List.foldl_cons, List.foldl_nil, deref_int, deref_str, deref_bl, deref_non, deref_tup, deref_lst, deref_scr, deref_dic, deref_ty, isLst, cellP, List.getElem?_cons_zero, List.getElem?_cons_succ, List.getElem?_nil, List.set_cons_zero, List.set_cons_succ, List.map_cons, List.map_nil, List.length_cons, List.length_nil, List.cons_append, List.nil_append, Option.some.injEq, Slot.val.injEq, Slot.own.injEq, PV.int.injEq, PV.bl.injEq, PV.str.injEq, PV.ref.injEq, PV.lst.injEq, PV.tup.injEq, exists_eq_left', exists_eq_left, and_true, true_and, true_or, or_true, and_self, reduceCtorEq, gAdd, gSubI, gMul, gDiv, gMod, gPow, gLt, gLe, gGt, gGe, gIx, gNeg, eqB_int, gEq_int, gNe_int, gEq_str, gNe_str, if_true, if_false, Bool.false_eq_true, Nat.reduceAdd, Nat.zero_add, Bool.not_true, Bool.not_false, atI_c0, atI_c1, atI_c2, in_texts, set_mem]
  have tail : ∀ (L2 B2 : List Str) (s11 s12 : Mw.Slot), s11 = .val (.lst (L2.map .str)) → s12 = .val (.lst (B2.map .str)) → L2.length ≤ 40 → B2.length ≤ 40 → (∀ k, k ∈ L2 ↔ k ∈ Wb.wordsL (sub w o s)) → (∀ k, k ∈ B2 ↔ k ∈ Wb.bellsL (sub w o s)) →
      ∀ ep, ep = [.val (.ref 1), .val s.pv, .val (.str w), .val o.pv, .val (.lst (ws.map .str)), .no, .val (.dic (entD ws th)), .val (.dic (entD ws wa)), .val (sub w o s).pv, .val (.int iv), .val (.dic (entD ws fun x => if x = w then iv else th x)), s11, s12, .no] →
      r__law_right_11 (Vl.spVal 6) (Wb.spSet Wb.wordsL) (Wb.spSet Wb.bellsL) ep (pt n3) (retK R) := by
    rintro L2 B2 _ _ rfl rfl h1 h2 m1 m2 _ rfl
    unfold r__law_right_11
    simp only [mSeq, mSet, mSetN, mSetX, mExpr, mExprX, mRet, mRetN, mRetX, mIf, mNext, mPass, mBrk, mCnt, mFrz, mAsg, mAsgX, mPar, mParN, mBin, mUn, mArg, mC, mVar, mPeek, mCall, mCons, mNil, mTup, mLst, mBinT, mAsT, mNotT, mAndT, mOrT, mAndE, mOrE, mNotE, mIfE, mChain, mChainT, mSl, mO0, mO1, mIter, mRng1, mRng2, mZip, mEnum, mMut, mMutR, mSubSet, mShare, mMeth, mFor, mLc, mYes, slotV, frzS, tgN, tgT, tgNs, wipeE, retK, mAug, List.foldl_cons, List.foldl_nil, deref_int, deref_str, deref_bl, deref_non, deref_tup, deref_lst, deref_scr, deref_dic, deref_ty, isLst, cellP, List.getElem?_cons_zero, List.getElem?_cons_succ, List.getElem?_nil, List.set_cons_zero, List.set_cons_succ, List.map_cons, List.map_nil, List.length_cons, List.length_nil, List.cons_append, List.nil_append, Option.some.injEq, Slot.val.injEq, Slot.own.injEq, PV.int.injEq, PV.bl.injEq, PV.str.injEq, PV.ref.injEq, PV.lst.injEq, PV.tup.injEq, exists_eq_left', exists_eq_left, and_true, true_and, true_or, or_true, and_self, reduceCtorEq, gAdd, gSubI, gMul, gDiv, gMod, gPow, gLt, gLe, gGt, gGe, gIx, gNeg, eqB_int, gEq_int, gNe_int, gEq_str, gNe_str, if_true, if_false, Bool.false_eq_true, Nat.reduceAdd, Nat.zero_add, Bool.not_true, Bool.not_false, atI_c0, atI_c1, atI_c2]
    refine ⟨sub w o s, rfl, wdep, ?_⟩
    have e1 := Wb.sset (ss := L2) (by omega)
    have e2 := Wb.sset (ss := B2) (by omega)
    have gt : ∀ l : List Str, gTuple [.lst (l.map .str)] = some (.tup (l.map .str)) := fun _ => rfl
    obtain ⟨ww1, wb1⟩ := okW_words (sub w o s) wW
    simp only [mSeq, mSet, mSetN, mSetX, mExpr, mExprX, mRet, mRetN, mRetX, mIf, mNext, mPass, mBrk, mCnt, mFrz, mAsg, mAsgX, mPar, mParN, mBin, mUn, mArg, mC, mVar, mPeek, mCall, mCons, mNil, mTup, mLst, mBinT, mAsT, mNotT, mAndT, mOrT, mAndE, mOrE, mNotE, mIfE, mChain, mChainT, mSl, mO0, mO1, mIter, mRng1, mRng2, mZip, mEnum, mMut, mMutR, mSubSet, mShare, mMeth, mFor, mLc, mYes, slotV, frzS, tgN, tgT, tgNs, wipeE, retK, mAug, List.foldl_cons, List.foldl_nil, deref_int, deref_str, deref_bl, deref_non, deref_tup, deref_lst, deref_scr, deref_dic, deref_ty, isLst, cellP, List.getElem?_cons_zero, List.getElem?_cons_succ, List.getElem?_nil, List.set_cons_zero, List.set_cons_succ, List.map_cons, List.map_nil, List.length_cons, List.length_nil, List.cons_append, List.nil_append, Option.some.injEq, Slot.val.injEq, Slot.own.injEq, PV.int.injEq, PV.bl.injEq, PV.str.injEq, PV.ref.injEq, PV.lst.injEq, PV.tup.injEq, exists_eq_left', exists_eq_left, and_true, true_and, true_or, or_true, and_self, reduceCtorEq, gAdd, gSubI, gMul, gDiv, gMod, gPow, gLt, gLe, gGt, gGe, gIx, gNeg, eqB_int, gEq_int, gNe_int, gEq_str, gNe_str, if_true, if_false, Bool.false_eq_true, Nat.reduceAdd, Nat.zero_add, Bool.not_true, Bool.not_false, atI_c0, atI_c1, atI_c2, mUn, e1, gt]
    have q1 : setS (Wb.wordsL (sub w o s)) = setS L2 := set_eq fun k => (m1 k).symm
    have q2 : setS (Wb.bellsL (sub w o s)) = setS B2 := set_eq fun k => (m2 k).symm
    rw [q1]
    have g1 := gNe_self (l := setS L2) fun x hx => ww1 x ((m1 x).mp ((set_mem _ _).mp hx))
    have g2 := gNe_self (l := setS B2) fun x hx => wb1 x ((m2 x).mp ((set_mem _ _).mp hx))
    simp only [mSeq, mSet, mSetN, mSetX, mExpr, mExprX, mRet, mRetN, mRetX, mIf, mNext, mPass, mBrk, mCnt, mFrz, mAsg, mAsgX, mPar, mParN, mBin, mUn, mArg, mC, mVar, mPeek, mCall, mCons, mNil, mTup, mLst, mBinT, mAsT, mNotT, mAndT, mOrT, mAndE, mOrE, mNotE, mIfE, mChain, mChainT, mSl, mO0, mO1, mIter, mRng1, mRng2, mZip, mEnum, mMut, mMutR, mSubSet, mShare, mMeth, mFor, mLc, mYes, slotV, frzS, tgN, tgT, tgNs, wipeE, retK, mAug, List.foldl_cons, List.foldl_nil, deref_int, deref_str, deref_bl, deref_non, deref_tup, deref_lst, deref_scr, deref_dic, deref_ty, isLst, cellP, List.getElem?_cons_zero, List.getElem?_cons_succ, List.getElem?_nil, List.set_cons_zero, List.set_cons_succ, List.map_cons, List.map_nil, List.length_cons, List.length_nil, List.cons_append, List.nil_append, Option.some.injEq, Slot.val.injEq, Slot.own.injEq, PV.int.injEq, PV.bl.injEq, PV.str.injEq, PV.ref.injEq, PV.lst.injEq, PV.tup.injEq, exists_eq_left', exists_eq_left, and_true, true_and, true_or, or_true, and_self, reduceCtorEq, gAdd, gSubI, gMul, gDiv, gMod, gPow, gLt, gLe, gGt, gGe, gIx, gNeg, eqB_int, gEq_int, gNe_int, gEq_str, gNe_str, if_true, if_false, Bool.false_eq_true, Nat.reduceAdd, Nat.zero_add, Bool.not_true, Bool.not_false, atI_c0, atI_c1, atI_c2, g1]
    refine ⟨sub w o s, rfl, wdep, ?_⟩
    simp only [mSeq, mSet, mSetN, mSetX, mExpr, mExprX, mRet, mRetN, mRetX, mIf, mNext, mPass, mBrk, mCnt, mFrz, mAsg, mAsgX, mPar, mParN, mBin, mUn, mArg, mC, mVar, mPeek, mCall, mCons, mNil, mTup, mLst, mBinT, mAsT, mNotT, mAndT, mOrT, mAndE, mOrE, mNotE, mIfE, mChain, mChainT, mSl, mO0, mO1, mIter, mRng1, mRng2, mZip, mEnum, mMut, mMutR, mSubSet, mShare, mMeth, mFor, mLc, mYes, slotV, frzS, tgN, tgT, tgNs, wipeE, retK, mAug, List.foldl_cons, List.foldl_nil, deref_int, deref_str, deref_bl, deref_non, deref_tup, deref_lst, deref_scr, deref_dic, deref_ty, isLst, cellP, List.getElem?_cons_zero, List.getElem?_cons_succ, List.getElem?_nil, List.set_cons_zero, List.set_cons_succ, List.map_cons, List.map_nil, List.length_cons, List.length_nil, List.cons_append, List.nil_append, Option.some.injEq, Slot.val.injEq, Slot.own.injEq, PV.int.injEq, PV.bl.injEq, PV.str.injEq, PV.ref.injEq, PV.lst.injEq, PV.tup.injEq, exists_eq_left', exists_eq_left, and_true, true_and, true_or, or_true, and_self, reduceCtorEq, gAdd, gSubI, gMul, gDiv, gMod, gPow, gLt, gLe, gGt, gGe, gIx, gNeg, eqB_int, gEq_int, gNe_int, gEq_str, gNe_str, if_true, if_false, Bool.false_eq_true, Nat.reduceAdd, Nat.zero_add, Bool.not_true, Bool.not_false, atI_c0, atI_c1, atI_c2, e2, gt]
    rw [q2]
    simp only [mSeq, mSet, mSetN, mSetX, mExpr, mExprX, mRet, mRetN, mRetX, mIf, mNext, mPass, mBrk, mCnt, mFrz, mAsg, mAsgX, mPar, mParN, mBin, mUn, mArg, mC, mVar, mPeek, mCall, mCons, mNil, mTup, mLst, mBinT, mAsT, mNotT, mAndT, mOrT, mAndE, mOrE, mNotE, mIfE, mChain, mChainT, mSl, mO0, mO1, mIter, mRng1, mRng2, mZip, mEnum, mMut, mMutR, mSubSet, mShare, mMeth, mFor, mLc, mYes, slotV, frzS, tgN, tgT, tgNs, wipeE, retK, mAug, List.foldl_cons, List.foldl_nil, deref_int, deref_str, deref_bl, deref_non, deref_tup, deref_lst, deref_scr, deref_dic, deref_ty, isLst, cellP, List.getElem?_cons_zero, List.getElem?_cons_succ, List.getElem?_nil, List.set_cons_zero, List.set_cons_succ, List.map_cons, List.map_nil, List.length_cons, List.length_nil, List.cons_append, List.nil_append, Option.some.injEq, Slot.val.injEq, Slot.own.injEq, PV.int.injEq, PV.bl.injEq, PV.str.injEq, PV.ref.injEq, PV.lst.injEq, PV.tup.injEq, exists_eq_left', exists_eq_left, and_true, true_and, true_or, or_true, and_self, reduceCtorEq, gAdd, gSubI, gMul, gDiv, gMod, gPow, gLt, gLe, gGt, gGe, gIx, gNeg, eqB_int, gEq_int, gNe_int, gEq_str, gNe_str, if_true, if_false, Bool.false_eq_true, Nat.reduceAdd, Nat.zero_add, Bool.not_true, Bool.not_false, atI_c0, atI_c1, atI_c2, g2]
    unfold r__law_right_13
    simp only [mSeq, mSet, mSetN, mSetX, mExpr, mExprX, mRet, mRetN, mRetX, mIf, mNext, mPass, mBrk, mCnt, mFrz, mAsg, mAsgX, mPar, mParN, mBin, mUn, mArg, mC, mVar, mPeek, mCall, mCons, mNil, mTup, mLst, mBinT, mAsT, mNotT, mAndT, mOrT, mAndE, mOrE, mNotE, mIfE, mChain, mChainT, mSl, mO0, mO1, mIter, mRng1, mRng2, mZip, mEnum, mMut, mMutR, mSubSet, mShare, mMeth, mFor, mLc, mYes, slotV, frzS, tgN, tgT, tgNs, wipeE, retK, mAug, List.foldl_cons, List.foldl_nil, deref_int, deref_str, deref_bl, deref_non, deref_tup, deref_lst, deref_scr, deref_dic, deref_ty, isLst, cellP, List.getElem?_cons_zero, List.getElem?_cons_succ, List.getElem?_nil, List.set_cons_zero, List.set_cons_succ, List.map_cons, List.map_nil, List.length_cons, List.length_nil, List.cons_append, List.nil_append, Option.some.injEq, Slot.val.injEq, Slot.own.injEq, PV.int.injEq, PV.bl.injEq, PV.str.injEq, PV.ref.injEq, PV.lst.injEq, PV.tup.injEq, exists_eq_left', exists_eq_left, and_true, true_and, true_or, or_true, and_self, reduceCtorEq, gAdd, gSubI, gMul, gDiv, gMod, gPow, gLt, gLe, gGt, gGe, gIx, gNeg, eqB_int, gEq_int, gNe_int, gEq_str, gNe_str, if_true, if_false, Bool.false_eq_true, Nat.reduceAdd, Nat.zero_add, Bool.not_true, Bool.not_false, atI_c0, atI_c1, atI_c2]
    refine ⟨by decide, by decide, .not (.not o), _, _, th, wa, rfl, by show o.dep + 1 + 1 ≤ 6; omega, inD_ok (.not (.not o)) oo, ?_⟩
    unfold r__law_right_14
    have ev2 : Vl.ev th wa (.not (.not o)) = min 1 iv := by
      simp only [Vl.ev, hiv]
      by_cases e : iv = 0
      · simp [e]; omega
      · simp only [e, if_false, if_true]; omega
    have ev3 : Vl.ev th wa (.not o) = 1 - min 1 iv := by
      simp only [Vl.ev, hiv]
      by_cases e : iv = 0
      · simp [e]; omega
      · simp only [e, if_false]; omega
    have gm : gMin2 [.int 1, .int iv] = some (.int (min 1 iv)) := by
      unfold gMin2
      simp only []
      split <;> (congr 2; omega)
    rw [ev2]
    simp only [mSeq, mSet, mSetN, mSetX, mExpr, mExprX, mRet, mRetN, mRetX, mIf, mNext, mPass, mBrk, mCnt, mFrz, mAsg, mAsgX, mPar, mParN, mBin, mUn, mArg, mC, mVar, mPeek, mCall, mCons, mNil, mTup, mLst, mBinT, mAsT, mNotT, mAndT, mOrT, mAndE, mOrE, mNotE, mIfE, mChain, mChainT, mSl, mO0, mO1, mIter, mRng1, mRng2, mZip, mEnum, mMut, mMutR, mSubSet, mShare, mMeth, mFor, mLc, mYes, slotV, frzS, tgN, tgT, tgNs, wipeE, retK, mAug, List.foldl_cons, List.foldl_nil, deref_int, deref_str, deref_bl, deref_non, deref_tup, deref_lst, deref_scr, deref_dic, deref_ty, isLst, cellP, List.getElem?_cons_zero, List.getElem?_cons_succ, List.getElem?_nil, List.set_cons_zero, List.set_cons_succ, List.map_cons, List.map_nil, List.length_cons, List.length_nil, List.cons_append, List.nil_append, Option.some.injEq, Slot.val.injEq, Slot.own.injEq, PV.int.injEq, PV.bl.injEq, PV.str.injEq, PV.ref.injEq, PV.lst.injEq, PV.tup.injEq, exists_eq_left', exists_eq_left, and_true, true_and, true_or, or_true, and_self, reduceCtorEq, gAdd, gSubI, gMul, gDiv, gMod, gPow, gLt, gLe, gGt, gGe, gIx, gNeg, eqB_int, gEq_int, gNe_int, gEq_str, gNe_str, if_true, if_false, Bool.false_eq_true, Nat.reduceAdd, Nat.zero_add, Bool.not_true, Bool.not_false, atI_c0, atI_c1, atI_c2, gm, decide_true]
    refine ⟨by decide, .not o, _, _, th, wa, rfl, by show o.dep + 1 ≤ 6; omega, inD_ok (.not o) oo, ?_⟩
    rw [ev3]
    simp only [mSeq, mSet, mSetN, mSetX, mExpr, mExprX, mRet, mRetN, mRetX, mIf, mNext, mPass, mBrk, mCnt, mFrz, mAsg, mAsgX, mPar, mParN, mBin, mUn, mArg, mC, mVar, mPeek, mCall, mCons, mNil, mTup, mLst, mBinT, mAsT, mNotT, mAndT, mOrT, mAndE, mOrE, mNotE, mIfE, mChain, mChainT, mSl, mO0, mO1, mIter, mRng1, mRng2, mZip, mEnum, mMut, mMutR, mSubSet, mShare, mMeth, mFor, mLc, mYes, slotV, frzS, tgN, tgT, tgNs, wipeE, retK, mAug, List.foldl_cons, List.foldl_nil, deref_int, deref_str, deref_bl, deref_non, deref_tup, deref_lst, deref_scr, deref_dic, deref_ty, isLst, cellP, List.getElem?_cons_zero, List.getElem?_cons_succ, List.getElem?_nil, List.set_cons_zero, List.set_cons_succ, List.map_cons, List.map_nil, List.length_cons, List.length_nil, List.cons_append, List.nil_append, Option.some.injEq, Slot.val.injEq, Slot.own.injEq, PV.int.injEq, PV.bl.injEq, PV.str.injEq, PV.ref.injEq, PV.lst.injEq, PV.tup.injEq, exists_eq_left', exists_eq_left, and_true, true_and, true_or, or_true, and_self, reduceCtorEq, gAdd, gSubI, gMul, gDiv, gMod, gPow, gLt, gLe, gGt, gGe, gIx, gNeg, eqB_int, gEq_int, gNe_int, gEq_str, gNe_str, if_true, if_false, Bool.false_eq_true, Nat.reduceAdd, Nat.zero_add, Bool.not_true, Bool.not_false, atI_c0, atI_c1, atI_c2, decide_true]
    exact hR n3 (by omega)
  by_cases hin : w ∈ Wb.wordsL s
  · simp only [hin, decide_true, if_true]
    unfold r__law_right_10
    simp only [mSeq, mSet, mSetN, mSetX, mExpr, mExprX, mRet, mRetN, mRetX, mIf, mNext, mPass, mBrk, mCnt, mFrz, mAsg, mAsgX, mPar, mParN, mBin, mUn, mArg, mC, mVar, mPeek, mCall, mCons, mNil, mTup, mLst, mBinT, mAsT, mNotT, mAndT, mOrT, mAndE, mOrE, mNotE, mIfE, mChain, mChainT, mSl, mO0, mO1, mIter, mRng1, mRng2, mZip, mEnum, mMut, mMutR, mSubSet, mShare, mMeth, mFor, mLc, mYes, slotV, frzS, tgN, tgT, tgNs, wipeE, retK, mAug, List.foldl_cons, List.foldl_nil, deref_int, deref_str, deref_bl, deref_non, deref_tup, deref_lst, deref_scr, deref_dic, deref_ty, isLst, cellP, List.getElem?_cons_zero, List.getElem?_cons_succ, List.getElem?_nil, List.set_cons_zero, List.set_cons_succ, List.map_cons, List.map_nil, List.length_cons, List.length_nil, List.cons_append, List.nil_append, Option.some.injEq, Slot.val.injEq, Slot.own.injEq, PV.int.injEq, PV.bl.injEq, PV.str.injEq, PV.ref.injEq, PV.lst.injEq, PV.tup.injEq, exists_eq_left', exists_eq_left, and_true, true_and, true_or, or_true, and_self, reduceCtorEq, gAdd, gSubI, gMul, gDiv, gMod, gPow, gLt, gLe, gGt, gGe, gIx, gNeg, eqB_int, gEq_int, gNe_int, gEq_str, gNe_str, if_true, if_false, Bool.false_eq_true, Nat.reduceAdd, Nat.zero_add, Bool.not_true, Bool.not_false, atI_c0, atI_c1, atI_c2]
    refine ⟨o, rfl, by omega, ?_⟩
    simp only [mSeq, mSet, mSetN, mSetX, mExpr, mExprX, mRet, mRetN, mRetX, mIf, mNext, mPass, mBrk, mCnt, mFrz, mAsg, mAsgX, mPar, mParN, mBin, mUn, mArg, mC, mVar, mPeek, mCall, mCons, mNil, mTup, mLst, mBinT, mAsT, mNotT, mAndT, mOrT, mAndE, mOrE, mNotE, mIfE, mChain, mChainT, mSl, mO0, mO1, mIter, mRng1, mRng2, mZip, mEnum, mMut, mMutR, mSubSet, mShare, mMeth, mFor, mLc, mYes, slotV, frzS, tgN, tgT, tgNs, wipeE, retK, mAug, List.foldl_cons, List.foldl_nil, deref_int, deref_str, deref_bl, deref_non, deref_tup, deref_lst, deref_scr, deref_dic, deref_ty, isLst, cellP, List.getElem?_cons_zero, List.getElem?_cons_succ, List.getElem?_nil, List.set_cons_zero, List.set_cons_succ, List.map_cons, List.map_nil, List.length_cons, List.length_nil, List.cons_append, List.nil_append, Option.some.injEq, Slot.val.injEq, Slot.own.injEq, PV.int.injEq, PV.bl.injEq, PV.str.injEq, PV.ref.injEq, PV.lst.injEq, PV.tup.injEq, exists_eq_left', exists_eq_left, and_true, true_and, true_or, or_true, and_self, reduceCtorEq, gAdd, gSubI, gMul, gDiv, gMod, gPow, gLt, gLe, gGt, gGe, gIx, gNeg, eqB_int, gEq_int, gNe_int, gEq_str, gNe_str, if_true, if_false, Bool.false_eq_true, Nat.reduceAdd, Nat.zero_add, Bool.not_true, Bool.not_false, atI_c0, atI_c1, atI_c2, gl, cat_texts (l := L) (r := setS (Wb.wordsL o)) (by omega)]
    refine ⟨o, rfl, by omega, ?_⟩
    simp only [mSeq, mSet, mSetN, mSetX, mExpr, mExprX, mRet, mRetN, mRetX, mIf, mNext, mPass, mBrk, mCnt, mFrz, mAsg, mAsgX, mPar, mParN, mBin, mUn, mArg, mC, mVar, mPeek, mCall, mCons, mNil, mTup, mLst, mBinT, mAsT, mNotT, mAndT, mOrT, mAndE, mOrE, mNotE, mIfE, mChain, mChainT, mSl, mO0, mO1, mIter, mRng1, mRng2, mZip, mEnum, mMut, mMutR, mSubSet, mShare, mMeth, mFor, mLc, mYes, slotV, frzS, tgN, tgT, tgNs, wipeE, retK, mAug, List.foldl_cons, List.foldl_nil, deref_int, deref_str, deref_bl, deref_non, deref_tup, deref_lst, deref_scr, deref_dic, deref_ty, isLst, cellP, List.getElem?_cons_zero, List.getElem?_cons_succ, List.getElem?_nil, List.set_cons_zero, List.set_cons_succ, List.map_cons, List.map_nil, List.length_cons, List.length_nil, List.cons_append, List.nil_append, Option.some.injEq, Slot.val.injEq, Slot.own.injEq, PV.int.injEq, PV.bl.injEq, PV.str.injEq, PV.ref.injEq, PV.lst.injEq, PV.tup.injEq, exists_eq_left', exists_eq_left, and_true, true_and, true_or, or_true, and_self, reduceCtorEq, gAdd, gSubI, gMul, gDiv, gMod, gPow, gLt, gLe, gGt, gGe, gIx, gNeg, eqB_int, gEq_int, gNe_int, gEq_str, gNe_str, if_true, if_false, Bool.false_eq_true, Nat.reduceAdd, Nat.zero_add, Bool.not_true, Bool.not_false, atI_c0, atI_c1, atI_c2, gl, cat_texts (l := setS (Wb.bellsL s)) (r := setS (Wb.bellsL o)) (by omega)]
    refine ⟨_, _, rfl, ?_⟩
    refine tail (L ++ setS (Wb.wordsL o)) (setS (Wb.bellsL s) ++ setS (Wb.bellsL o)) _ _ rfl rfl (by simp; omega) (by simp; omega) (fun k => ?_) (fun k => ?_) _ rfl
    · rw [words_sub, List.mem_append, mL, set_mem]; simp [hin]
    · rw [bells_sub, List.mem_append, set_mem, set_mem]; simp [hin]
  · simp only [hin, decide_false, Bool.false_eq_true, if_false]
    refine tail L (setS (Wb.bellsL s)) _ _ rfl rfl (by omega) (by omega) (fun k => ?_) (fun k => ?_) _ rfl
    · rw [words_sub, mL]; simp [hin]
    · rw [bells_sub, set_mem]; simp [hin]
theorem law_ok (args : List PV) (et : Hi) (R : PV → Hi → Prop) (h : spLaw args et R) : r_law spPot spWords (spSum 6) spTake spRight spOf (env0 N_law args) et (retK R) := by
  obtain ⟨ns, rfl, hl, rfl, hR⟩ := h
  show r_law _ _ _ _ _ _ [.val (.scr ns), .no, .no, .no, .no, .no] _ (retK R)
  unfold r_law
  simp only [mSeq, mSet, mSetN, mSetX, mExpr, mExprX, mRet, mRetN, mRetX, mIf, mNext, mPass, mBrk, mCnt, mFrz, mAsg, mAsgX, mPar, mParN, mBin, mUn, mArg, mC, mVar, mPeek, mCall, mCons, mNil, mTup, mLst, mBinT, mAsT, mNotT, mAndT, mOrT, mAndE, mOrE, mNotE, mIfE, mChain, mChainT, mSl, mO0, mO1, mIter, mRng1, mRng2, mZip, mEnum, mMut, mMutR, mSubSet, mShare, mMeth, mFor, mLc, mYes, slotV, frzS, tgN, tgT, tgNs, wipeE, retK, mAug, List.foldl_cons, List.foldl_nil, deref_int, deref_str, deref_bl, deref_non, deref_tup, deref_lst, deref_scr, deref_dic, deref_ty, isLst, cellP, List.getElem?_cons_zero, List.getElem?_cons_succ, List.getElem?_nil, List.set_cons_zero, List.set_cons_succ, List.map_cons, List.map_nil, List.length_cons, List.length_nil, List.cons_append, List.nil_append, Option.some.injEq, Slot.val.injEq, Slot.own.injEq, PV.int.injEq, PV.bl.injEq, PV.str.injEq, PV.ref.injEq, PV.lst.injEq, PV.tup.injEq, exists_eq_left', exists_eq_left, and_true, true_and, true_or, or_true, and_self, reduceCtorEq, gAdd, gSubI, gMul, gDiv, gMod, gPow, gLt, gLe, gGt, gGe, gIx, gNeg, eqB_int, gEq_int, gNe_int, gEq_str, gNe_str, if_true, if_false, Bool.false_eq_true, Nat.reduceAdd, Nat.zero_add, Bool.not_true, Bool.not_false, atI_c0, atI_c1, atI_c2]
  refine ⟨ns, rfl, hl, ?_⟩
  show r_law_0 _ _ _ _ _ [.val (.scr ns), .val (.ref 1), .no, .no, .no, .no] (pt 1099511627776) (retK R)
  unfold r_law_0
  simp only [mSeq, mSet, mSetN, mSetX, mExpr, mExprX, mRet, mRetN, mRetX, mIf, mNext, mPass, mBrk, mCnt, mFrz, mAsg, mAsgX, mPar, mParN, mBin, mUn, mArg, mC, mVar, mPeek, mCall, mCons, mNil, mTup, mLst, mBinT, mAsT, mNotT, mAndT, mOrT, mAndE, mOrE, mNotE, mIfE, mChain, mChainT, mSl, mO0, mO1, mIter, mRng1, mRng2, mZip, mEnum, mMut, mMutR, mSubSet, mShare, mMeth, mFor, mLc, mYes, slotV, frzS, tgN, tgT, tgNs, wipeE, retK, mAug, List.foldl_cons, List.foldl_nil, deref_int, deref_str, deref_bl, deref_non, deref_tup, deref_lst, deref_scr, deref_dic, deref_ty, isLst, cellP, List.getElem?_cons_zero, List.getElem?_cons_succ, List.getElem?_nil, List.set_cons_zero, List.set_cons_succ, List.map_cons, List.map_nil, List.length_cons, List.length_nil, List.cons_append, List.nil_append, Option.some.injEq, Slot.val.injEq, Slot.own.injEq, PV.int.injEq, PV.bl.injEq, PV.str.injEq, PV.ref.injEq, PV.lst.injEq, PV.tup.injEq, exists_eq_left', exists_eq_left, and_true, true_and, true_or, or_true, and_self, reduceCtorEq, gAdd, gSubI, gMul, gDiv, gMod, gPow, gLt, gLe, gGt, gGe, gIx, gNeg, eqB_int, gEq_int, gNe_int, gEq_str, gNe_str, if_true, if_false, Bool.false_eq_true, Nat.reduceAdd, Nat.zero_add, Bool.not_true, Bool.not_false, atI_c0, atI_c1, atI_c2]
  refine ⟨1099511627774, 7, rfl, by decide, rfl, fun ws wl hw hnd => ?_⟩
  unfold r_law_1
  have hlen : gLen [.scr ns] = some (.int ns.length) := rfl
  have hmin : gMin2 [.int 60, .int ns.length] = some (.int (min 60 ns.length : Nat)) := by
    unfold gMin2
    simp only []
    split <;> (congr 2; omega)
  have hmax : gMax2 [.int 16, .int (min 60 ns.length : Nat)] = some (.int (max 16 (min 60 ns.length) : Nat)) := by
    unfold gMax2
    simp only []
    split <;> (congr 2; omega)
  simp only [mSeq, mSet, mSetN, mSetX, mExpr, mExprX, mRet, mRetN, mRetX, mIf, mNext, mPass, mBrk, mCnt, mFrz, mAsg, mAsgX, mPar, mParN, mBin, mUn, mArg, mC, mVar, mPeek, mCall, mCons, mNil, mTup, mLst, mBinT, mAsT, mNotT, mAndT, mOrT, mAndE, mOrE, mNotE, mIfE, mChain, mChainT, mSl, mO0, mO1, mIter, mRng1, mRng2, mZip, mEnum, mMut, mMutR, mSubSet, mShare, mMeth, mFor, mLc, mYes, slotV, frzS, tgN, tgT, tgNs, wipeE, retK, mAug, List.foldl_cons, List.foldl_nil, deref_int, deref_str, deref_bl, deref_non, deref_tup, deref_lst, deref_scr, deref_dic, deref_ty, isLst, cellP, List.getElem?_cons_zero, List.getElem?_cons_succ, List.getElem?_nil, List.set_cons_zero, List.set_cons_succ, List.map_cons, List.map_nil, List.length_cons, List.length_nil, List.cons_append, List.nil_append, Option.some.injEq, Slot.val.injEq, Slot.own.injEq, PV.int.injEq, PV.bl.injEq, PV.str.injEq, PV.ref.injEq, PV.lst.injEq, PV.tup.injEq, exists_eq_left', exists_eq_left, and_true, true_and, true_or, or_true, and_self, reduceCtorEq, gAdd, gSubI, gMul, gDiv, gMod, gPow, gLt, gLe, gGt, gGe, gIx, gNeg, eqB_int, gEq_int, gNe_int, gEq_str, gNe_str, if_true, if_false, Bool.false_eq_true, Nat.reduceAdd, Nat.zero_add, Bool.not_true, Bool.not_false, atI_c0, atI_c1, atI_c2, hlen, hmin, hmax]
  have c4 : ∀ (lo hi : Option Int), gSlA (.lst (ws.map .str)) lo hi = some (.lst ((cutP ws lo hi).map .str)) := fun lo hi => by
    show some (PV.lst (cutP (ws.map PV.str) lo hi)) = _
    rw [cut_map]
  refine ⟨(max 16 (min 60 ns.length) : Nat), rfl, by omega, by omega, fun i ep et1 => ∃ (n1 : Nat) (s3 s4 s5 : Mw.Slot), ep = [.val (.scr ns), .val (.ref 1), .val (.lst (ws.map .str)), s3, s4, s5] ∧ et1 = pt n1 ∧ 1000 * (60 - i) ≤ n1,
    ⟨1099511627774, _, _, _, rfl, rfl, by omega⟩, ?_⟩
  rintro i ep et1 ⟨n1, s3, s4, s5, rfl, rfl, hn1⟩
  refine ⟨rfl, fun p hp => ⟨_, rfl, ?_⟩, fun e => ?_⟩
  · have hi : i < max 16 (min 60 ns.length) := by
      have := (List.getElem?_eq_some_iff.mp hp).1
      simpa [rng] using this
    have hcs : ∀ d : Int, 0 ≤ d → d < 3 → cs (1 + d.toNat) ≤ 46 := fun d d0 d1 => by
      have hd : d.toNat = 0 ∨ d.toNat = 1 ∨ d.toNat = 2 := by omega
      rcases hd with h | h | h <;> rw [h] <;> decide
    unfold r_law_2
    simp only [mSeq, mSet, mSetN, mSetX, mExpr, mExprX, mRet, mRetN, mRetX, mIf, mNext, mPass, mBrk, mCnt, mFrz, mAsg, mAsgX, mPar, mParN, mBin, mUn, mArg, mC, mVar, mPeek, mCall, mCons, mNil, mTup, mLst, mBinT, mAsT, mNotT, mAndT, mOrT, mAndE, mOrE, mNotE, mIfE, mChain, mChainT, mSl, mO0, mO1, mIter, mRng1, mRng2, mZip, mEnum, mMut, mMutR, mSubSet, mShare, mMeth, mFor, mLc, mYes, slotV, frzS, tgN, tgT, tgNs, wipeE, retK, mAug, List.foldl_cons, List.foldl_nil, deref_int, deref_str, deref_bl, deref_non, deref_tup, deref_lst, deref_scr, deref_dic, deref_ty, isLst, cellP, List.getElem?_cons_zero, List.getElem?_cons_succ, List.getElem?_nil, List.set_cons_zero, List.set_cons_succ, List.map_cons, List.map_nil, List.length_cons, List.length_nil, List.cons_append, List.nil_append, Option.some.injEq, Slot.val.injEq, Slot.own.injEq, PV.int.injEq, PV.bl.injEq, PV.str.injEq, PV.ref.injEq, PV.lst.injEq, PV.tup.injEq, exists_eq_left', exists_eq_left, and_true, true_and, true_or, or_true, and_self, reduceCtorEq, gAdd, gSubI, gMul, gDiv, gMod, gPow, gLt, gLe, gGt, gGe, gIx, gNeg, eqB_int, gEq_int, gNe_int, gEq_str, gNe_str, if_true, if_false, Bool.false_eq_true, Nat.reduceAdd, Nat.zero_add, Bool.not_true, Bool.not_false, atI_c0, atI_c1, atI_c2, c4]
    obtain ⟨n2, rfl⟩ : ∃ n2, n1 = n2 + 1 := ⟨n1 - 1, by omega⟩
    refine take_pt (n := n2) (by decide) (by decide) fun d d0 d1 => ?_
    simp only [mSeq, mSet, mSetN, mSetX, mExpr, mExprX, mRet, mRetN, mRetX, mIf, mNext, mPass, mBrk, mCnt, mFrz, mAsg, mAsgX, mPar, mParN, mBin, mUn, mArg, mC, mVar, mPeek, mCall, mCons, mNil, mTup, mLst, mBinT, mAsT, mNotT, mAndT, mOrT, mAndE, mOrE, mNotE, mIfE, mChain, mChainT, mSl, mO0, mO1, mIter, mRng1, mRng2, mZip, mEnum, mMut, mMutR, mSubSet, mShare, mMeth, mFor, mLc, mYes, slotV, frzS, tgN, tgT, tgNs, wipeE, retK, mAug, List.foldl_cons, List.foldl_nil, deref_int, deref_str, deref_bl, deref_non, deref_tup, deref_lst, deref_scr, deref_dic, deref_ty, isLst, cellP, List.getElem?_cons_zero, List.getElem?_cons_succ, List.getElem?_nil, List.set_cons_zero, List.set_cons_succ, List.map_cons, List.map_nil, List.length_cons, List.length_nil, List.cons_append, List.nil_append, Option.some.injEq, Slot.val.injEq, Slot.own.injEq, PV.int.injEq, PV.bl.injEq, PV.str.injEq, PV.ref.injEq, PV.lst.injEq, PV.tup.injEq, exists_eq_left', exists_eq_left, and_true, true_and, true_or, or_true, and_self, reduceCtorEq, gAdd, gSubI, gMul, gDiv, gMod, gPow, gLt, gLe, gGt, gGe, gIx, gNeg, eqB_int, gEq_int, gNe_int, gEq_str, gNe_str, if_true, if_false, Bool.false_eq_true, Nat.reduceAdd, Nat.zero_add, Bool.not_true, Bool.not_false, atI_c0, atI_c1, atI_c2]
    have h46 := hcs d d0 d1
    refine ⟨n2 - cs (1 + d.toNat), 1 + d.toNat, cutP ws none (some 4), cutP ws (some 2) none, by congr 3; simp; omega, by omega, fun x hx => hw x (cut_mem hx), fun x hx => hw x (cut_mem hx), by have := cut_len ws none (some 4); omega, by have := cut_len ws (some 2) none; omega, by congr 1; omega, fun n3 hn3 s hs ho => ?_⟩
    unfold r_law_3
    simp only [mSeq, mSet, mSetN, mSetX, mExpr, mExprX, mRet, mRetN, mRetX, mIf, mNext, mPass, mBrk, mCnt, mFrz, mAsg, mAsgX, mPar, mParN, mBin, mUn, mArg, mC, mVar, mPeek, mCall, mCons, mNil, mTup, mLst, mBinT, mAsT, mNotT, mAndT, mOrT, mAndE, mOrE, mNotE, mIfE, mChain, mChainT, mSl, mO0, mO1, mIter, mRng1, mRng2, mZip, mEnum, mMut, mMutR, mSubSet, mShare, mMeth, mFor, mLc, mYes, slotV, frzS, tgN, tgT, tgNs, wipeE, retK, mAug, List.foldl_cons, List.foldl_nil, deref_int, deref_str, deref_bl, deref_non, deref_tup, deref_lst, deref_scr, deref_dic, deref_ty, isLst, cellP, List.getElem?_cons_zero, List.getElem?_cons_succ, List.getElem?_nil, List.set_cons_zero, List.set_cons_succ, List.map_cons, List.map_nil, List.length_cons, List.length_nil, List.cons_append, List.nil_append, Option.some.injEq, Slot.val.injEq, Slot.own.injEq, PV.int.injEq, PV.bl.injEq, PV.str.injEq, PV.ref.injEq, PV.lst.injEq, PV.tup.injEq, exists_eq_left', exists_eq_left, and_true, true_and, true_or, or_true, and_self, reduceCtorEq, gAdd, gSubI, gMul, gDiv, gMod, gPow, gLt, gLe, gGt, gGe, gIx, gNeg, eqB_int, gEq_int, gNe_int, gEq_str, gNe_str, if_true, if_false, Bool.false_eq_true, Nat.reduceAdd, Nat.zero_add, Bool.not_true, Bool.not_false, atI_c0, atI_c1, atI_c2, c4]
    obtain ⟨n4, rfl⟩ : ∃ n4, n3 = n4 + 1 := ⟨n3 - 1, by omega⟩
    refine take_pt (n := n4) (by decide) (by decide) fun d' d0' d1' => ?_
    simp only [mSeq, mSet, mSetN, mSetX, mExpr, mExprX, mRet, mRetN, mRetX, mIf, mNext, mPass, mBrk, mCnt, mFrz, mAsg, mAsgX, mPar, mParN, mBin, mUn, mArg, mC, mVar, mPeek, mCall, mCons, mNil, mTup, mLst, mBinT, mAsT, mNotT, mAndT, mOrT, mAndE, mOrE, mNotE, mIfE, mChain, mChainT, mSl, mO0, mO1, mIter, mRng1, mRng2, mZip, mEnum, mMut, mMutR, mSubSet, mShare, mMeth, mFor, mLc, mYes, slotV, frzS, tgN, tgT, tgNs, wipeE, retK, mAug, List.foldl_cons, List.foldl_nil, deref_int, deref_str, deref_bl, deref_non, deref_tup, deref_lst, deref_scr, deref_dic, deref_ty, isLst, cellP, List.getElem?_cons_zero, List.getElem?_cons_succ, List.getElem?_nil, List.set_cons_zero, List.set_cons_succ, List.map_cons, List.map_nil, List.length_cons, List.length_nil, List.cons_append, List.nil_append, Option.some.injEq, Slot.val.injEq, Slot.own.injEq, PV.int.injEq, PV.bl.injEq, PV.str.injEq, PV.ref.injEq, PV.lst.injEq, PV.tup.injEq, exists_eq_left', exists_eq_left, and_true, true_and, true_or, or_true, and_self, reduceCtorEq, gAdd, gSubI, gMul, gDiv, gMod, gPow, gLt, gLe, gGt, gGe, gIx, gNeg, eqB_int, gEq_int, gNe_int, gEq_str, gNe_str, if_true, if_false, Bool.false_eq_true, Nat.reduceAdd, Nat.zero_add, Bool.not_true, Bool.not_false, atI_c0, atI_c1, atI_c2]
    have h46' := hcs d' d0' d1'
    refine ⟨n4 - cs (1 + d'.toNat), 1 + d'.toNat, ws, cutP ws (some 4) none, by congr 3; simp; omega, by omega, hw, fun x hx => hw x (cut_mem hx), by omega, by have := cut_len ws (some 4) none; omega, by congr 1; omega, fun n5 hn5 o hs' ho' => ?_⟩
    unfold r_law_4
    simp only [mSeq, mSet, mSetN, mSetX, mExpr, mExprX, mRet, mRetN, mRetX, mIf, mNext, mPass, mBrk, mCnt, mFrz, mAsg, mAsgX, mPar, mParN, mBin, mUn, mArg, mC, mVar, mPeek, mCall, mCons, mNil, mTup, mLst, mBinT, mAsT, mNotT, mAndT, mOrT, mAndE, mOrE, mNotE, mIfE, mChain, mChainT, mSl, mO0, mO1, mIter, mRng1, mRng2, mZip, mEnum, mMut, mMutR, mSubSet, mShare, mMeth, mFor, mLc, mYes, slotV, frzS, tgN, tgT, tgNs, wipeE, retK, mAug, List.foldl_cons, List.foldl_nil, deref_int, deref_str, deref_bl, deref_non, deref_tup, deref_lst, deref_scr, deref_dic, deref_ty, isLst, cellP, List.getElem?_cons_zero, List.getElem?_cons_succ, List.getElem?_nil, List.set_cons_zero, List.set_cons_succ, List.map_cons, List.map_nil, List.length_cons, List.length_nil, List.cons_append, List.nil_append, Option.some.injEq, Slot.val.injEq, Slot.own.injEq, PV.int.injEq, PV.bl.injEq, PV.str.injEq, PV.ref.injEq, PV.lst.injEq, PV.tup.injEq, exists_eq_left', exists_eq_left, and_true, true_and, true_or, or_true, and_self, reduceCtorEq, gAdd, gSubI, gMul, gDiv, gMod, gPow, gLt, gLe, gGt, gGe, gIx, gNeg, eqB_int, gEq_int, gNe_int, gEq_str, gNe_str, if_true, if_false, Bool.false_eq_true, Nat.reduceAdd, Nat.zero_add, Bool.not_true, Bool.not_false, atI_c0, atI_c1, atI_c2, c4]
    have hso := ok_sub (fun x hx => cut_mem hx) (fun x hx => cut_mem hx) s ho
    have hoo := ok_sub (fun x hx => hx) (fun x hx => cut_mem hx) o ho'
    obtain ⟨n6, rfl⟩ : ∃ n6, n5 = n6 + 1 := ⟨n5 - 1, by omega⟩
    have c0 : 0 < (cutP ws none (some 4)).length := by
      unfold cutP HT.sIx
      rw [wl]; simp [wl]
    refine of_intro (by rw [List.length_map]; exact c0) (by rw [List.length_map]; have := cut_len ws none (some 4); omega) fun x hx => ?_
    obtain ⟨w, hwm, rfl⟩ := List.mem_map.mp hx
    obtain ⟨n7, rfl⟩ : ∃ n7, n6 = n7 + 20 := ⟨n6 - 20, by omega⟩
    refine ⟨n7, s, o, w, ws, rfl, by omega, by omega, hso, hoo, cut_mem hwm, hw, hnd, by omega, rfl, fun n8 hn8 => ?_⟩
    simp only [mSeq, mSet, mSetN, mSetX, mExpr, mExprX, mRet, mRetN, mRetX, mIf, mNext, mPass, mBrk, mCnt, mFrz, mAsg, mAsgX, mPar, mParN, mBin, mUn, mArg, mC, mVar, mPeek, mCall, mCons, mNil, mTup, mLst, mBinT, mAsT, mNotT, mAndT, mOrT, mAndE, mOrE, mNotE, mIfE, mChain, mChainT, mSl, mO0, mO1, mIter, mRng1, mRng2, mZip, mEnum, mMut, mMutR, mSubSet, mShare, mMeth, mFor, mLc, mYes, slotV, frzS, tgN, tgT, tgNs, wipeE, retK, mAug, List.foldl_cons, List.foldl_nil, deref_int, deref_str, deref_bl, deref_non, deref_tup, deref_lst, deref_scr, deref_dic, deref_ty, isLst, cellP, List.getElem?_cons_zero, List.getElem?_cons_succ, List.getElem?_nil, List.set_cons_zero, List.set_cons_succ, List.map_cons, List.map_nil, List.length_cons, List.length_nil, List.cons_append, List.nil_append, Option.some.injEq, Slot.val.injEq, Slot.own.injEq, PV.int.injEq, PV.bl.injEq, PV.str.injEq, PV.ref.injEq, PV.lst.injEq, PV.tup.injEq, exists_eq_left', exists_eq_left, and_true, true_and, true_or, or_true, and_self, reduceCtorEq, gAdd, gSubI, gMul, gDiv, gMod, gPow, gLt, gLe, gGt, gGe, gIx, gNeg, eqB_int, gEq_int, gNe_int, gEq_str, gNe_str, if_true, if_false, Bool.false_eq_true, Nat.reduceAdd, Nat.zero_add, Bool.not_true, Bool.not_false, atI_c0, atI_c1, atI_c2]
    exact ⟨n8, _, _, _, rfl, rfl, by omega⟩
  · unfold r_law_6
    simp only [mSeq, mSet, mSetN, mSetX, mExpr, mExprX, mRet, mRetN, mRetX, mIf, mNext, mPass, mBrk, mCnt, mFrz, mAsg, mAsgX, mPar, mParN, mBin, mUn, mArg, mC, mVar, mPeek, mCall, mCons, mNil, mTup, mLst, mBinT, mAsT, mNotT, mAndT, mOrT, mAndE, mOrE, mNotE, mIfE, mChain, mChainT, mSl, mO0, mO1, mIter, mRng1, mRng2, mZip, mEnum, mMut, mMutR, mSubSet, mShare, mMeth, mFor, mLc, mYes, slotV, frzS, tgN, tgT, tgNs, wipeE, retK, mAug, List.foldl_cons, List.foldl_nil, deref_int, deref_str, deref_bl, deref_non, deref_tup, deref_lst, deref_scr, deref_dic, deref_ty, isLst, cellP, List.getElem?_cons_zero, List.getElem?_cons_succ, List.getElem?_nil, List.set_cons_zero, List.set_cons_succ, List.map_cons, List.map_nil, List.length_cons, List.length_nil, List.cons_append, List.nil_append, Option.some.injEq, Slot.val.injEq, Slot.own.injEq, PV.int.injEq, PV.bl.injEq, PV.str.injEq, PV.ref.injEq, PV.lst.injEq, PV.tup.injEq, exists_eq_left', exists_eq_left, and_true, true_and, true_or, or_true, and_self, reduceCtorEq, gAdd, gSubI, gMul, gDiv, gMod, gPow, gLt, gLe, gGt, gGe, gIx, gNeg, eqB_int, gEq_int, gNe_int, gEq_str, gNe_str, if_true, if_false, Bool.false_eq_true, Nat.reduceAdd, Nat.zero_add, Bool.not_true, Bool.not_false, atI_c0, atI_c1, atI_c2]
    exact hR _
end Q6

namespace K06
open PySem L2 Mw PyProof.Rows
def topS (i : Nat) : Stmt := PySem.Challenge.pw_calledroom_k06_whole_sums_in_the_place_o.main.body.getD i (.Pass ⟨0, 0, 0, 0⟩)
abbrev k_LETTERS : PV := .str "abcdefghijklmnopqrstuvwxyz"
abbrev k_MOST_DEEP : PV := .int 5
abbrev k_MOST_SIGNS : PV := .int 8
abbrev k_MOST_VALUE : PV := .int 9
abbrev k_TWO_PARTS : PV := .tup [.str "plus", .str "minus", .str "less", .str "same", .str "both"]
abbrev s_is_word : Stmt := topS 6
theorem sc_is_word : FnScope ["thing", "sign"] ["thing"] (defScope s_is_word) := ⟨rfl, rfl, rfl, by decide +kernel, rfl, by decide +kernel, by decide +kernel⟩
abbrev s_is_value : Stmt := topS 7
theorem sc_is_value : FnScope ["thing"] ["thing"] (defScope s_is_value) := ⟨rfl, rfl, rfl, by decide +kernel, rfl, by decide +kernel, by decide +kernel⟩
abbrev s_is_sum_within : Stmt := topS 8
theorem sc_is_sum_within : FnScope ["thing", "deep"] ["thing", "deep"] (defScope s_is_sum_within) := ⟨rfl, rfl, rfl, by decide +kernel, rfl, by decide +kernel, by decide +kernel⟩
abbrev s_is_sum : Stmt := topS 9
theorem sc_is_sum : FnScope ["thing"] ["thing"] (defScope s_is_sum) := ⟨rfl, rfl, rfl, by decide +kernel, rfl, by decide +kernel, by decide +kernel⟩
abbrev s_parts_of : Stmt := topS 10
theorem sc_parts_of : FnScope ["told"] ["told"] (defScope s_parts_of) := ⟨rfl, rfl, rfl, by decide +kernel, rfl, by decide +kernel, by decide +kernel⟩
abbrev s_words_in : Stmt := topS 11
theorem sc_words_in : FnScope ["told", "found", "part"] ["told"] (defScope s_words_in) := ⟨rfl, rfl, rfl, by decide +kernel, rfl, by decide +kernel, by decide +kernel⟩
abbrev s_bells_in : Stmt := topS 12
theorem sc_bells_in : FnScope ["told", "found", "part"] ["told"] (defScope s_bells_in) := ⟨rfl, rfl, rfl, by decide +kernel, rfl, by decide +kernel, by decide +kernel⟩
abbrev s_words_of : Stmt := topS 13
theorem sc_words_of : FnScope ["told"] ["told"] (defScope s_words_of) := ⟨rfl, rfl, rfl, by decide +kernel, rfl, by decide +kernel, by decide +kernel⟩
abbrev s_bells_of : Stmt := topS 14
theorem sc_bells_of : FnScope ["told"] ["told"] (defScope s_bells_of) := ⟨rfl, rfl, rfl, by decide +kernel, rfl, by decide +kernel, by decide +kernel⟩
abbrev s_put_together : Stmt := topS 15
theorem sc_put_together : FnScope ["word", "one", "other"] ["word", "one", "other"] (defScope s_put_together) := ⟨rfl, rfl, rfl, by decide +kernel, rfl, by decide +kernel, by decide +kernel⟩
abbrev s_value_of : Stmt := topS 16
theorem sc_value_of : FnScope ["told", "things", "waiting", "part", "values"] ["told", "things", "waiting"] (defScope s_value_of) := ⟨rfl, rfl, rfl, by decide +kernel, rfl, by decide +kernel, by decide +kernel⟩
abbrev s__law_pot : Stmt := topS 18
theorem sc__law_pot : FnScope ["_law_script", "_law_seed", "_law_cell"] ["_law_script"] (defScope s__law_pot) := ⟨rfl, rfl, rfl, by decide +kernel, rfl, by decide +kernel, by decide +kernel⟩
abbrev s__law_take : Stmt := topS 19
theorem sc__law_take : FnScope ["_law_pot_here", "_law_many", "_law_digit", "_law_mixed"] ["_law_pot_here", "_law_many"] (defScope s__law_take) := ⟨rfl, rfl, rfl, by decide +kernel, rfl, by decide +kernel, by decide +kernel⟩
abbrev s__law_of : Stmt := topS 20
theorem sc__law_of : FnScope ["_law_pot_here", "_law_some"] ["_law_pot_here", "_law_some"] (defScope s__law_of) := ⟨rfl, rfl, rfl, by decide +kernel, rfl, by decide +kernel, by decide +kernel⟩
abbrev s__law_words : Stmt := topS 21
theorem sc__law_words : FnScope ["_law_pot_here", "_law_many", "_law_letters", "_law_first", "_law_turn", "_law_ends", "_law_found", "_law_k", "_law_sign"] ["_law_pot_here", "_law_many"] (defScope s__law_words) := ⟨rfl, rfl, rfl, by decide +kernel, rfl, by decide +kernel, by decide +kernel⟩
abbrev s__law_bare : Stmt := topS 22
theorem sc__law_bare : FnScope ["_law_pot_here", "_law_words_here", "_law_bells", "_law_way"] ["_law_pot_here", "_law_words_here", "_law_bells"] (defScope s__law_bare) := ⟨rfl, rfl, rfl, by decide +kernel, rfl, by decide +kernel, by decide +kernel⟩
abbrev s__law_sum : Stmt := topS 23
theorem sc__law_sum : FnScope ["_law_pot_here", "_law_words_here", "_law_bells", "_law_deep", "_law_way", "_law_word"] ["_law_pot_here", "_law_words_here", "_law_bells", "_law_deep"] (defScope s__law_sum) := ⟨rfl, rfl, rfl, by decide +kernel, rfl, by decide +kernel, by decide +kernel⟩
abbrev s__law_put_in : Stmt := topS 24
theorem sc__law_put_in : FnScope ["_law_told", "_law_word", "_law_other", "_law_part"] ["_law_told", "_law_word", "_law_other"] (defScope s__law_put_in) := ⟨rfl, rfl, rfl, by decide +kernel, rfl, by decide +kernel, by decide +kernel⟩
abbrev s__law_right : Stmt := topS 25
theorem sc__law_right : FnScope ["_law_pot_here", "_law_told", "_law_word", "_law_other", "_law_words_here", "_law_one", "_law_things", "_law_waiting", "_law_whole", "_law_inner", "_law_swapped", "_law_left", "_law_bells", "_law_found"] ["_law_pot_here", "_law_told", "_law_word", "_law_other", "_law_words_here"] (defScope s__law_right) := ⟨rfl, rfl, rfl, by decide +kernel, rfl, by decide +kernel, by decide +kernel⟩
abbrev s_law : Stmt := topS 26
theorem sc_law : FnScope ["_law_script", "_law_pot_here", "_law_words_here", "_law_k", "_law_told", "_law_other"] ["_law_script"] (defScope s_law) := ⟨rfl, rfl, rfl, by decide +kernel, rfl, by decide +kernel, by decide +kernel⟩
structure Txt (K : PySem.W.Frag) (mg : Str → Option Value) where
  a_is_word : Addr
  f_is_word : FuncData
  F_is_word : Fun K "is_word" "is_word" s_is_word a_is_word f_is_word
  b_is_word : Binds K f_is_word ["thing"] []
  m_is_word : mg "is_word" = some (.ref a_is_word)
  a_is_value : Addr
  f_is_value : FuncData
  F_is_value : Fun K "is_value" "is_value" s_is_value a_is_value f_is_value
  b_is_value : Binds K f_is_value ["thing"] []
  m_is_value : mg "is_value" = some (.ref a_is_value)
  a_is_sum_within : Addr
  f_is_sum_within : FuncData
  F_is_sum_within : Fun K "is_sum_within" "is_sum_within" s_is_sum_within a_is_sum_within f_is_sum_within
  b_is_sum_within : Binds K f_is_sum_within ["thing", "deep"] []
  m_is_sum_within : mg "is_sum_within" = some (.ref a_is_sum_within)
  a_is_sum : Addr
  f_is_sum : FuncData
  F_is_sum : Fun K "is_sum" "is_sum" s_is_sum a_is_sum f_is_sum
  b_is_sum : Binds K f_is_sum ["thing"] []
  m_is_sum : mg "is_sum" = some (.ref a_is_sum)
  a_parts_of : Addr
  f_parts_of : FuncData
  F_parts_of : Fun K "parts_of" "parts_of" s_parts_of a_parts_of f_parts_of
  b_parts_of : Binds K f_parts_of ["told"] []
  m_parts_of : mg "parts_of" = some (.ref a_parts_of)
  a_words_in : Addr
  f_words_in : FuncData
  F_words_in : Fun K "words_in" "words_in" s_words_in a_words_in f_words_in
  b_words_in : Binds K f_words_in ["told"] []
  m_words_in : mg "words_in" = some (.ref a_words_in)
  a_bells_in : Addr
  f_bells_in : FuncData
  F_bells_in : Fun K "bells_in" "bells_in" s_bells_in a_bells_in f_bells_in
  b_bells_in : Binds K f_bells_in ["told"] []
  m_bells_in : mg "bells_in" = some (.ref a_bells_in)
  a_words_of : Addr
  f_words_of : FuncData
  F_words_of : Fun K "words_of" "words_of" s_words_of a_words_of f_words_of
  b_words_of : Binds K f_words_of ["told"] []
  m_words_of : mg "words_of" = some (.ref a_words_of)
  a_bells_of : Addr
  f_bells_of : FuncData
  F_bells_of : Fun K "bells_of" "bells_of" s_bells_of a_bells_of f_bells_of
  b_bells_of : Binds K f_bells_of ["told"] []
  m_bells_of : mg "bells_of" = some (.ref a_bells_of)
  a_put_together : Addr
  f_put_together : FuncData
  F_put_together : Fun K "put_together" "put_together" s_put_together a_put_together f_put_together
  b_put_together : Binds K f_put_together ["word", "one", "other"] []
  m_put_together : mg "put_together" = some (.ref a_put_together)
  a_value_of : Addr
  f_value_of : FuncData
  F_value_of : Fun K "value_of" "value_of" s_value_of a_value_of f_value_of
  b_value_of : Binds K f_value_of ["told", "things", "waiting"] []
  m_value_of : mg "value_of" = some (.ref a_value_of)
  a__law_pot : Addr
  f__law_pot : FuncData
  F__law_pot : Fun K "_law_pot" "_law_pot" s__law_pot a__law_pot f__law_pot
  b__law_pot : Binds K f__law_pot ["_law_script"] []
  m__law_pot : mg "_law_pot" = some (.ref a__law_pot)
  a__law_take : Addr
  f__law_take : FuncData
  F__law_take : Fun K "_law_take" "_law_take" s__law_take a__law_take f__law_take
  b__law_take : Binds K f__law_take ["_law_pot_here", "_law_many"] []
  m__law_take : mg "_law_take" = some (.ref a__law_take)
  a__law_of : Addr
  f__law_of : FuncData
  F__law_of : Fun K "_law_of" "_law_of" s__law_of a__law_of f__law_of
  b__law_of : Binds K f__law_of ["_law_pot_here", "_law_some"] []
  m__law_of : mg "_law_of" = some (.ref a__law_of)
  a__law_words : Addr
  f__law_words : FuncData
  F__law_words : Fun K "_law_words" "_law_words" s__law_words a__law_words f__law_words
  b__law_words : Binds K f__law_words ["_law_pot_here", "_law_many"] []
  m__law_words : mg "_law_words" = some (.ref a__law_words)
  a__law_bare : Addr
  f__law_bare : FuncData
  F__law_bare : Fun K "_law_bare" "_law_bare" s__law_bare a__law_bare f__law_bare
  b__law_bare : Binds K f__law_bare ["_law_pot_here", "_law_words_here", "_law_bells"] []
  m__law_bare : mg "_law_bare" = some (.ref a__law_bare)
  a__law_sum : Addr
  f__law_sum : FuncData
  F__law_sum : Fun K "_law_sum" "_law_sum" s__law_sum a__law_sum f__law_sum
  b__law_sum : Binds K f__law_sum ["_law_pot_here", "_law_words_here", "_law_bells", "_law_deep"] []
  m__law_sum : mg "_law_sum" = some (.ref a__law_sum)
  a__law_put_in : Addr
  f__law_put_in : FuncData
  F__law_put_in : Fun K "_law_put_in" "_law_put_in" s__law_put_in a__law_put_in f__law_put_in
  b__law_put_in : Binds K f__law_put_in ["_law_told", "_law_word", "_law_other"] []
  m__law_put_in : mg "_law_put_in" = some (.ref a__law_put_in)
  a__law_right : Addr
  f__law_right : FuncData
  F__law_right : Fun K "_law_right" "_law_right" s__law_right a__law_right f__law_right
  b__law_right : Binds K f__law_right ["_law_pot_here", "_law_told", "_law_word", "_law_other", "_law_words_here"] []
  m__law_right : mg "_law_right" = some (.ref a__law_right)
  a_law : Addr
  f_law : FuncData
  F_law : Fun K "law" "law" s_law a_law f_law
  b_law : Binds K f_law ["_law_script"] []
  m_law : mg "law" = some (.ref a_law)
  z_all : mg "all" = none
  z_bool : mg "bool" = none
  z_dict : mg "dict" = none
  z_int : mg "int" = none
  z_isinstance : mg "isinstance" = none
  z_len : mg "len" = none
  z_list : mg "list" = none
  z_max : mg "max" = none
  z_min : mg "min" = none
  z_range : mg "range" = none
  z_set : mg "set" = none
  z_sorted : mg "sorted" = none
  z_str : mg "str" = none
  z_tuple : mg "tuple" = none
  c_LETTERS : Glob K mg "LETTERS" k_LETTERS
  c_MOST_DEEP : Glob K mg "MOST_DEEP" k_MOST_DEEP
  c_MOST_SIGNS : Glob K mg "MOST_SIGNS" k_MOST_SIGNS
  c_MOST_VALUE : Glob K mg "MOST_VALUE" k_MOST_VALUE
  c_TWO_PARTS : Glob K mg "TWO_PARTS" k_TWO_PARTS
variable {P : Program} {w : World} {K : PySem.W.Frag} {mg : Str → Option Value} {base : Heap} {k : Nat}
def r_is_word_0 : SM := (mRet (mC (.bl false)))
def r_is_word_1 : SM := (mRet (mArg gAll (mCons (mLc (mIter (mVar 0)) [1] (tgN 1) mYes (mBin gIn (mPeek 1) (mC k_LETTERS))) mNil)))
def r_is_word : SM := (mSeq (mIf (mOrT (mNotT (mAsT (mArg gIsi (mCons (mPeek 0) (mCons (mC (.ty .str)) mNil))))) (mNotT (mChainT gLe gLe (mC (.int 1)) (mArg gLen (mCons (mPeek 0) mNil)) (mC k_MOST_SIGNS)))) (r_is_word_0) mNext) (r_is_word_1))
theorem ok_is_word {sp : FSpec} (T : Txt K mg) 
    (h : ∀ args et R, sp args et R → r_is_word  (env0 ["thing", "sign"] args) et (retK R)) :
    FnOk P w K mg base CX0 (k + 1) T.a_is_word T.f_is_word ["thing"] (FS K mg 1 sp) :=
  have nd := sc_is_word.nd
  fn_ok T.F_is_word sc_is_word (fun cdv A outer s H E hr => (ss_cons (s_if (PW.pt (sW_or (sT_not (sT_val (sE_callB call_isi oA_isi rfl T.z_isinstance boot_isinstance (sAP_cons (sP_var (pv 0)) (sAP_cons (SimE.p (sE_ty (t := .str) rfl T.z_str boot_str)) sAP_nil))))) (sW_or1 (sT_not (sT_chain op_le op_le o2_le o2_le (SimE.p sE_int) (SimE.p (sE_callB call_len oA_len rfl T.z_len boot_len (sAP_cons (sP_var (pv 0)) sAP_nil))) (SimE.p (T.c_MOST_SIGNS.e rfl)) (fun h1 h2 h3 => pt_chain op_le op_le h1 h2 h3)))))) (ss_one (s_ret sE_bl)) ss_nil)
    (ss_one (s_ret (sE_callB (cr_all rfl) oA_all rfl T.z_all boot_all (sAP_cons (SimN.p (sN_lc (own := [("sign", 1)]) (g_name 1) (by simp) rfl nd (sI_any (sE_var (pv 0))) (blkOk_by (N := ["thing", "sign"]) (sc := defScope s_is_word) (by decide +kernel)) (fun _ _ _ _ _ => (pg_name (i := 1) nd rfl (by first | exact Or.inl rfl | exact Or.inr rfl))) (fun _ _ _ _ _ => pts_yes) (fun _ _ _ _ _ => (sE_cmp (op_inA hr.h65) o2_in (sP_var (pv 1)) (SimE.p (T.c_LETTERS.e rfl)) rfl)))) sAP_nil)))))) h
def r_is_value : SM := (mRet (mAndE (mArg gIsi (mCons (mPeek 0) (mCons (mC (.ty .int)) mNil))) (mAndE (mNotE (mArg gIsi (mCons (mPeek 0) (mCons (mC (.ty .bool)) mNil)))) (mChain gLe gLe (mC (.int 0)) (mPeek 0) (mC k_MOST_VALUE)))))
theorem ok_is_value {sp : FSpec} (T : Txt K mg) 
    (h : ∀ args et R, sp args et R → r_is_value  (env0 ["thing"] args) et (retK R)) :
    FnOk P w K mg base CX0 (k + 1) T.a_is_value T.f_is_value ["thing"] (FS K mg 1 sp) :=
  have nd := sc_is_value.nd
  fn_ok T.F_is_value sc_is_value (fun cdv A outer s H E hr => (ss_one (s_ret (sE_and (sE_callB call_isi oA_isi rfl T.z_isinstance boot_isinstance (sAP_cons (sP_var (pv 0)) (sAP_cons (SimE.p (sE_ty (t := .int) rfl T.z_int boot_int)) sAP_nil))) (sE_and (sE_not (sE_callB call_isi oA_isi rfl T.z_isinstance boot_isinstance (sAP_cons (sP_var (pv 0)) (sAP_cons (SimE.p (sE_ty (t := .bool) rfl T.z_bool boot_bool)) sAP_nil)))) (sE_one (sE_chain op_le op_le o2_le o2_le (SimE.p sE_int) (sP_var (pv 0)) (SimE.p (T.c_MOST_VALUE.e rfl))))))))) h
def r_is_sum_within_0 : SM := (mRet (mC (.bl false)))
def r_is_sum_within_2 (S_is_word : FSpec) (S_is_value : FSpec) : SM := (mRet (mOrE (mCall 1 S_is_value (mCons (mVar 0) mNil)) (mCall 1 S_is_word (mCons (mVar 0) mNil))))
def r_is_sum_within_4 : SM := (mRet (mC (.bl false)))
def r_is_sum_within_6 (S_is_word : FSpec) : SM := (mRet (mAndE (mBin gEq (mArg gLen (mCons (mPeek 0) mNil)) (mC (.int 2))) (mCall 1 S_is_word (mCons (mBin gIx (mPeek 0) (mC (.int 1))) mNil))))
def r_is_sum_within_8 (S_is_sum_within : FSpec) : SM := (mRet (mAndE (mBin gEq (mArg gLen (mCons (mPeek 0) mNil)) (mC (.int 2))) (mCall 2 S_is_sum_within (mCons (mBin gIx (mPeek 0) (mC (.int 1))) (mCons (mBin gSubI (mPeek 1) (mC (.int 1))) mNil)))))
def r_is_sum_within_10 : SM := (mRet (mC (.bl false)))
def r_is_sum_within_11 (S_is_sum_within : FSpec) : SM := (mRet (mAndE (mCall 2 S_is_sum_within (mCons (mBin gIx (mPeek 0) (mC (.int 1))) (mCons (mBin gSubI (mPeek 1) (mC (.int 1))) mNil))) (mCall 2 S_is_sum_within (mCons (mBin gIx (mPeek 0) (mC (.int 2))) (mCons (mBin gSubI (mPeek 1) (mC (.int 1))) mNil)))))
def r_is_sum_within_9 (S_is_sum_within : FSpec) : SM := (mSeq (mIf (mOrT (mBinT gNotIn (mBin gIx (mPeek 0) (mC (.int 0))) (mC k_TWO_PARTS)) (mBinT gNe (mArg gLen (mCons (mPeek 0) mNil)) (mC (.int 3)))) (r_is_sum_within_10) mNext) (r_is_sum_within_11 S_is_sum_within))
def r_is_sum_within_7 (S_is_sum_within : FSpec) : SM := (mSeq (mIf (mBinT gEq (mBin gIx (mPeek 0) (mC (.int 0))) (mC (.str "not"))) (r_is_sum_within_8 S_is_sum_within) mNext) (r_is_sum_within_9 S_is_sum_within))
def r_is_sum_within_5 (S_is_word : FSpec) (S_is_sum_within : FSpec) : SM := (mSeq (mIf (mBinT gEq (mBin gIx (mPeek 0) (mC (.int 0))) (mC (.str "waits"))) (r_is_sum_within_6 S_is_word) mNext) (r_is_sum_within_7 S_is_sum_within))
def r_is_sum_within_3 (S_is_word : FSpec) (S_is_sum_within : FSpec) : SM := (mSeq (mIf (mOrT (mBinT gLt (mArg gLen (mCons (mPeek 0) mNil)) (mC (.int 2))) (mNotT (mAsT (mArg gIsi (mCons (mBin gIx (mPeek 0) (mC (.int 0))) (mCons (mC (.ty .str)) mNil)))))) (r_is_sum_within_4) mNext) (r_is_sum_within_5 S_is_word S_is_sum_within))
def r_is_sum_within_1 (S_is_word : FSpec) (S_is_value : FSpec) (S_is_sum_within : FSpec) : SM := (mSeq (mIf (mNotT (mAsT (mArg gIsi (mCons (mPeek 0) (mCons (mC (.ty .tup)) mNil))))) (r_is_sum_within_2 S_is_word S_is_value) mNext) (r_is_sum_within_3 S_is_word S_is_sum_within))
def r_is_sum_within (S_is_word : FSpec) (S_is_value : FSpec) (S_is_sum_within : FSpec) : SM := (mSeq (mIf (mBinT gEq (mPeek 1) (mC (.int 0))) (r_is_sum_within_0) mNext) (r_is_sum_within_1 S_is_word S_is_value S_is_sum_within))
theorem ok_is_sum_within {S_is_word S_is_value S_is_sum_within : FSpec} {sp : FSpec} (T : Txt K mg) (G_is_word : FnOk P w K mg base CX0 k T.a_is_word T.f_is_word ["thing"] (FS K mg 1 S_is_word)) (G_is_value : FnOk P w K mg base CX0 k T.a_is_value T.f_is_value ["thing"] (FS K mg 1 S_is_value)) (G_is_sum_within : FnOk P w K mg base CX0 k T.a_is_sum_within T.f_is_sum_within ["thing", "deep"] (FS K mg 2 S_is_sum_within))
    (h : ∀ args et R, sp args et R → r_is_sum_within S_is_word S_is_value S_is_sum_within (env0 ["thing", "deep"] args) et (retK R)) :
    FnOk P w K mg base CX0 (k + 1) T.a_is_sum_within T.f_is_sum_within ["thing", "deep"] (FS K mg 2 sp) :=
  have nd := sc_is_sum_within.nd
  fn_ok T.F_is_sum_within sc_is_sum_within (fun cdv A outer s H E hr => (ss_cons (s_if (sT_cmp (op_eqA hr.h64) o2_eq (sP_var (pv 1)) (SimE.p sE_int) (nomark _)) (ss_one (s_ret sE_bl)) ss_nil)
    (ss_cons (s_if (sT_not (sT_val (sE_callB call_isi oA_isi rfl T.z_isinstance boot_isinstance (sAP_cons (sP_var (pv 0)) (sAP_cons (SimE.p (sE_ty (t := .tup) rfl T.z_tuple boot_tuple)) sAP_nil))))) (ss_one (s_ret (sE_or (sE_call G_is_value hr rfl T.m_is_value T.F_is_value.kp T.b_is_value (sA_cons (sE_var (pv 0)) sA_nil)) (sE_one (sE_call G_is_word hr rfl T.m_is_word T.F_is_word.kp T.b_is_word (sA_cons (sE_var (pv 0)) sA_nil)))))) ss_nil)
    (ss_cons (s_if (PW.pt (sW_or (sT_cmp op_ltA o2_lt (SimE.p (sE_callB call_len oA_len rfl T.z_len boot_len (sAP_cons (sP_var (pv 0)) sAP_nil))) (SimE.p sE_int) (nomark _)) (sW_or1 (sT_not (sT_val (sE_callB call_isi oA_isi rfl T.z_isinstance boot_isinstance (sAP_cons (SimE.p (sE_ix (sP_var (pv 0)) (SimE.p sE_int))) (sAP_cons (SimE.p (sE_ty (t := .str) rfl T.z_str boot_str)) sAP_nil)))))))) (ss_one (s_ret sE_bl)) ss_nil)
    (ss_cons (s_if (sT_cmp (op_eqA hr.h64) o2_eq (SimE.p (sE_ix (sP_var (pv 0)) (SimE.p sE_int))) (SimE.p sE_str) (nomark _)) (ss_one (s_ret (sE_and (sE_cmp (op_eqA hr.h64) o2_eq (SimE.p (sE_callB call_len oA_len rfl T.z_len boot_len (sAP_cons (sP_var (pv 0)) sAP_nil))) (SimE.p sE_int) (nomark _)) (sE_one (sE_call G_is_word hr rfl T.m_is_word T.F_is_word.kp T.b_is_word (sA_cons (sE_ix (sP_var (pv 0)) (SimE.p sE_int)) sA_nil)))))) ss_nil)
    (ss_cons (s_if (sT_cmp (op_eqA hr.h64) o2_eq (SimE.p (sE_ix (sP_var (pv 0)) (SimE.p sE_int))) (SimE.p sE_str) (nomark _)) (ss_one (s_ret (sE_and (sE_cmp (op_eqA hr.h64) o2_eq (SimE.p (sE_callB call_len oA_len rfl T.z_len boot_len (sAP_cons (sP_var (pv 0)) sAP_nil))) (SimE.p sE_int) (nomark _)) (sE_one (sE_call G_is_sum_within hr rfl T.m_is_sum_within T.F_is_sum_within.kp T.b_is_sum_within (sA_cons (sE_ix (sP_var (pv 0)) (SimE.p sE_int)) (sA_cons (sE_op op_sub o2_sub (sP_var (pv 1)) (SimE.p sE_int)) sA_nil))))))) ss_nil)
    (ss_cons (s_if (PW.pt (sW_or (sT_cmp (op_notInA hr.h65) o2_notIn (SimE.p (sE_ix (sP_var (pv 0)) (SimE.p sE_int))) (SimE.p (T.c_TWO_PARTS.e rfl)) rfl) (sW_or1 (sT_cmp (op_neA hr.h64) o2_ne (SimE.p (sE_callB call_len oA_len rfl T.z_len boot_len (sAP_cons (sP_var (pv 0)) sAP_nil))) (SimE.p sE_int) (nomark _))))) (ss_one (s_ret sE_bl)) ss_nil)
    (ss_one (s_ret (sE_and (sE_call G_is_sum_within hr rfl T.m_is_sum_within T.F_is_sum_within.kp T.b_is_sum_within (sA_cons (sE_ix (sP_var (pv 0)) (SimE.p sE_int)) (sA_cons (sE_op op_sub o2_sub (sP_var (pv 1)) (SimE.p sE_int)) sA_nil))) (sE_one (sE_call G_is_sum_within hr rfl T.m_is_sum_within T.F_is_sum_within.kp T.b_is_sum_within (sA_cons (sE_ix (sP_var (pv 0)) (SimE.p sE_int)) (sA_cons (sE_op op_sub o2_sub (sP_var (pv 1)) (SimE.p sE_int)) sA_nil)))))))))))))) h
def r_is_sum (S_is_sum_within : FSpec) : SM := (mRet (mCall 2 S_is_sum_within (mCons (mVar 0) (mCons (mC k_MOST_DEEP) mNil))))
theorem ok_is_sum {S_is_sum_within : FSpec} {sp : FSpec} (T : Txt K mg) (G_is_sum_within : FnOk P w K mg base CX0 k T.a_is_sum_within T.f_is_sum_within ["thing", "deep"] (FS K mg 2 S_is_sum_within))
    (h : ∀ args et R, sp args et R → r_is_sum S_is_sum_within (env0 ["thing"] args) et (retK R)) :
    FnOk P w K mg base CX0 (k + 1) T.a_is_sum T.f_is_sum ["thing"] (FS K mg 1 sp) :=
  have nd := sc_is_sum.nd
  fn_ok T.F_is_sum sc_is_sum (fun cdv A outer s H E hr => (ss_one (s_ret (sE_call G_is_sum_within hr rfl T.m_is_sum_within T.F_is_sum_within.kp T.b_is_sum_within (sA_cons (sE_var (pv 0)) (sA_cons (T.c_MOST_DEEP.e rfl) sA_nil)))))) h
def r_parts_of_0 : SM := (mRet (mTup mNil))
def r_parts_of_1 : SM := (mRet (mSl gSlA (mPeek 0) (mO1 (mC (.int 1))) mO0))
def r_parts_of : SM := (mSeq (mIf (mOrT (mNotT (mAsT (mArg gIsi (mCons (mPeek 0) (mCons (mC (.ty .tup)) mNil))))) (mBinT gEq (mBin gIx (mPeek 0) (mC (.int 0))) (mC (.str "waits")))) (r_parts_of_0) mNext) (r_parts_of_1))
theorem ok_parts_of {sp : FSpec} (T : Txt K mg) 
    (h : ∀ args et R, sp args et R → r_parts_of  (env0 ["told"] args) et (retK R)) :
    FnOk P w K mg base CX0 (k + 1) T.a_parts_of T.f_parts_of ["told"] (FS K mg 1 sp) :=
  have nd := sc_parts_of.nd
  fn_ok T.F_parts_of sc_parts_of (fun cdv A outer s H E hr => (ss_cons (s_if (PW.pt (sW_or (sT_not (sT_val (sE_callB call_isi oA_isi rfl T.z_isinstance boot_isinstance (sAP_cons (sP_var (pv 0)) (sAP_cons (SimE.p (sE_ty (t := .tup) rfl T.z_tuple boot_tuple)) sAP_nil))))) (sW_or1 (sT_cmp (op_eqA hr.h64) o2_eq (SimE.p (sE_ix (sP_var (pv 0)) (SimE.p sE_int))) (SimE.p sE_str) (nomark _))))) (ss_one (s_ret (sE_tup sA_nil))) ss_nil)
    (ss_one (s_ret (sE_slA (sP_var (pv 0)) (sO_some sE_int) sO_none))))) h
def r_words_in_0 : SM := (mRet (mLst (mCons (mVar 0) mNil)))
def r_words_in_3 (S_words_in : FSpec) : SM := (mExprX (mMut 1 gmExtend (mCons (mCall 1 S_words_in (mCons (mVar 2) mNil)) mNil)))
def r_words_in_4 : SM := (mFrz [1] (mRet (mVar 1)))
def r_words_in_2 (S_parts_of : FSpec) (S_words_in : FSpec) : SM := (mSeq (mFor (mIter (mCall 1 S_parts_of (mCons (mVar 0) mNil))) (tgN 2) (r_words_in_3 S_words_in)) (r_words_in_4))
def r_words_in_1 (S_parts_of : FSpec) (S_words_in : FSpec) : SM := (mSeq (mSetN 1 (mLst mNil)) (r_words_in_2 S_parts_of S_words_in))
def r_words_in (S_parts_of : FSpec) (S_words_in : FSpec) : SM := (mSeq (mIf (mAsT (mArg gIsi (mCons (mPeek 0) (mCons (mC (.ty .str)) mNil)))) (r_words_in_0) mNext) (r_words_in_1 S_parts_of S_words_in))
theorem ok_words_in {S_parts_of S_words_in : FSpec} {sp : FSpec} (T : Txt K mg) (G_parts_of : FnOk P w K mg base CX0 k T.a_parts_of T.f_parts_of ["told"] (FS K mg 1 S_parts_of)) (G_words_in : FnOk P w K mg base CX0 k T.a_words_in T.f_words_in ["told"] (FS K mg 1 S_words_in))
    (h : ∀ args et R, sp args et R → r_words_in S_parts_of S_words_in (env0 ["told", "found", "part"] args) et (retK R)) :
    FnOk P w K mg base CX0 (k + 1) T.a_words_in T.f_words_in ["told"] (FS K mg 1 sp) :=
  have nd := sc_words_in.nd
  fn_ok T.F_words_in sc_words_in (fun cdv A outer s H E hr => (ss_cons (s_if (sT_val (sE_callB call_isi oA_isi rfl T.z_isinstance boot_isinstance (sAP_cons (sP_var (pv 0)) (sAP_cons (SimE.p (sE_ty (t := .str) rfl T.z_str boot_str)) sAP_nil)))) (ss_one (s_ret (SimN.e (sN_lst (sA_cons (sE_var (pv 0)) sA_nil))))) ss_nil)
    (ss_cons (s_setN (i := 1) nd rfl (by first | exact Or.inl rfl | exact Or.inr rfl) (sN_lst sA_nil))
    (ss_cons (s_for PassesOwn.never rfl (sI_any (sE_call G_parts_of hr rfl T.m_parts_of T.F_parts_of.kp T.b_parts_of (sA_cons (sE_var (pv 0)) sA_nil))) (pg_name (i := 2) nd rfl (by first | exact Or.inl rfl | exact Or.inr rfl)) (g_name 2) (ss_one (s_exprX (sX_mut PySem.F.slot_list_extend PySem.F.type_list_extend mt_extend mo_extend (pv 1) (sA_cons (sE_call G_words_in hr rfl T.m_words_in T.F_words_in.kp T.b_words_in (sA_cons (sE_var (pv 2)) sA_nil)) sA_nil) (fun h1 h2 => pe_bm PySem.F.plainAttrs_list PySem.F.slot_list_extend PySem.F.type_list_extend mt_extend h1 h2)))))
    (ss_one (s_frz [1] (s_ret (sE_var (pv 1))))))))) h
def r_bells_in_0 : SM := (mRet (mLst (mCons (mBin gIx (mPeek 0) (mC (.int 1))) mNil)))
def r_bells_in_3 (S_bells_in : FSpec) : SM := (mExprX (mMut 1 gmExtend (mCons (mCall 1 S_bells_in (mCons (mVar 2) mNil)) mNil)))
def r_bells_in_4 : SM := (mFrz [1] (mRet (mVar 1)))
def r_bells_in_2 (S_parts_of : FSpec) (S_bells_in : FSpec) : SM := (mSeq (mFor (mIter (mCall 1 S_parts_of (mCons (mVar 0) mNil))) (tgN 2) (r_bells_in_3 S_bells_in)) (r_bells_in_4))
def r_bells_in_1 (S_parts_of : FSpec) (S_bells_in : FSpec) : SM := (mSeq (mSetN 1 (mLst mNil)) (r_bells_in_2 S_parts_of S_bells_in))
def r_bells_in (S_parts_of : FSpec) (S_bells_in : FSpec) : SM := (mSeq (mIf (mAndT (mAsT (mArg gIsi (mCons (mPeek 0) (mCons (mC (.ty .tup)) mNil)))) (mBinT gEq (mBin gIx (mPeek 0) (mC (.int 0))) (mC (.str "waits")))) (r_bells_in_0) mNext) (r_bells_in_1 S_parts_of S_bells_in))
theorem ok_bells_in {S_parts_of S_bells_in : FSpec} {sp : FSpec} (T : Txt K mg) (G_parts_of : FnOk P w K mg base CX0 k T.a_parts_of T.f_parts_of ["told"] (FS K mg 1 S_parts_of)) (G_bells_in : FnOk P w K mg base CX0 k T.a_bells_in T.f_bells_in ["told"] (FS K mg 1 S_bells_in))
    (h : ∀ args et R, sp args et R → r_bells_in S_parts_of S_bells_in (env0 ["told", "found", "part"] args) et (retK R)) :
    FnOk P w K mg base CX0 (k + 1) T.a_bells_in T.f_bells_in ["told"] (FS K mg 1 sp) :=
  have nd := sc_bells_in.nd
  fn_ok T.F_bells_in sc_bells_in (fun cdv A outer s H E hr => (ss_cons (s_if (PW.pt (sW_and (sT_val (sE_callB call_isi oA_isi rfl T.z_isinstance boot_isinstance (sAP_cons (sP_var (pv 0)) (sAP_cons (SimE.p (sE_ty (t := .tup) rfl T.z_tuple boot_tuple)) sAP_nil)))) (sW_and1 (sT_cmp (op_eqA hr.h64) o2_eq (SimE.p (sE_ix (sP_var (pv 0)) (SimE.p sE_int))) (SimE.p sE_str) (nomark _))))) (ss_one (s_ret (SimN.e (sN_lst (sA_cons (sE_ix (sP_var (pv 0)) (SimE.p sE_int)) sA_nil))))) ss_nil)
    (ss_cons (s_setN (i := 1) nd rfl (by first | exact Or.inl rfl | exact Or.inr rfl) (sN_lst sA_nil))
    (ss_cons (s_for PassesOwn.never rfl (sI_any (sE_call G_parts_of hr rfl T.m_parts_of T.F_parts_of.kp T.b_parts_of (sA_cons (sE_var (pv 0)) sA_nil))) (pg_name (i := 2) nd rfl (by first | exact Or.inl rfl | exact Or.inr rfl)) (g_name 2) (ss_one (s_exprX (sX_mut PySem.F.slot_list_extend PySem.F.type_list_extend mt_extend mo_extend (pv 1) (sA_cons (sE_call G_bells_in hr rfl T.m_bells_in T.F_bells_in.kp T.b_bells_in (sA_cons (sE_var (pv 2)) sA_nil)) sA_nil) (fun h1 h2 => pe_bm PySem.F.plainAttrs_list PySem.F.slot_list_extend PySem.F.type_list_extend mt_extend h1 h2)))))
    (ss_one (s_frz [1] (s_ret (sE_var (pv 1))))))))) h
def r_words_of (S_words_in : FSpec) : SM := (mRet (mArg gTuple (mCons (mUn gSortedSet (mCall 1 S_words_in (mCons (mVar 0) mNil))) mNil)))
theorem ok_words_of {S_words_in : FSpec} {sp : FSpec} (T : Txt K mg) (G_words_in : FnOk P w K mg base CX0 k T.a_words_in T.f_words_in ["told"] (FS K mg 1 S_words_in))
    (h : ∀ args et R, sp args et R → r_words_of S_words_in (env0 ["told"] args) et (retK R)) :
    FnOk P w K mg base CX0 (k + 1) T.a_words_of T.f_words_of ["told"] (FS K mg 1 sp) :=
  have nd := sc_words_of.nd
  fn_ok T.F_words_of sc_words_of (fun cdv A outer s H E hr => (ss_one (s_ret (sE_callTy call_tuple_of oA_tuple rfl T.z_tuple boot_tuple (sAP_cons (SimN.p (sN_sortedSet rfl T.z_sorted rfl T.z_set (SimE.p (sE_call G_words_in hr rfl T.m_words_in T.F_words_in.kp T.b_words_in (sA_cons (sE_var (pv 0)) sA_nil))))) sAP_nil))))) h
def r_bells_of (S_bells_in : FSpec) : SM := (mRet (mArg gTuple (mCons (mUn gSortedSet (mCall 1 S_bells_in (mCons (mVar 0) mNil))) mNil)))
theorem ok_bells_of {S_bells_in : FSpec} {sp : FSpec} (T : Txt K mg) (G_bells_in : FnOk P w K mg base CX0 k T.a_bells_in T.f_bells_in ["told"] (FS K mg 1 S_bells_in))
    (h : ∀ args et R, sp args et R → r_bells_of S_bells_in (env0 ["told"] args) et (retK R)) :
    FnOk P w K mg base CX0 (k + 1) T.a_bells_of T.f_bells_of ["told"] (FS K mg 1 sp) :=
  have nd := sc_bells_of.nd
  fn_ok T.F_bells_of sc_bells_of (fun cdv A outer s H E hr => (ss_one (s_ret (sE_callTy call_tuple_of oA_tuple rfl T.z_tuple boot_tuple (sAP_cons (SimN.p (sN_sortedSet rfl T.z_sorted rfl T.z_set (SimE.p (sE_call G_bells_in hr rfl T.m_bells_in T.F_bells_in.kp T.b_bells_in (sA_cons (sE_var (pv 0)) sA_nil))))) sAP_nil))))) h
def r_put_together_0 : SM := (mRet (mArg gMin2 (mCons (mC k_MOST_VALUE) (mCons (mBin gAdd (mPeek 1) (mPeek 2)) mNil))))
def r_put_together_2 : SM := (mRet (mArg gMax2 (mCons (mC (.int 0)) (mCons (mBin gSubI (mPeek 1) (mPeek 2)) mNil))))
def r_put_together_4 : SM := (mRet (mArg gInt (mCons (mBin gLt (mPeek 1) (mPeek 2)) mNil)))
def r_put_together_6 : SM := (mRet (mArg gInt (mCons (mBin gEq (mPeek 1) (mPeek 2)) mNil)))
def r_put_together_7 : SM := (mRet (mArg gInt (mCons (mAndE (mBin gNe (mPeek 1) (mC (.int 0))) (mBin gNe (mPeek 2) (mC (.int 0)))) mNil)))
def r_put_together_5 : SM := (mSeq (mIf (mBinT gEq (mPeek 0) (mC (.str "same"))) (r_put_together_6) mNext) (r_put_together_7))
def r_put_together_3 : SM := (mSeq (mIf (mBinT gEq (mPeek 0) (mC (.str "less"))) (r_put_together_4) mNext) (r_put_together_5))
def r_put_together_1 : SM := (mSeq (mIf (mBinT gEq (mPeek 0) (mC (.str "minus"))) (r_put_together_2) mNext) (r_put_together_3))
def r_put_together : SM := (mSeq (mIf (mBinT gEq (mPeek 0) (mC (.str "plus"))) (r_put_together_0) mNext) (r_put_together_1))
theorem ok_put_together {sp : FSpec} (T : Txt K mg) 
    (h : ∀ args et R, sp args et R → r_put_together  (env0 ["word", "one", "other"] args) et (retK R)) :
    FnOk P w K mg base CX0 (k + 1) T.a_put_together T.f_put_together ["word", "one", "other"] (FS K mg 3 sp) :=
  have nd := sc_put_together.nd
  fn_ok T.F_put_together sc_put_together (fun cdv A outer s H E hr => (ss_cons (s_if (sT_cmp (op_eqA hr.h64) o2_eq (sP_var (pv 0)) (SimE.p sE_str) (nomark _)) (ss_one (s_ret (sE_callB (call_min2 rfl) oA_min2 rfl T.z_min boot_min (sAP_cons (SimE.p (T.c_MOST_VALUE.e rfl)) (sAP_cons (SimE.p (sE_op op_addA o2_add (sP_var (pv 1)) (sP_var (pv 2)))) sAP_nil))))) ss_nil)
    (ss_cons (s_if (sT_cmp (op_eqA hr.h64) o2_eq (sP_var (pv 0)) (SimE.p sE_str) (nomark _)) (ss_one (s_ret (sE_callB (call_max2 rfl) oA_max2 rfl T.z_max boot_max (sAP_cons (SimE.p sE_int) (sAP_cons (SimE.p (sE_op op_sub o2_sub (sP_var (pv 1)) (sP_var (pv 2)))) sAP_nil))))) ss_nil)
    (ss_cons (s_if (sT_cmp (op_eqA hr.h64) o2_eq (sP_var (pv 0)) (SimE.p sE_str) (nomark _)) (ss_one (s_ret (sE_callTy call_int1 oA_int rfl T.z_int boot_int (sAP_cons (SimE.p (sE_cmp op_ltA o2_lt (sP_var (pv 1)) (sP_var (pv 2)) (nomark _))) sAP_nil)))) ss_nil)
    (ss_cons (s_if (sT_cmp (op_eqA hr.h64) o2_eq (sP_var (pv 0)) (SimE.p sE_str) (nomark _)) (ss_one (s_ret (sE_callTy call_int1 oA_int rfl T.z_int boot_int (sAP_cons (SimE.p (sE_cmp (op_eqA hr.h64) o2_eq (sP_var (pv 1)) (sP_var (pv 2)) (nomark _))) sAP_nil)))) ss_nil)
    (ss_one (s_ret (sE_callTy call_int1 oA_int rfl T.z_int boot_int (sAP_cons (SimE.p (sE_and (sE_cmp (op_neA hr.h64) o2_ne (sP_var (pv 1)) (SimE.p sE_int) (nomark _)) (sE_one (sE_cmp (op_neA hr.h64) o2_ne (sP_var (pv 2)) (SimE.p sE_int) (nomark _))))) sAP_nil))))))))) h
def r_value_of_0 : SM := (mRet (mBin gDGet (mPeek 1) (mPeek 0)))
def r_value_of_2 : SM := (mRet (mVar 0))
def r_value_of_4 : SM := (mRet (mArg gInt (mCons (mBin gGt (mBin gDGet (mPeek 2) (mBin gIx (mPeek 0) (mC (.int 1)))) (mC (.int 0))) mNil)))
def r_value_of_7 : SM := (mRet (mArg gInt (mCons (mBin gEq (mBin gIx (mPeek 4) (mC (.int 0))) (mC (.int 0))) mNil)))
def r_value_of_8 (S_put_together : FSpec) : SM := (mRet (mCall 3 S_put_together (mCons (mBin gIx (mPeek 0) (mC (.int 0))) (mCons (mBin gIx (mPeek 4) (mC (.int 0))) (mCons (mBin gIx (mPeek 4) (mC (.int 1))) mNil)))))
def r_value_of_6 (S_put_together : FSpec) : SM := (mSeq (mIf (mBinT gEq (mBin gIx (mPeek 0) (mC (.int 0))) (mC (.str "not"))) (r_value_of_7) mNext) (r_value_of_8 S_put_together))
def r_value_of_5 (S_value_of : FSpec) (S_put_together : FSpec) : SM := (mSeq (mSet 4 (mLc (mIter (mSl gSlA (mPeek 0) (mO1 (mC (.int 1))) mO0)) [3] (tgN 3) mYes (mCall 3 S_value_of (mCons (mVar 3) (mCons (mVar 1) (mCons (mVar 2) mNil)))))) (r_value_of_6 S_put_together))
def r_value_of_3 (S_value_of : FSpec) (S_put_together : FSpec) : SM := (mSeq (mIf (mBinT gEq (mBin gIx (mPeek 0) (mC (.int 0))) (mC (.str "waits"))) (r_value_of_4) mNext) (r_value_of_5 S_value_of S_put_together))
def r_value_of_1 (S_value_of : FSpec) (S_put_together : FSpec) : SM := (mSeq (mIf (mNotT (mAsT (mArg gIsi (mCons (mPeek 0) (mCons (mC (.ty .tup)) mNil))))) (r_value_of_2) mNext) (r_value_of_3 S_value_of S_put_together))
def r_value_of (S_value_of : FSpec) (S_put_together : FSpec) : SM := (mSeq (mIf (mAsT (mArg gIsi (mCons (mPeek 0) (mCons (mC (.ty .str)) mNil)))) (r_value_of_0) mNext) (r_value_of_1 S_value_of S_put_together))
theorem ok_value_of {S_value_of S_put_together : FSpec} {sp : FSpec} (T : Txt K mg) (G_value_of : FnOk P w K mg base CX0 k T.a_value_of T.f_value_of ["told", "things", "waiting"] (FS K mg 3 S_value_of)) (G_put_together : FnOk P w K mg base CX0 k T.a_put_together T.f_put_together ["word", "one", "other"] (FS K mg 3 S_put_together))
    (h : ∀ args et R, sp args et R → r_value_of S_value_of S_put_together (env0 ["told", "things", "waiting", "part", "values"] args) et (retK R)) :
    FnOk P w K mg base CX0 (k + 1) T.a_value_of T.f_value_of ["told", "things", "waiting"] (FS K mg 3 sp) :=
  have nd := sc_value_of.nd
  fn_ok T.F_value_of sc_value_of (fun cdv A outer s H E hr => (ss_cons (s_if (sT_val (sE_callB call_isi oA_isi rfl T.z_isinstance boot_isinstance (sAP_cons (sP_var (pv 0)) (sAP_cons (SimE.p (sE_ty (t := .str) rfl T.z_str boot_str)) sAP_nil)))) (ss_one (s_ret (sE_dget hr.h1 (sP_var (pv 1)) (sP_var (pv 0))))) ss_nil)
    (ss_cons (s_if (sT_not (sT_val (sE_callB call_isi oA_isi rfl T.z_isinstance boot_isinstance (sAP_cons (sP_var (pv 0)) (sAP_cons (SimE.p (sE_ty (t := .tup) rfl T.z_tuple boot_tuple)) sAP_nil))))) (ss_one (s_ret (sE_var (pv 0)))) ss_nil)
    (ss_cons (s_if (sT_cmp (op_eqA hr.h64) o2_eq (SimE.p (sE_ix (sP_var (pv 0)) (SimE.p sE_int))) (SimE.p sE_str) (nomark _)) (ss_one (s_ret (sE_callTy call_int1 oA_int rfl T.z_int boot_int (sAP_cons (SimE.p (sE_cmp op_gt o2_gt (SimE.p (sE_dget hr.h1 (sP_var (pv 2)) (SimE.p (sE_ix (sP_var (pv 0)) (SimE.p sE_int))))) (SimE.p sE_int) (nomark _))) sAP_nil)))) ss_nil)
    (ss_cons (s_setLcE (i := 4) (own := [("part", 3)]) (g_name 3) (by simp) rfl nd rfl rfl (sw_true rfl rfl rfl (by decide +kernel)) (sI_any (sE_slA (sP_var (pv 0)) (sO_some sE_int) sO_none)) (blkOk_by (N := ["told", "things", "waiting", "part", "values"]) (sc := defScope s_value_of) (by decide +kernel)) (fun _ _ _ _ _ => (pg_name (i := 3) nd rfl (by first | exact Or.inl rfl | exact Or.inr rfl))) (fun _ _ _ _ _ => pts_yes) (fun _ _ _ _ _ => (sE_call G_value_of hr rfl T.m_value_of T.F_value_of.kp T.b_value_of (sA_cons (sE_var (pv 3)) (sA_cons (sE_var (pv 1)) (sA_cons (sE_var (pv 2)) sA_nil))))))
    (ss_cons (s_if (sT_cmp (op_eqA hr.h64) o2_eq (SimE.p (sE_ix (sP_var (pv 0)) (SimE.p sE_int))) (SimE.p sE_str) (nomark _)) (ss_one (s_ret (sE_callTy call_int1 oA_int rfl T.z_int boot_int (sAP_cons (SimE.p (sE_cmp (op_eqA hr.h64) o2_eq (SimE.p (sE_ix (sP_var (pv 4)) (SimE.p sE_int))) (SimE.p sE_int) (nomark _))) sAP_nil)))) ss_nil)
    (ss_one (s_ret (sE_call G_put_together hr rfl T.m_put_together T.F_put_together.kp T.b_put_together (sA_cons (sE_ix (sP_var (pv 0)) (SimE.p sE_int)) (sA_cons (sE_ix (sP_var (pv 4)) (SimE.p sE_int)) (sA_cons (sE_ix (sP_var (pv 4)) (SimE.p sE_int)) sA_nil)))))))))))) h
def r__law_pot_1 : SM := (mSet 1 (mBin gMod (mBin gAdd (mBin gAdd (mBin gMul (mPeek 1) (mC (.int 1000003))) (mBin gMod (mPeek 2) (mBin gPow (mC (.int 10)) (mC (.int 30))))) (mC (.int 13))) (mC (.int 2305843009213693951))))
def r__law_pot_2 : SM := (mRet (mShare (mLst (mCons (mShare (mLc (mIter (mSl gSlA (mPeek 0) mO0 (mO1 (mC (.int 63))))) [2] (tgN 2) (mBinT gGe (mPeek 2) (mBin gPow (mC (.int 10)) (mC (.int 18)))) (mVar 2))) (mCons (mVar 1) (mCons (mC (.int 0)) mNil))))))
def r__law_pot_0 : SM := (mSeq (mFor (mIter (mSl gSlA (mPeek 0) mO0 (mO1 (mC (.int 63))))) (tgN 2) (r__law_pot_1)) (r__law_pot_2))
def r__law_pot : SM := (mSeq (mSet 1 (mBin gAdd (mArg gLen (mCons (mPeek 0) mNil)) (mC (.int 7)))) (r__law_pot_0))
theorem ok__law_pot {sp : FSpec} (T : Txt K mg) 
    (h : ∀ args et R, sp args et R → r__law_pot  (env0 ["_law_script", "_law_seed", "_law_cell"] args) et (retK R)) :
    FnOk P w K mg base CX0 (k + 1) T.a__law_pot T.f__law_pot ["_law_script"] (FS K mg 1 sp) :=
  have nd := sc__law_pot.nd
  fn_ok T.F__law_pot sc__law_pot (fun cdv A outer s H E hr => (ss_cons (s_set (i := 1) nd rfl (by first | exact Or.inl rfl | exact Or.inr rfl) (sE_op op_addA o2_add (SimE.p (sE_callB call_len oA_len rfl T.z_len boot_len (sAP_cons (sP_var (pv 0)) sAP_nil))) (SimE.p sE_int)))
    (ss_cons (s_for PassesOwn.never rfl (sI_any (sE_slA (sP_var (pv 0)) sO_none (sO_some sE_int))) (pg_name (i := 2) nd rfl (by first | exact Or.inl rfl | exact Or.inr rfl)) (g_name 2) (ss_one (s_set (i := 1) nd rfl (by first | exact Or.inl rfl | exact Or.inr rfl) (sE_op op_mod o2_mod (SimE.p (sE_op op_addA o2_add (SimE.p (sE_op op_addA o2_add (SimE.p (sE_op op_mul o2_mul (sP_var (pv 1)) (SimE.p sE_int))) (SimE.p (sE_op op_mod o2_mod (sP_var (pv 2)) (SimE.p (sE_op op_pow o2_pow (SimE.p sE_int) (SimE.p sE_int))))))) (SimE.p sE_int))) (SimE.p sE_int)))))
    (ss_one (s_ret (sE_share (sN_lst (sA_cons (sE_share (sN_lc (own := [("_law_cell", 2)]) (g_name 2) (by simp) rfl nd (sI_any (sE_slA (sP_var (pv 0)) sO_none (sO_some sE_int))) (blkOk_by (N := ["_law_script", "_law_seed", "_law_cell"]) (sc := defScope s__law_pot) (by decide +kernel)) (fun _ _ _ _ _ => (pg_name (i := 2) nd rfl (by first | exact Or.inl rfl | exact Or.inr rfl))) (fun _ _ _ _ _ => pts_if (sT_cmp op_ge o2_ge (sP_var (pv 2)) (SimE.p (sE_op op_pow o2_pow (SimE.p sE_int) (SimE.p sE_int))) (nomark _))) (fun _ _ _ _ _ => (sE_var (pv 2))))) (sA_cons (sE_var (pv 1)) (sA_cons sE_int sA_nil)))))))))) h
def r__law_take_0 : SM := (mExpr (mMutR gmPopAt (mBin gIx (mPeek 0) (mC (.int 0))) (mCons (mC (.int 0)) mNil)))
def r__law_take_4 : SM := (mRet (mVar 2))
def r__law_take_3 : SM := (mSeq (mSubSet (mBin gDiv (mBin gIx (mBin gIx (mPeek 0) (mC (.int 0))) (mC (.int 0))) (mPeek 1)) (mBin gIx (mPeek 0) (mC (.int 0))) (mC (.int 0))) (r__law_take_4))
def r__law_take_2 : SM := (mSeq (mSet 2 (mBin gMod (mBin gIx (mBin gIx (mPeek 0) (mC (.int 0))) (mC (.int 0))) (mPeek 1))) (r__law_take_3))
def r__law_take_8 : SM := (mRet (mBin gMod (mBin gAdd (mBin gDiv (mPeek 3) (mC (.int 97))) (mBin gDiv (mPeek 3) (mC (.int 1000033)))) (mPeek 1)))
def r__law_take_7 : SM := (mSeq (mSet 3 (mBin gMod (mBin gMul (mPeek 3) (mBin gAdd (mBin gMod (mPeek 3) (mC (.int 1000003))) (mBin gMul (mC (.int 99991)) (mBin gIx (mPeek 0) (mC (.int 2)))))) (mC (.int 2305843009213693907)))) (r__law_take_8))
def r__law_take_6 : SM := (mSeq (mSet 3 (mBin gMod (mBin gMul (mBin gAdd (mBin gAdd (mBin gIx (mPeek 0) (mC (.int 1))) (mBin gMul (mBin gMul (mC (.int 65537)) (mBin gIx (mPeek 0) (mC (.int 2)))) (mBin gIx (mPeek 0) (mC (.int 2))))) (mC (.int 11))) (mC (.int 48271))) (mC (.int 2305843009213693921)))) (r__law_take_7))
def r__law_take_5 : SM := (mSeq (mSubSet (mBin gAdd (mBin gIx (mPeek 0) (mC (.int 2))) (mC (.int 1))) (mVar 0) (mC (.int 2))) (r__law_take_6))
def r__law_take_1 : SM := (mSeq (mIf (mBinT gNe (mBin gIx (mPeek 0) (mC (.int 0))) (mLst mNil)) (r__law_take_2) mNext) (r__law_take_5))
def r__law_take : SM := (mSeq (mWhile (mAndT (mBinT gNe (mBin gIx (mPeek 0) (mC (.int 0))) (mLst mNil)) (mBinT gEq (mBin gIx (mBin gIx (mPeek 0) (mC (.int 0))) (mC (.int 0))) (mC (.int 0)))) (r__law_take_0)) (r__law_take_1))
theorem ok__law_take {sp : FSpec} (T : Txt K mg) 
    (h : ∀ args et R, sp args et R → r__law_take  (env0 ["_law_pot_here", "_law_many", "_law_digit", "_law_mixed"] args) et (retK R)) :
    FnOk P w K mg base CX0 (k + 1) T.a__law_take T.f__law_take ["_law_pot_here", "_law_many"] (FS K mg 2 sp) :=
  have nd := sc__law_take.nd
  fn_ok T.F__law_take sc__law_take (fun cdv A outer s H E hr => (ss_cons (s_while PassesOwn.never (PW.pt (sW_and (sT_cmp (op_neA hr.h64) o2_ne (SimE.p (sE_ix (sP_var (pv 0)) (SimE.p sE_int))) (SimN.p (sN_lst sA_nil)) (nomark _)) (sW_and1 (sT_cmp (op_eqA hr.h64) o2_eq (SimE.p (sE_ix (SimE.p (sE_ix (sP_var (pv 0)) (SimE.p sE_int))) (SimE.p sE_int))) (SimE.p sE_int) (nomark _))))) (ss_one (s_expr (sE_mutR mo_popAt (sE_ix (sP_var (pv 0)) (SimE.p sE_int)) (sA_cons sE_int sA_nil) (fun h1 h2 => pe_bm PySem.F.plainAttrs_list PySem.F.slot_list_pop PySem.F.type_list_pop mt_popAt h1 h2)))))
    (ss_cons (s_if (sT_cmp (op_neA hr.h64) o2_ne (SimE.p (sE_ix (sP_var (pv 0)) (SimE.p sE_int))) (SimN.p (sN_lst sA_nil)) (nomark _)) (ss_cons (s_set (i := 2) nd rfl (by first | exact Or.inl rfl | exact Or.inr rfl) (sE_op op_mod o2_mod (SimE.p (sE_ix (SimE.p (sE_ix (sP_var (pv 0)) (SimE.p sE_int))) (SimE.p sE_int))) (sP_var (pv 1))))
    (ss_cons (s_subSet (sE_op op_fdiv o2_div (SimE.p (sE_ix (SimE.p (sE_ix (sP_var (pv 0)) (SimE.p sE_int))) (SimE.p sE_int))) (sP_var (pv 1))) (sE_ix (sP_var (pv 0)) (SimE.p sE_int)) sE_int (fun h1 h2 h3 => ps_asg h1 (pg_sub h2 h3 set_list)))
    (ss_one (s_ret (sE_var (pv 2)))))) ss_nil)
    (ss_cons (s_subSet (sE_op op_addA o2_add (SimE.p (sE_ix (sP_var (pv 0)) (SimE.p sE_int))) (SimE.p sE_int)) (sE_var (pv 0)) sE_int (fun h1 h2 h3 => ps_asg h1 (pg_sub h2 h3 set_list)))
    (ss_cons (s_set (i := 3) nd rfl (by first | exact Or.inl rfl | exact Or.inr rfl) (sE_op op_mod o2_mod (SimE.p (sE_op op_mul o2_mul (SimE.p (sE_op op_addA o2_add (SimE.p (sE_op op_addA o2_add (SimE.p (sE_ix (sP_var (pv 0)) (SimE.p sE_int))) (SimE.p (sE_op op_mul o2_mul (SimE.p (sE_op op_mul o2_mul (SimE.p sE_int) (SimE.p (sE_ix (sP_var (pv 0)) (SimE.p sE_int))))) (SimE.p (sE_ix (sP_var (pv 0)) (SimE.p sE_int))))))) (SimE.p sE_int))) (SimE.p sE_int))) (SimE.p sE_int)))
    (ss_cons (s_set (i := 3) nd rfl (by first | exact Or.inl rfl | exact Or.inr rfl) (sE_op op_mod o2_mod (SimE.p (sE_op op_mul o2_mul (sP_var (pv 3)) (SimE.p (sE_op op_addA o2_add (SimE.p (sE_op op_mod o2_mod (sP_var (pv 3)) (SimE.p sE_int))) (SimE.p (sE_op op_mul o2_mul (SimE.p sE_int) (SimE.p (sE_ix (sP_var (pv 0)) (SimE.p sE_int))))))))) (SimE.p sE_int)))
    (ss_one (s_ret (sE_op op_mod o2_mod (SimE.p (sE_op op_addA o2_add (SimE.p (sE_op op_fdiv o2_div (sP_var (pv 3)) (SimE.p sE_int))) (SimE.p (sE_op op_fdiv o2_div (sP_var (pv 3)) (SimE.p sE_int))))) (sP_var (pv 1))))))))))) h
def r__law_of (S__law_take : FSpec) : SM := (mRet (mBin gIx (mPeek 1) (mCall 2 S__law_take (mCons (mVar 0) (mCons (mArg gLen (mCons (mPeek 1) mNil)) mNil)))))
theorem ok__law_of {S__law_take : FSpec} {sp : FSpec} (T : Txt K mg) (G__law_take : FnOk P w K mg base CX0 k T.a__law_take T.f__law_take ["_law_pot_here", "_law_many"] (FS K mg 2 S__law_take))
    (h : ∀ args et R, sp args et R → r__law_of S__law_take (env0 ["_law_pot_here", "_law_some"] args) et (retK R)) :
    FnOk P w K mg base CX0 (k + 1) T.a__law_of T.f__law_of ["_law_pot_here", "_law_some"] (FS K mg 2 sp) :=
  have nd := sc__law_of.nd
  fn_ok T.F__law_of sc__law_of (fun cdv A outer s H E hr => (ss_one (s_ret (sE_ix (sP_var (pv 1)) (SimE.p (sE_call G__law_take hr rfl T.m__law_take T.F__law_take.kp T.b__law_take (sA_cons (sE_var (pv 0)) (sA_cons (sE_callB call_len oA_len rfl T.z_len boot_len (sAP_cons (sP_var (pv 1)) sAP_nil)) sA_nil)))))))) h
def r__law_words_5 : SM := (mExprX (mMut 6 gmAppend (mCons (mBin gAdd (mPeek 8) (mBin gIx (mPeek 5) (mBin gMod (mBin gAdd (mPeek 3) (mBin gMul (mPeek 7) (mPeek 7))) (mC (.int 5))))) mNil)))
def r__law_words_4 : SM := (mSeq (mSet 8 (mBin gIx (mPeek 2) (mBin gMod (mBin gAdd (mPeek 3) (mBin gMul (mPeek 4) (mPeek 7))) (mC (.int 26))))) (r__law_words_5))
def r__law_words_6 : SM := (mFrz [6] (mRet (mVar 6)))
def r__law_words_3 : SM := (mSeq (mFor (mRng1 (mCons (mVar 1) mNil)) (tgN 7) (r__law_words_4)) (r__law_words_6))
def r__law_words_2 : SM := (mSeq (mSetN 6 (mLst mNil)) (r__law_words_3))
def r__law_words_1 : SM := (mSeq (mSet 5 (mLst (mCons (mC (.str "")) (mCons (mC (.str "zq")) (mCons (mC (.str "x")) (mCons (mC (.str "qqzzx")) (mCons (mC (.str "zqzqzqz")) mNil))))))) (r__law_words_2))
def r__law_words_0 (S__law_of : FSpec) (S__law_take : FSpec) : SM := (mSeq (mPar 3 4 (mCons (mCall 2 S__law_take (mCons (mVar 0) (mCons (mC (.int 26)) mNil))) (mCons (mCall 2 S__law_of (mCons (mVar 0) (mCons (mLst (mCons (mC (.int 1)) (mCons (mC (.int 3)) (mCons (mC (.int 5)) (mCons (mC (.int 7)) (mCons (mC (.int 9)) (mCons (mC (.int 11)) mNil))))))) mNil))) mNil))) (r__law_words_1))
def r__law_words (S__law_of : FSpec) (S__law_take : FSpec) : SM := (mSeq (mSet 2 (mC (.str "abcdefghijklmnopqrstuvwxyz"))) (r__law_words_0 S__law_of S__law_take))
theorem ok__law_words {S__law_of S__law_take : FSpec} {sp : FSpec} (T : Txt K mg) (G__law_of : FnOk P w K mg base CX0 k T.a__law_of T.f__law_of ["_law_pot_here", "_law_some"] (FS K mg 2 S__law_of)) (G__law_take : FnOk P w K mg base CX0 k T.a__law_take T.f__law_take ["_law_pot_here", "_law_many"] (FS K mg 2 S__law_take))
    (h : ∀ args et R, sp args et R → r__law_words S__law_of S__law_take (env0 ["_law_pot_here", "_law_many", "_law_letters", "_law_first", "_law_turn", "_law_ends", "_law_found", "_law_k", "_law_sign"] args) et (retK R)) :
    FnOk P w K mg base CX0 (k + 1) T.a__law_words T.f__law_words ["_law_pot_here", "_law_many"] (FS K mg 2 sp) :=
  have nd := sc__law_words.nd
  fn_ok T.F__law_words sc__law_words (fun cdv A outer s H E hr => (ss_cons (s_set (i := 2) nd rfl (by first | exact Or.inl rfl | exact Or.inr rfl) sE_str)
    (ss_cons (two_par (i := 3) (j := 4) rfl nd rfl rfl (by decide) (fun h => ps_par rfl nd rfl rfl (by decide) rfl rfl h rfl) (sA_cons (sE_call G__law_take hr rfl T.m__law_take T.F__law_take.kp T.b__law_take (sA_cons (sE_var (pv 0)) (sA_cons sE_int sA_nil))) (sA_cons (sE_call G__law_of hr rfl T.m__law_of T.F__law_of.kp T.b__law_of (sA_cons (sE_var (pv 0)) (sA_cons (SimN.e (sN_lst (sA_cons sE_int (sA_cons sE_int (sA_cons sE_int (sA_cons sE_int (sA_cons sE_int (sA_cons sE_int sA_nil)))))))) sA_nil))) sA_nil)))
    (ss_cons (s_set (i := 5) nd rfl (by first | exact Or.inl rfl | exact Or.inr rfl) (SimN.e (sN_lst (sA_cons sE_str (sA_cons sE_str (sA_cons sE_str (sA_cons sE_str (sA_cons sE_str sA_nil))))))))
    (ss_cons (s_setN (i := 6) nd rfl (by first | exact Or.inl rfl | exact Or.inr rfl) (sN_lst sA_nil))
    (ss_cons (s_for PassesOwn.never rfl (sI_rng1 rfl T.z_range (sA_cons (sE_var (pv 1)) sA_nil)) (pg_name (i := 7) nd rfl (by first | exact Or.inl rfl | exact Or.inr rfl)) (g_name 7) (ss_cons (s_set (i := 8) nd rfl (by first | exact Or.inl rfl | exact Or.inr rfl) (sE_ix (sP_var (pv 2)) (SimE.p (sE_op op_mod o2_mod (SimE.p (sE_op op_addA o2_add (sP_var (pv 3)) (SimE.p (sE_op op_mul o2_mul (sP_var (pv 4)) (sP_var (pv 7)))))) (SimE.p sE_int)))))
    (ss_one (s_exprX (sX_mut PySem.F.slot_list_append PySem.F.type_list_append mt_append mo_append (pv 6) (sA_cons (sE_op op_addA o2_add (sP_var (pv 8)) (SimE.p (sE_ix (sP_var (pv 5)) (SimE.p (sE_op op_mod o2_mod (SimE.p (sE_op op_addA o2_add (sP_var (pv 3)) (SimE.p (sE_op op_mul o2_mul (sP_var (pv 7)) (sP_var (pv 7)))))) (SimE.p sE_int)))))) sA_nil) (fun h1 h2 => pe_bm PySem.F.plainAttrs_list PySem.F.slot_list_append PySem.F.type_list_append mt_append h1 h2))))))
    (ss_one (s_frz [6] (s_ret (sE_var (pv 6))))))))))) h
def r__law_bare_1 (S__law_of : FSpec) : SM := (mRet (mCall 2 S__law_of (mCons (mVar 0) (mCons (mVar 1) mNil))))
def r__law_bare_3 (S__law_of : FSpec) : SM := (mRet (mTup (mCons (mC (.str "waits")) (mCons (mCall 2 S__law_of (mCons (mVar 0) (mCons (mVar 2) mNil))) mNil))))
def r__law_bare_4 (S__law_take : FSpec) : SM := (mRet (mCall 2 S__law_take (mCons (mVar 0) (mCons (mBin gIx (mLst (mCons (mC (.int 3)) (mCons (mC (.int 10)) mNil))) (mCall 2 S__law_take (mCons (mVar 0) (mCons (mC (.int 2)) mNil)))) mNil))))
def r__law_bare_2 (S__law_take : FSpec) (S__law_of : FSpec) : SM := (mSeq (mIf (mAndT (mBinT gEq (mPeek 3) (mC (.int 2))) (mBinT gNe (mPeek 2) (mLst mNil))) (r__law_bare_3 S__law_of) mNext) (r__law_bare_4 S__law_take))
def r__law_bare_0 (S__law_take : FSpec) (S__law_of : FSpec) : SM := (mSeq (mIf (mAndT (mBinT gLt (mPeek 3) (mC (.int 2))) (mBinT gNe (mPeek 1) (mLst mNil))) (r__law_bare_1 S__law_of) mNext) (r__law_bare_2 S__law_take S__law_of))
def r__law_bare (S__law_take : FSpec) (S__law_of : FSpec) : SM := (mSeq (mSet 3 (mCall 2 S__law_take (mCons (mVar 0) (mCons (mC (.int 6)) mNil)))) (r__law_bare_0 S__law_take S__law_of))
theorem ok__law_bare {S__law_take S__law_of : FSpec} {sp : FSpec} (T : Txt K mg) (G__law_take : FnOk P w K mg base CX0 k T.a__law_take T.f__law_take ["_law_pot_here", "_law_many"] (FS K mg 2 S__law_take)) (G__law_of : FnOk P w K mg base CX0 k T.a__law_of T.f__law_of ["_law_pot_here", "_law_some"] (FS K mg 2 S__law_of))
    (h : ∀ args et R, sp args et R → r__law_bare S__law_take S__law_of (env0 ["_law_pot_here", "_law_words_here", "_law_bells", "_law_way"] args) et (retK R)) :
    FnOk P w K mg base CX0 (k + 1) T.a__law_bare T.f__law_bare ["_law_pot_here", "_law_words_here", "_law_bells"] (FS K mg 3 sp) :=
  have nd := sc__law_bare.nd
  fn_ok T.F__law_bare sc__law_bare (fun cdv A outer s H E hr => (ss_cons (s_set (i := 3) nd rfl (by first | exact Or.inl rfl | exact Or.inr rfl) (sE_call G__law_take hr rfl T.m__law_take T.F__law_take.kp T.b__law_take (sA_cons (sE_var (pv 0)) (sA_cons sE_int sA_nil))))
    (ss_cons (s_if (PW.pt (sW_and (sT_cmp op_ltA o2_lt (sP_var (pv 3)) (SimE.p sE_int) (nomark _)) (sW_and1 (sT_cmp (op_neA hr.h64) o2_ne (sP_var (pv 1)) (SimN.p (sN_lst sA_nil)) (nomark _))))) (ss_one (s_ret (sE_call G__law_of hr rfl T.m__law_of T.F__law_of.kp T.b__law_of (sA_cons (sE_var (pv 0)) (sA_cons (sE_var (pv 1)) sA_nil))))) ss_nil)
    (ss_cons (s_if (PW.pt (sW_and (sT_cmp (op_eqA hr.h64) o2_eq (sP_var (pv 3)) (SimE.p sE_int) (nomark _)) (sW_and1 (sT_cmp (op_neA hr.h64) o2_ne (sP_var (pv 2)) (SimN.p (sN_lst sA_nil)) (nomark _))))) (ss_one (s_ret (sE_tup (sA_cons sE_str (sA_cons (sE_call G__law_of hr rfl T.m__law_of T.F__law_of.kp T.b__law_of (sA_cons (sE_var (pv 0)) (sA_cons (sE_var (pv 2)) sA_nil))) sA_nil))))) ss_nil)
    (ss_one (s_ret (sE_call G__law_take hr rfl T.m__law_take T.F__law_take.kp T.b__law_take (sA_cons (sE_var (pv 0)) (sA_cons (sE_ix (SimN.p (sN_lst (sA_cons sE_int (sA_cons sE_int sA_nil)))) (SimE.p (sE_call G__law_take hr rfl T.m__law_take T.F__law_take.kp T.b__law_take (sA_cons (sE_var (pv 0)) (sA_cons sE_int sA_nil))))) sA_nil))))))))) h
def r__law_sum_1 (S__law_bare : FSpec) : SM := (mRet (mCall 3 S__law_bare (mCons (mVar 0) (mCons (mVar 1) (mCons (mVar 2) mNil)))))
def r__law_sum_3 (S__law_sum : FSpec) : SM := (mRet (mTup (mCons (mC (.str "not")) (mCons (mCall 4 S__law_sum (mCons (mVar 0) (mCons (mVar 1) (mCons (mVar 2) (mCons (mBin gSubI (mPeek 3) (mC (.int 1))) mNil))))) mNil))))
def r__law_sum_5 (S__law_sum : FSpec) : SM := (mRet (mTup (mCons (mVar 5) (mCons (mCall 4 S__law_sum (mCons (mVar 0) (mCons (mVar 1) (mCons (mVar 2) (mCons (mBin gSubI (mPeek 3) (mC (.int 1))) mNil))))) (mCons (mCall 4 S__law_sum (mCons (mVar 0) (mCons (mVar 1) (mCons (mVar 2) (mCons (mBin gSubI (mPeek 3) (mC (.int 1))) mNil))))) mNil)))))
def r__law_sum_4 (S__law_sum : FSpec) (S__law_of : FSpec) : SM := (mSeq (mSet 5 (mCall 2 S__law_of (mCons (mVar 0) (mCons (mLst (mCons (mC (.str "plus")) (mCons (mC (.str "minus")) (mCons (mC (.str "less")) (mCons (mC (.str "same")) (mCons (mC (.str "both")) mNil)))))) mNil)))) (r__law_sum_5 S__law_sum))
def r__law_sum_2 (S__law_sum : FSpec) (S__law_of : FSpec) : SM := (mSeq (mIf (mBinT gEq (mPeek 4) (mC (.int 2))) (r__law_sum_3 S__law_sum) mNext) (r__law_sum_4 S__law_sum S__law_of))
def r__law_sum_0 (S__law_bare : FSpec) (S__law_sum : FSpec) (S__law_of : FSpec) : SM := (mSeq (mIf (mOrT (mBinT gLt (mPeek 3) (mC (.int 2))) (mBinT gLt (mPeek 4) (mC (.int 2)))) (r__law_sum_1 S__law_bare) mNext) (r__law_sum_2 S__law_sum S__law_of))
def r__law_sum (S__law_take : FSpec) (S__law_bare : FSpec) (S__law_sum : FSpec) (S__law_of : FSpec) : SM := (mSeq (mSet 4 (mCall 2 S__law_take (mCons (mVar 0) (mCons (mC (.int 8)) mNil)))) (r__law_sum_0 S__law_bare S__law_sum S__law_of))
theorem ok__law_sum {S__law_take S__law_bare S__law_sum S__law_of : FSpec} {sp : FSpec} (T : Txt K mg) (G__law_take : FnOk P w K mg base CX0 k T.a__law_take T.f__law_take ["_law_pot_here", "_law_many"] (FS K mg 2 S__law_take)) (G__law_bare : FnOk P w K mg base CX0 k T.a__law_bare T.f__law_bare ["_law_pot_here", "_law_words_here", "_law_bells"] (FS K mg 3 S__law_bare)) (G__law_sum : FnOk P w K mg base CX0 k T.a__law_sum T.f__law_sum ["_law_pot_here", "_law_words_here", "_law_bells", "_law_deep"] (FS K mg 4 S__law_sum)) (G__law_of : FnOk P w K mg base CX0 k T.a__law_of T.f__law_of ["_law_pot_here", "_law_some"] (FS K mg 2 S__law_of))
    (h : ∀ args et R, sp args et R → r__law_sum S__law_take S__law_bare S__law_sum S__law_of (env0 ["_law_pot_here", "_law_words_here", "_law_bells", "_law_deep", "_law_way", "_law_word"] args) et (retK R)) :
    FnOk P w K mg base CX0 (k + 1) T.a__law_sum T.f__law_sum ["_law_pot_here", "_law_words_here", "_law_bells", "_law_deep"] (FS K mg 4 sp) :=
  have nd := sc__law_sum.nd
  fn_ok T.F__law_sum sc__law_sum (fun cdv A outer s H E hr => (ss_cons (s_set (i := 4) nd rfl (by first | exact Or.inl rfl | exact Or.inr rfl) (sE_call G__law_take hr rfl T.m__law_take T.F__law_take.kp T.b__law_take (sA_cons (sE_var (pv 0)) (sA_cons sE_int sA_nil))))
    (ss_cons (s_if (PW.pt (sW_or (sT_cmp op_ltA o2_lt (sP_var (pv 3)) (SimE.p sE_int) (nomark _)) (sW_or1 (sT_cmp op_ltA o2_lt (sP_var (pv 4)) (SimE.p sE_int) (nomark _))))) (ss_one (s_ret (sE_call G__law_bare hr rfl T.m__law_bare T.F__law_bare.kp T.b__law_bare (sA_cons (sE_var (pv 0)) (sA_cons (sE_var (pv 1)) (sA_cons (sE_var (pv 2)) sA_nil)))))) ss_nil)
    (ss_cons (s_if (sT_cmp (op_eqA hr.h64) o2_eq (sP_var (pv 4)) (SimE.p sE_int) (nomark _)) (ss_one (s_ret (sE_tup (sA_cons sE_str (sA_cons (sE_call G__law_sum hr rfl T.m__law_sum T.F__law_sum.kp T.b__law_sum (sA_cons (sE_var (pv 0)) (sA_cons (sE_var (pv 1)) (sA_cons (sE_var (pv 2)) (sA_cons (sE_op op_sub o2_sub (sP_var (pv 3)) (SimE.p sE_int)) sA_nil))))) sA_nil))))) ss_nil)
    (ss_cons (s_set (i := 5) nd rfl (by first | exact Or.inl rfl | exact Or.inr rfl) (sE_call G__law_of hr rfl T.m__law_of T.F__law_of.kp T.b__law_of (sA_cons (sE_var (pv 0)) (sA_cons (SimN.e (sN_lst (sA_cons sE_str (sA_cons sE_str (sA_cons sE_str (sA_cons sE_str (sA_cons sE_str sA_nil))))))) sA_nil))))
    (ss_one (s_ret (sE_tup (sA_cons (sE_var (pv 5)) (sA_cons (sE_call G__law_sum hr rfl T.m__law_sum T.F__law_sum.kp T.b__law_sum (sA_cons (sE_var (pv 0)) (sA_cons (sE_var (pv 1)) (sA_cons (sE_var (pv 2)) (sA_cons (sE_op op_sub o2_sub (sP_var (pv 3)) (SimE.p sE_int)) sA_nil))))) (sA_cons (sE_call G__law_sum hr rfl T.m__law_sum T.F__law_sum.kp T.b__law_sum (sA_cons (sE_var (pv 0)) (sA_cons (sE_var (pv 1)) (sA_cons (sE_var (pv 2)) (sA_cons (sE_op op_sub o2_sub (sP_var (pv 3)) (SimE.p sE_int)) sA_nil))))) sA_nil))))))))))) h
def r__law_put_in_0 : SM := (mRet (mVar 2))
def r__law_put_in_2 : SM := (mRet (mVar 0))
def r__law_put_in_3 (S__law_put_in : FSpec) : SM := (mRet (mBin gAdd (mSl gSlA (mPeek 0) mO0 (mO1 (mC (.int 1)))) (mArg gTuple (mCons (mLc (mIter (mSl gSlA (mPeek 0) (mO1 (mC (.int 1))) mO0)) [3] (tgN 3) mYes (mCall 3 S__law_put_in (mCons (mVar 3) (mCons (mVar 1) (mCons (mVar 2) mNil))))) mNil))))
def r__law_put_in_1 (S__law_put_in : FSpec) : SM := (mSeq (mIf (mOrT (mNotT (mAsT (mArg gIsi (mCons (mPeek 0) (mCons (mC (.ty .tup)) mNil))))) (mBinT gEq (mBin gIx (mPeek 0) (mC (.int 0))) (mC (.str "waits")))) (r__law_put_in_2) mNext) (r__law_put_in_3 S__law_put_in))
def r__law_put_in (S__law_put_in : FSpec) : SM := (mSeq (mIf (mBinT gEq (mPeek 0) (mPeek 1)) (r__law_put_in_0) mNext) (r__law_put_in_1 S__law_put_in))
theorem ok__law_put_in {S__law_put_in : FSpec} {sp : FSpec} (T : Txt K mg) (G__law_put_in : FnOk P w K mg base CX0 k T.a__law_put_in T.f__law_put_in ["_law_told", "_law_word", "_law_other"] (FS K mg 3 S__law_put_in))
    (h : ∀ args et R, sp args et R → r__law_put_in S__law_put_in (env0 ["_law_told", "_law_word", "_law_other", "_law_part"] args) et (retK R)) :
    FnOk P w K mg base CX0 (k + 1) T.a__law_put_in T.f__law_put_in ["_law_told", "_law_word", "_law_other"] (FS K mg 3 sp) :=
  have nd := sc__law_put_in.nd
  fn_ok T.F__law_put_in sc__law_put_in (fun cdv A outer s H E hr => (ss_cons (s_if (sT_cmp (op_eqA hr.h64) o2_eq (sP_var (pv 0)) (sP_var (pv 1)) (nomark _)) (ss_one (s_ret (sE_var (pv 2)))) ss_nil)
    (ss_cons (s_if (PW.pt (sW_or (sT_not (sT_val (sE_callB call_isi oA_isi rfl T.z_isinstance boot_isinstance (sAP_cons (sP_var (pv 0)) (sAP_cons (SimE.p (sE_ty (t := .tup) rfl T.z_tuple boot_tuple)) sAP_nil))))) (sW_or1 (sT_cmp (op_eqA hr.h64) o2_eq (SimE.p (sE_ix (sP_var (pv 0)) (SimE.p sE_int))) (SimE.p sE_str) (nomark _))))) (ss_one (s_ret (sE_var (pv 0)))) ss_nil)
    (ss_one (s_ret (sE_op op_addA o2_add (SimE.p (sE_slA (sP_var (pv 0)) sO_none (sO_some sE_int))) (SimE.p (sE_callTy call_tuple_of oA_tuple rfl T.z_tuple boot_tuple (sAP_cons (SimN.p (sN_lc (own := [("_law_part", 3)]) (g_name 3) (by simp) rfl nd (sI_any (sE_slA (sP_var (pv 0)) (sO_some sE_int) sO_none)) (blkOk_by (N := ["_law_told", "_law_word", "_law_other", "_law_part"]) (sc := defScope s__law_put_in) (by decide +kernel)) (fun _ _ _ _ _ => (pg_name (i := 3) nd rfl (by first | exact Or.inl rfl | exact Or.inr rfl))) (fun _ _ _ _ _ => pts_yes) (fun _ _ _ _ _ => (sE_call G__law_put_in hr rfl T.m__law_put_in T.F__law_put_in.kp T.b__law_put_in (sA_cons (sE_var (pv 3)) (sA_cons (sE_var (pv 1)) (sA_cons (sE_var (pv 2)) sA_nil))))))) sAP_nil))))))))) h
def r__law_right_6 : SM := (mRet (mC (.bl false)))
def r__law_right_10 (S_words_of : FSpec) (S_bells_of : FSpec) : SM := (mPar 11 12 (mCons (mBin gCat (mPeek 11) (mArg gList (mCons (mCall 1 S_words_of (mCons (mVar 3) mNil)) mNil))) (mCons (mBin gCat (mPeek 12) (mArg gList (mCons (mCall 1 S_bells_of (mCons (mVar 3) mNil)) mNil))) mNil)))
def r__law_right_12 : SM := (mRet (mC (.bl false)))
def r__law_right_14 (S_value_of : FSpec) : SM := (mRet (mAndE (mBin gEq (mPeek 13) (mArg gMin2 (mCons (mC (.int 1)) (mCons (mPeek 9) mNil)))) (mBin gEq (mCall 3 S_value_of (mCons (mTup (mCons (mC (.str "not")) (mCons (mVar 3) mNil))) (mCons (mVar 6) (mCons (mVar 7) mNil)))) (mBin gSubI (mC (.int 1)) (mPeek 13)))))
def r__law_right_13 (S_value_of : FSpec) : SM := (mSeq (mSet 13 (mCall 3 S_value_of (mCons (mTup (mCons (mC (.str "not")) (mCons (mTup (mCons (mC (.str "not")) (mCons (mVar 3) mNil))) mNil))) (mCons (mVar 6) (mCons (mVar 7) mNil))))) (r__law_right_14 S_value_of))
def r__law_right_11 (S_value_of : FSpec) (S_words_of : FSpec) (S_bells_of : FSpec) : SM := (mSeq (mIf (mOrT (mBinT gNe (mCall 1 S_words_of (mCons (mVar 8) mNil)) (mArg gTuple (mCons (mUn gSortedSet (mPeek 11)) mNil))) (mBinT gNe (mCall 1 S_bells_of (mCons (mVar 8) mNil)) (mArg gTuple (mCons (mUn gSortedSet (mPeek 12)) mNil)))) (r__law_right_12) mNext) (r__law_right_13 S_value_of))
def r__law_right_9 (S_value_of : FSpec) (S_words_of : FSpec) (S_bells_of : FSpec) : SM := (mSeq (mIf (mBinT gIn (mPeek 2) (mCall 1 S_words_of (mCons (mVar 1) mNil))) (r__law_right_10 S_words_of S_bells_of) mNext) (r__law_right_11 S_value_of S_words_of S_bells_of))
def r__law_right_8 (S_value_of : FSpec) (S_words_of : FSpec) (S_bells_of : FSpec) : SM := (mSeq (mSet 12 (mArg gList (mCons (mCall 1 S_bells_of (mCons (mVar 1) mNil)) mNil))) (r__law_right_9 S_value_of S_words_of S_bells_of))
def r__law_right_7 (S_value_of : FSpec) (S_words_of : FSpec) (S_bells_of : FSpec) : SM := (mSeq (mSet 11 (mLc (mIter (mCall 1 S_words_of (mCons (mVar 1) mNil))) [5] (tgN 5) (mBinT gNe (mPeek 5) (mPeek 2)) (mVar 5))) (r__law_right_8 S_value_of S_words_of S_bells_of))
def r__law_right_5 (S_value_of : FSpec) (S_is_sum : FSpec) (S_words_of : FSpec) (S_bells_of : FSpec) : SM := (mSeq (mFrz [10] (mIf (mOrT (mBinT gIsNot (mCall 1 S_is_sum (mCons (mVar 8) mNil)) (mC (.bl true))) (mBinT gNe (mCall 3 S_value_of (mCons (mVar 8) (mCons (mVar 6) (mCons (mVar 7) mNil)))) (mCall 3 S_value_of (mCons (mVar 1) (mCons (mVar 10) (mCons (mVar 7) mNil)))))) (r__law_right_6) mNext)) (r__law_right_7 S_value_of S_words_of S_bells_of))
def r__law_right_4 (S_value_of : FSpec) (S_is_sum : FSpec) (S_words_of : FSpec) (S_bells_of : FSpec) : SM := (mSeq (mDPutN 10 (mVar 9) (mPeek 2)) (r__law_right_5 S_value_of S_is_sum S_words_of S_bells_of))
def r__law_right_3 (S_value_of : FSpec) (S_is_sum : FSpec) (S_words_of : FSpec) (S_bells_of : FSpec) : SM := (mSeq (mSetN 10 (mArg gDict (mCons (mPeek 6) mNil))) (r__law_right_4 S_value_of S_is_sum S_words_of S_bells_of))
def r__law_right_2 (S_value_of : FSpec) (S_is_sum : FSpec) (S_words_of : FSpec) (S_bells_of : FSpec) : SM := (mSeq (mSet 9 (mCall 3 S_value_of (mCons (mVar 3) (mCons (mVar 6) (mCons (mVar 7) mNil))))) (r__law_right_3 S_value_of S_is_sum S_words_of S_bells_of))
def r__law_right_1 (S__law_put_in : FSpec) (S_value_of : FSpec) (S_is_sum : FSpec) (S_words_of : FSpec) (S_bells_of : FSpec) : SM := (mSeq (mSet 8 (mCall 3 S__law_put_in (mCons (mVar 1) (mCons (mVar 2) (mCons (mVar 3) mNil))))) (r__law_right_2 S_value_of S_is_sum S_words_of S_bells_of))
def r__law_right_0 (S__law_take : FSpec) (S__law_put_in : FSpec) (S_value_of : FSpec) (S_is_sum : FSpec) (S_words_of : FSpec) (S_bells_of : FSpec) : SM := (mSeq (mSet 7 (mArg gDict (mCons (mLc (mIter (mVar 4)) [5] (tgN 5) mYes (mTup (mCons (mVar 5) (mCons (mCall 2 S__law_take (mCons (mVar 0) (mCons (mC (.int 3)) mNil))) mNil)))) mNil))) (r__law_right_1 S__law_put_in S_value_of S_is_sum S_words_of S_bells_of))
def r__law_right (S__law_take : FSpec) (S__law_put_in : FSpec) (S_value_of : FSpec) (S_is_sum : FSpec) (S_words_of : FSpec) (S_bells_of : FSpec) : SM := (mSeq (mSet 6 (mArg gDict (mCons (mLc (mIter (mVar 4)) [5] (tgN 5) mYes (mTup (mCons (mVar 5) (mCons (mCall 2 S__law_take (mCons (mVar 0) (mCons (mC (.int 10)) mNil))) mNil)))) mNil))) (r__law_right_0 S__law_take S__law_put_in S_value_of S_is_sum S_words_of S_bells_of))
theorem ok__law_right {S__law_take S__law_put_in S_value_of S_is_sum S_words_of S_bells_of : FSpec} {sp : FSpec} (T : Txt K mg) (G__law_take : FnOk P w K mg base CX0 k T.a__law_take T.f__law_take ["_law_pot_here", "_law_many"] (FS K mg 2 S__law_take)) (G__law_put_in : FnOk P w K mg base CX0 k T.a__law_put_in T.f__law_put_in ["_law_told", "_law_word", "_law_other"] (FS K mg 3 S__law_put_in)) (G_value_of : FnOk P w K mg base CX0 k T.a_value_of T.f_value_of ["told", "things", "waiting"] (FS K mg 3 S_value_of)) (G_is_sum : FnOk P w K mg base CX0 k T.a_is_sum T.f_is_sum ["thing"] (FS K mg 1 S_is_sum)) (G_words_of : FnOk P w K mg base CX0 k T.a_words_of T.f_words_of ["told"] (FS K mg 1 S_words_of)) (G_bells_of : FnOk P w K mg base CX0 k T.a_bells_of T.f_bells_of ["told"] (FS K mg 1 S_bells_of))
    (h : ∀ args et R, sp args et R → r__law_right S__law_take S__law_put_in S_value_of S_is_sum S_words_of S_bells_of (env0 ["_law_pot_here", "_law_told", "_law_word", "_law_other", "_law_words_here", "_law_one", "_law_things", "_law_waiting", "_law_whole", "_law_inner", "_law_swapped", "_law_left", "_law_bells", "_law_found"] args) et (retK R)) :
    FnOk P w K mg base CX0 (k + 1) T.a__law_right T.f__law_right ["_law_pot_here", "_law_told", "_law_word", "_law_other", "_law_words_here"] (FS K mg 5 sp) :=
  have nd := sc__law_right.nd
  fn_ok T.F__law_right sc__law_right (fun cdv A outer s H E hr => (ss_cons (s_set (i := 6) nd rfl (by first | exact Or.inl rfl | exact Or.inr rfl) (SimN.e (sN_callTy call_dictA oA_dict rfl T.z_dict boot_dict (sAP_cons (SimN.p (sN_lc (own := [("_law_one", 5)]) (g_name 5) (by simp) rfl nd (sI_any (sE_var (pv 4))) (blkOk_by (N := ["_law_pot_here", "_law_told", "_law_word", "_law_other", "_law_words_here", "_law_one", "_law_things", "_law_waiting", "_law_whole", "_law_inner", "_law_swapped", "_law_left", "_law_bells", "_law_found"]) (sc := defScope s__law_right) (by decide +kernel)) (fun _ _ _ _ _ => (pg_name (i := 5) nd rfl (by first | exact Or.inl rfl | exact Or.inr rfl))) (fun _ _ _ _ _ => pts_yes) (fun _ _ _ _ _ => (sE_tup (sA_cons (sE_var (pv 5)) (sA_cons (sE_call G__law_take hr rfl T.m__law_take T.F__law_take.kp T.b__law_take (sA_cons (sE_var (pv 0)) (sA_cons sE_int sA_nil))) sA_nil)))))) sAP_nil))))
    (ss_cons (s_set (i := 7) nd rfl (by first | exact Or.inl rfl | exact Or.inr rfl) (SimN.e (sN_callTy call_dictA oA_dict rfl T.z_dict boot_dict (sAP_cons (SimN.p (sN_lc (own := [("_law_one", 5)]) (g_name 5) (by simp) rfl nd (sI_any (sE_var (pv 4))) (blkOk_by (N := ["_law_pot_here", "_law_told", "_law_word", "_law_other", "_law_words_here", "_law_one", "_law_things", "_law_waiting", "_law_whole", "_law_inner", "_law_swapped", "_law_left", "_law_bells", "_law_found"]) (sc := defScope s__law_right) (by decide +kernel)) (fun _ _ _ _ _ => (pg_name (i := 5) nd rfl (by first | exact Or.inl rfl | exact Or.inr rfl))) (fun _ _ _ _ _ => pts_yes) (fun _ _ _ _ _ => (sE_tup (sA_cons (sE_var (pv 5)) (sA_cons (sE_call G__law_take hr rfl T.m__law_take T.F__law_take.kp T.b__law_take (sA_cons (sE_var (pv 0)) (sA_cons sE_int sA_nil))) sA_nil)))))) sAP_nil))))
    (ss_cons (s_set (i := 8) nd rfl (by first | exact Or.inl rfl | exact Or.inr rfl) (sE_call G__law_put_in hr rfl T.m__law_put_in T.F__law_put_in.kp T.b__law_put_in (sA_cons (sE_var (pv 1)) (sA_cons (sE_var (pv 2)) (sA_cons (sE_var (pv 3)) sA_nil)))))
    (ss_cons (s_set (i := 9) nd rfl (by first | exact Or.inl rfl | exact Or.inr rfl) (sE_call G_value_of hr rfl T.m_value_of T.F_value_of.kp T.b_value_of (sA_cons (sE_var (pv 3)) (sA_cons (sE_var (pv 6)) (sA_cons (sE_var (pv 7)) sA_nil)))))
    (ss_cons (s_setN (i := 10) nd rfl (by first | exact Or.inl rfl | exact Or.inr rfl) (sN_callTy call_dictA oA_dict rfl T.z_dict boot_dict (sAP_cons (sP_var (pv 6)) sAP_nil)))
    (ss_cons (s_dputN (i := 10) hr.h1 (pv 10) (sP_var (pv 2)) (sE_var (pv 9)) rfl)
    (ss_cons (s_frz [10] (s_if (PW.pt (sW_or (sT_cmp op_isNotA o2_isNot (SimE.p (sE_call G_is_sum hr rfl T.m_is_sum T.F_is_sum.kp T.b_is_sum (sA_cons (sE_var (pv 8)) sA_nil))) (SimE.p sE_bl) (nomark _)) (sW_or1 (sT_cmp (op_neA hr.h64) o2_ne (SimE.p (sE_call G_value_of hr rfl T.m_value_of T.F_value_of.kp T.b_value_of (sA_cons (sE_var (pv 8)) (sA_cons (sE_var (pv 6)) (sA_cons (sE_var (pv 7)) sA_nil))))) (SimE.p (sE_call G_value_of hr rfl T.m_value_of T.F_value_of.kp T.b_value_of (sA_cons (sE_var (pv 1)) (sA_cons (sE_var (pv 10)) (sA_cons (sE_var (pv 7)) sA_nil))))) (nomark _))))) (ss_one (s_ret sE_bl)) ss_nil))
    (ss_cons (s_setLcE (i := 11) (own := [("_law_one", 5)]) (g_name 5) (by simp) rfl nd rfl rfl (sw_true rfl rfl rfl (by decide +kernel)) (sI_any (sE_call G_words_of hr rfl T.m_words_of T.F_words_of.kp T.b_words_of (sA_cons (sE_var (pv 1)) sA_nil))) (blkOk_by (N := ["_law_pot_here", "_law_told", "_law_word", "_law_other", "_law_words_here", "_law_one", "_law_things", "_law_waiting", "_law_whole", "_law_inner", "_law_swapped", "_law_left", "_law_bells", "_law_found"]) (sc := defScope s__law_right) (by decide +kernel)) (fun _ _ _ _ _ => (pg_name (i := 5) nd rfl (by first | exact Or.inl rfl | exact Or.inr rfl))) (fun _ _ _ _ _ => pts_if (sT_cmp (op_neA hr.h64) o2_ne (sP_var (pv 5)) (sP_var (pv 2)) (nomark _))) (fun _ _ _ _ _ => (sE_var (pv 5))))
    (ss_cons (s_set (i := 12) nd rfl (by first | exact Or.inl rfl | exact Or.inr rfl) (SimN.e (sN_callTy call_list_of oA_list rfl T.z_list boot_list (sAP_cons (SimE.p (sE_call G_bells_of hr rfl T.m_bells_of T.F_bells_of.kp T.b_bells_of (sA_cons (sE_var (pv 1)) sA_nil))) sAP_nil))))
    (ss_cons (s_if (sT_cmp (op_inA hr.h65) o2_in (sP_var (pv 2)) (SimE.p (sE_call G_words_of hr rfl T.m_words_of T.F_words_of.kp T.b_words_of (sA_cons (sE_var (pv 1)) sA_nil))) rfl) (ss_one (two_par (i := 11) (j := 12) rfl nd rfl rfl (by decide) (fun h => ps_par rfl nd rfl rfl (by decide) rfl rfl h rfl) (sA_cons (SimN.e (sN_op op_cat o2_cat (sP_var (pv 11)) (SimN.p (sN_callTy call_list_of oA_list rfl T.z_list boot_list (sAP_cons (SimE.p (sE_call G_words_of hr rfl T.m_words_of T.F_words_of.kp T.b_words_of (sA_cons (sE_var (pv 3)) sA_nil))) sAP_nil))))) (sA_cons (SimN.e (sN_op op_cat o2_cat (sP_var (pv 12)) (SimN.p (sN_callTy call_list_of oA_list rfl T.z_list boot_list (sAP_cons (SimE.p (sE_call G_bells_of hr rfl T.m_bells_of T.F_bells_of.kp T.b_bells_of (sA_cons (sE_var (pv 3)) sA_nil))) sAP_nil))))) sA_nil)))) ss_nil)
    (ss_cons (s_if (PW.pt (sW_or (sT_cmp (op_neA hr.h64) o2_ne (SimE.p (sE_call G_words_of hr rfl T.m_words_of T.F_words_of.kp T.b_words_of (sA_cons (sE_var (pv 8)) sA_nil))) (SimE.p (sE_callTy call_tuple_of oA_tuple rfl T.z_tuple boot_tuple (sAP_cons (SimN.p (sN_sortedSet rfl T.z_sorted rfl T.z_set (sP_var (pv 11)))) sAP_nil))) (nomark _)) (sW_or1 (sT_cmp (op_neA hr.h64) o2_ne (SimE.p (sE_call G_bells_of hr rfl T.m_bells_of T.F_bells_of.kp T.b_bells_of (sA_cons (sE_var (pv 8)) sA_nil))) (SimE.p (sE_callTy call_tuple_of oA_tuple rfl T.z_tuple boot_tuple (sAP_cons (SimN.p (sN_sortedSet rfl T.z_sorted rfl T.z_set (sP_var (pv 12)))) sAP_nil))) (nomark _))))) (ss_one (s_ret sE_bl)) ss_nil)
    (ss_cons (s_set (i := 13) nd rfl (by first | exact Or.inl rfl | exact Or.inr rfl) (sE_call G_value_of hr rfl T.m_value_of T.F_value_of.kp T.b_value_of (sA_cons (sE_tup (sA_cons sE_str (sA_cons (sE_tup (sA_cons sE_str (sA_cons (sE_var (pv 3)) sA_nil))) sA_nil))) (sA_cons (sE_var (pv 6)) (sA_cons (sE_var (pv 7)) sA_nil)))))
    (ss_one (s_ret (sE_and (sE_cmp (op_eqA hr.h64) o2_eq (sP_var (pv 13)) (SimE.p (sE_callB (call_min2 rfl) oA_min2 rfl T.z_min boot_min (sAP_cons (SimE.p sE_int) (sAP_cons (sP_var (pv 9)) sAP_nil)))) (nomark _)) (sE_one (sE_cmp (op_eqA hr.h64) o2_eq (SimE.p (sE_call G_value_of hr rfl T.m_value_of T.F_value_of.kp T.b_value_of (sA_cons (sE_tup (sA_cons sE_str (sA_cons (sE_var (pv 3)) sA_nil))) (sA_cons (sE_var (pv 6)) (sA_cons (sE_var (pv 7)) sA_nil))))) (SimE.p (sE_op op_sub o2_sub (SimE.p sE_int) (sP_var (pv 13)))) (nomark _))))))))))))))))))) h
def r_law_5 : SM := (mRet (mC (.bl false)))
def r_law_4 (S__law_right : FSpec) (S__law_of : FSpec) : SM := (mIf (mNotT (mAsT (mCall 5 S__law_right (mCons (mVar 1) (mCons (mVar 4) (mCons (mCall 2 S__law_of (mCons (mVar 1) (mCons (mSl gSlA (mPeek 2) mO0 (mO1 (mC (.int 4)))) mNil))) (mCons (mVar 5) (mCons (mVar 2) mNil)))))))) (r_law_5) mNext)
def r_law_3 (S__law_sum : FSpec) (S__law_take : FSpec) (S__law_right : FSpec) (S__law_of : FSpec) : SM := (mSeq (mSet 5 (mCall 4 S__law_sum (mCons (mVar 1) (mCons (mVar 2) (mCons (mSl gSlA (mPeek 2) (mO1 (mC (.int 4))) mO0) (mCons (mBin gAdd (mC (.int 1)) (mCall 2 S__law_take (mCons (mVar 1) (mCons (mC (.int 3)) mNil)))) mNil)))))) (r_law_4 S__law_right S__law_of))
def r_law_2 (S__law_sum : FSpec) (S__law_take : FSpec) (S__law_right : FSpec) (S__law_of : FSpec) : SM := (mSeq (mSet 4 (mCall 4 S__law_sum (mCons (mVar 1) (mCons (mSl gSlA (mPeek 2) mO0 (mO1 (mC (.int 4)))) (mCons (mSl gSlA (mPeek 2) (mO1 (mC (.int 2))) mO0) (mCons (mBin gAdd (mC (.int 1)) (mCall 2 S__law_take (mCons (mVar 1) (mCons (mC (.int 3)) mNil)))) mNil)))))) (r_law_3 S__law_sum S__law_take S__law_right S__law_of))
def r_law_6 : SM := (mRet (mC (.bl true)))
def r_law_1 (S__law_sum : FSpec) (S__law_take : FSpec) (S__law_right : FSpec) (S__law_of : FSpec) : SM := (mSeq (mFor (mRng1 (mCons (mArg gMax2 (mCons (mC (.int 16)) (mCons (mArg gMin2 (mCons (mC (.int 60)) (mCons (mArg gLen (mCons (mPeek 0) mNil)) mNil))) mNil))) mNil)) (tgN 3) (r_law_2 S__law_sum S__law_take S__law_right S__law_of)) (r_law_6))
def r_law_0 (S__law_words : FSpec) (S__law_sum : FSpec) (S__law_take : FSpec) (S__law_right : FSpec) (S__law_of : FSpec) : SM := (mSeq (mSet 2 (mCall 2 S__law_words (mCons (mVar 1) (mCons (mC (.int 7)) mNil)))) (r_law_1 S__law_sum S__law_take S__law_right S__law_of))
def r_law (S__law_pot : FSpec) (S__law_words : FSpec) (S__law_sum : FSpec) (S__law_take : FSpec) (S__law_right : FSpec) (S__law_of : FSpec) : SM := (mSeq (mSet 1 (mCall 1 S__law_pot (mCons (mVar 0) mNil))) (r_law_0 S__law_words S__law_sum S__law_take S__law_right S__law_of))
theorem ok_law {S__law_pot S__law_words S__law_sum S__law_take S__law_right S__law_of : FSpec} {sp : FSpec} (T : Txt K mg) (G__law_pot : FnOk P w K mg base CX0 k T.a__law_pot T.f__law_pot ["_law_script"] (FS K mg 1 S__law_pot)) (G__law_words : FnOk P w K mg base CX0 k T.a__law_words T.f__law_words ["_law_pot_here", "_law_many"] (FS K mg 2 S__law_words)) (G__law_sum : FnOk P w K mg base CX0 k T.a__law_sum T.f__law_sum ["_law_pot_here", "_law_words_here", "_law_bells", "_law_deep"] (FS K mg 4 S__law_sum)) (G__law_take : FnOk P w K mg base CX0 k T.a__law_take T.f__law_take ["_law_pot_here", "_law_many"] (FS K mg 2 S__law_take)) (G__law_right : FnOk P w K mg base CX0 k T.a__law_right T.f__law_right ["_law_pot_here", "_law_told", "_law_word", "_law_other", "_law_words_here"] (FS K mg 5 S__law_right)) (G__law_of : FnOk P w K mg base CX0 k T.a__law_of T.f__law_of ["_law_pot_here", "_law_some"] (FS K mg 2 S__law_of))
    (h : ∀ args et R, sp args et R → r_law S__law_pot S__law_words S__law_sum S__law_take S__law_right S__law_of (env0 ["_law_script", "_law_pot_here", "_law_words_here", "_law_k", "_law_told", "_law_other"] args) et (retK R)) :
    FnOk P w K mg base CX0 (k + 1) T.a_law T.f_law ["_law_script"] (FS K mg 1 sp) :=
  have nd := sc_law.nd
  fn_ok T.F_law sc_law (fun cdv A outer s H E hr => (ss_cons (s_set (i := 1) nd rfl (by first | exact Or.inl rfl | exact Or.inr rfl) (sE_call G__law_pot hr rfl T.m__law_pot T.F__law_pot.kp T.b__law_pot (sA_cons (sE_var (pv 0)) sA_nil)))
    (ss_cons (s_set (i := 2) nd rfl (by first | exact Or.inl rfl | exact Or.inr rfl) (sE_call G__law_words hr rfl T.m__law_words T.F__law_words.kp T.b__law_words (sA_cons (sE_var (pv 1)) (sA_cons sE_int sA_nil))))
    (ss_cons (s_for PassesOwn.never rfl (sI_rng1 rfl T.z_range (sA_cons (sE_callB (call_max2 rfl) oA_max2 rfl T.z_max boot_max (sAP_cons (SimE.p sE_int) (sAP_cons (SimE.p (sE_callB (call_min2 rfl) oA_min2 rfl T.z_min boot_min (sAP_cons (SimE.p sE_int) (sAP_cons (SimE.p (sE_callB call_len oA_len rfl T.z_len boot_len (sAP_cons (sP_var (pv 0)) sAP_nil))) sAP_nil)))) sAP_nil))) sA_nil)) (pg_name (i := 3) nd rfl (by first | exact Or.inl rfl | exact Or.inr rfl)) (g_name 3) (ss_cons (s_set (i := 4) nd rfl (by first | exact Or.inl rfl | exact Or.inr rfl) (sE_call G__law_sum hr rfl T.m__law_sum T.F__law_sum.kp T.b__law_sum (sA_cons (sE_var (pv 1)) (sA_cons (sE_slA (sP_var (pv 2)) sO_none (sO_some sE_int)) (sA_cons (sE_slA (sP_var (pv 2)) (sO_some sE_int) sO_none) (sA_cons (sE_op op_addA o2_add (SimE.p sE_int) (SimE.p (sE_call G__law_take hr rfl T.m__law_take T.F__law_take.kp T.b__law_take (sA_cons (sE_var (pv 1)) (sA_cons sE_int sA_nil))))) sA_nil))))))
    (ss_cons (s_set (i := 5) nd rfl (by first | exact Or.inl rfl | exact Or.inr rfl) (sE_call G__law_sum hr rfl T.m__law_sum T.F__law_sum.kp T.b__law_sum (sA_cons (sE_var (pv 1)) (sA_cons (sE_var (pv 2)) (sA_cons (sE_slA (sP_var (pv 2)) (sO_some sE_int) sO_none) (sA_cons (sE_op op_addA o2_add (SimE.p sE_int) (SimE.p (sE_call G__law_take hr rfl T.m__law_take T.F__law_take.kp T.b__law_take (sA_cons (sE_var (pv 1)) (sA_cons sE_int sA_nil))))) sA_nil))))))
    (ss_one (s_if (sT_not (sT_val (sE_call G__law_right hr rfl T.m__law_right T.F__law_right.kp T.b__law_right (sA_cons (sE_var (pv 1)) (sA_cons (sE_var (pv 4)) (sA_cons (sE_call G__law_of hr rfl T.m__law_of T.F__law_of.kp T.b__law_of (sA_cons (sE_var (pv 1)) (sA_cons (sE_slA (sP_var (pv 2)) sO_none (sO_some sE_int)) sA_nil))) (sA_cons (sE_var (pv 5)) (sA_cons (sE_var (pv 2)) sA_nil)))))))) (ss_one (s_ret sE_bl)) ss_nil)))))
    (ss_one (s_ret sE_bl)))))) h
end K06

namespace K06
open PySem L2 Mw PyProof.Rows
variable {P : Program} {w : World} {K : PySem.W.Frag} {mg : Str → Option Value} {base : Heap} {k : Nat}
theorem txt_mk {K : PySem.W.Frag} {h : Heap} {mg : Str → Option Value} {fa : Addr} (X : K.In h) (G : h.Ns mainGlobals mg) (hfa : mg "law" = some (.ref fa))
    {f0 f1 f2 f3 f4 f5 f6 f7 f8 f9 f10 f11 f12 f13 f14 f15 f16 f17 f18 f19 : Addr} {od0 an0 od1 an1 od2 an2 od3 an3 od4 an4 od5 an5 od6 an6 od7 an7 od8 an8 od9 an9 od10 an10 od11 an11 od12 an12 od13 an13 od14 an14 od15 an15 od16 an16 od17 an17 od18 an18 od19 an19 : Option Addr} {sl0 sl1 sl2 sl3 sl4 sl5 sl6 sl7 sl8 sl9 sl10 sl11 sl12 sl13 sl14 sl15 sl16 sl17 sl18 sl19 : Array (Option Value)} {oc0 kV0 dc0 pm0 cd0 ct0 oc1 kV1 dc1 pm1 cd1 ct1 oc2 kV2 dc2 pm2 cd2 ct2 oc3 kV3 dc3 pm3 cd3 ct3 oc4 kV4 dc4 pm4 cd4 ct4 oc5 kV5 dc5 pm5 cd5 ct5 oc6 kV6 dc6 pm6 cd6 ct6 oc7 kV7 dc7 pm7 cd7 ct7 oc8 kV8 dc8 pm8 cd8 ct8 oc9 kV9 dc9 pm9 cd9 ct9 oc10 kV10 dc10 pm10 cd10 ct10 oc11 kV11 dc11 pm11 cd11 ct11 oc12 kV12 dc12 pm12 cd12 ct12 oc13 kV13 dc13 pm13 cd13 ct13 oc14 kV14 dc14 pm14 cd14 ct14 oc15 kV15 dc15 pm15 cd15 ct15 oc16 kV16 dc16 pm16 cd16 ct16 oc17 kV17 dc17 pm17 cd17 ct17 oc18 kV18 dc18 pm18 cd18 ct18 oc19 kV19 dc19 pm19 cd19 ct19 : Value}
    (a0 : PySem.W.nsIn K mainGlobals "is_word" = some (some (.ref f0))) (l0 : K.lookup f0 = some ⟨oc0, od0, .func (PySem.W.fnOf "is_word" "is_word" (defArgs s_is_word) (defBody s_is_word) (defScope s_is_word) .none kV0 dc0 pm0 an0 cd0 ct0), sl0⟩) (c0 : PySem.W.codeIn K cd0 "is_word" = true) (k0 : PySem.W.keepIn K (.ref f0) = true)
    (a1 : PySem.W.nsIn K mainGlobals "is_value" = some (some (.ref f1))) (l1 : K.lookup f1 = some ⟨oc1, od1, .func (PySem.W.fnOf "is_value" "is_value" (defArgs s_is_value) (defBody s_is_value) (defScope s_is_value) .none kV1 dc1 pm1 an1 cd1 ct1), sl1⟩) (c1 : PySem.W.codeIn K cd1 "is_value" = true) (k1 : PySem.W.keepIn K (.ref f1) = true)
    (a2 : PySem.W.nsIn K mainGlobals "is_sum_within" = some (some (.ref f2))) (l2 : K.lookup f2 = some ⟨oc2, od2, .func (PySem.W.fnOf "is_sum_within" "is_sum_within" (defArgs s_is_sum_within) (defBody s_is_sum_within) (defScope s_is_sum_within) .none kV2 dc2 pm2 an2 cd2 ct2), sl2⟩) (c2 : PySem.W.codeIn K cd2 "is_sum_within" = true) (k2 : PySem.W.keepIn K (.ref f2) = true)
    (a3 : PySem.W.nsIn K mainGlobals "is_sum" = some (some (.ref f3))) (l3 : K.lookup f3 = some ⟨oc3, od3, .func (PySem.W.fnOf "is_sum" "is_sum" (defArgs s_is_sum) (defBody s_is_sum) (defScope s_is_sum) .none kV3 dc3 pm3 an3 cd3 ct3), sl3⟩) (c3 : PySem.W.codeIn K cd3 "is_sum" = true) (k3 : PySem.W.keepIn K (.ref f3) = true)
    (a4 : PySem.W.nsIn K mainGlobals "parts_of" = some (some (.ref f4))) (l4 : K.lookup f4 = some ⟨oc4, od4, .func (PySem.W.fnOf "parts_of" "parts_of" (defArgs s_parts_of) (defBody s_parts_of) (defScope s_parts_of) .none kV4 dc4 pm4 an4 cd4 ct4), sl4⟩) (c4 : PySem.W.codeIn K cd4 "parts_of" = true) (k4 : PySem.W.keepIn K (.ref f4) = true)
    (a5 : PySem.W.nsIn K mainGlobals "words_in" = some (some (.ref f5))) (l5 : K.lookup f5 = some ⟨oc5, od5, .func (PySem.W.fnOf "words_in" "words_in" (defArgs s_words_in) (defBody s_words_in) (defScope s_words_in) .none kV5 dc5 pm5 an5 cd5 ct5), sl5⟩) (c5 : PySem.W.codeIn K cd5 "words_in" = true) (k5 : PySem.W.keepIn K (.ref f5) = true)
    (a6 : PySem.W.nsIn K mainGlobals "bells_in" = some (some (.ref f6))) (l6 : K.lookup f6 = some ⟨oc6, od6, .func (PySem.W.fnOf "bells_in" "bells_in" (defArgs s_bells_in) (defBody s_bells_in) (defScope s_bells_in) .none kV6 dc6 pm6 an6 cd6 ct6), sl6⟩) (c6 : PySem.W.codeIn K cd6 "bells_in" = true) (k6 : PySem.W.keepIn K (.ref f6) = true)
    (a7 : PySem.W.nsIn K mainGlobals "words_of" = some (some (.ref f7))) (l7 : K.lookup f7 = some ⟨oc7, od7, .func (PySem.W.fnOf "words_of" "words_of" (defArgs s_words_of) (defBody s_words_of) (defScope s_words_of) .none kV7 dc7 pm7 an7 cd7 ct7), sl7⟩) (c7 : PySem.W.codeIn K cd7 "words_of" = true) (k7 : PySem.W.keepIn K (.ref f7) = true)
    (a8 : PySem.W.nsIn K mainGlobals "bells_of" = some (some (.ref f8))) (l8 : K.lookup f8 = some ⟨oc8, od8, .func (PySem.W.fnOf "bells_of" "bells_of" (defArgs s_bells_of) (defBody s_bells_of) (defScope s_bells_of) .none kV8 dc8 pm8 an8 cd8 ct8), sl8⟩) (c8 : PySem.W.codeIn K cd8 "bells_of" = true) (k8 : PySem.W.keepIn K (.ref f8) = true)
    (a9 : PySem.W.nsIn K mainGlobals "put_together" = some (some (.ref f9))) (l9 : K.lookup f9 = some ⟨oc9, od9, .func (PySem.W.fnOf "put_together" "put_together" (defArgs s_put_together) (defBody s_put_together) (defScope s_put_together) .none kV9 dc9 pm9 an9 cd9 ct9), sl9⟩) (c9 : PySem.W.codeIn K cd9 "put_together" = true) (k9 : PySem.W.keepIn K (.ref f9) = true)
    (a10 : PySem.W.nsIn K mainGlobals "value_of" = some (some (.ref f10))) (l10 : K.lookup f10 = some ⟨oc10, od10, .func (PySem.W.fnOf "value_of" "value_of" (defArgs s_value_of) (defBody s_value_of) (defScope s_value_of) .none kV10 dc10 pm10 an10 cd10 ct10), sl10⟩) (c10 : PySem.W.codeIn K cd10 "value_of" = true) (k10 : PySem.W.keepIn K (.ref f10) = true)
    (a11 : PySem.W.nsIn K mainGlobals "_law_pot" = some (some (.ref f11))) (l11 : K.lookup f11 = some ⟨oc11, od11, .func (PySem.W.fnOf "_law_pot" "_law_pot" (defArgs s__law_pot) (defBody s__law_pot) (defScope s__law_pot) .none kV11 dc11 pm11 an11 cd11 ct11), sl11⟩) (c11 : PySem.W.codeIn K cd11 "_law_pot" = true) (k11 : PySem.W.keepIn K (.ref f11) = true)
    (a12 : PySem.W.nsIn K mainGlobals "_law_take" = some (some (.ref f12))) (l12 : K.lookup f12 = some ⟨oc12, od12, .func (PySem.W.fnOf "_law_take" "_law_take" (defArgs s__law_take) (defBody s__law_take) (defScope s__law_take) .none kV12 dc12 pm12 an12 cd12 ct12), sl12⟩) (c12 : PySem.W.codeIn K cd12 "_law_take" = true) (k12 : PySem.W.keepIn K (.ref f12) = true)
    (a13 : PySem.W.nsIn K mainGlobals "_law_of" = some (some (.ref f13))) (l13 : K.lookup f13 = some ⟨oc13, od13, .func (PySem.W.fnOf "_law_of" "_law_of" (defArgs s__law_of) (defBody s__law_of) (defScope s__law_of) .none kV13 dc13 pm13 an13 cd13 ct13), sl13⟩) (c13 : PySem.W.codeIn K cd13 "_law_of" = true) (k13 : PySem.W.keepIn K (.ref f13) = true)
    (a14 : PySem.W.nsIn K mainGlobals "_law_words" = some (some (.ref f14))) (l14 : K.lookup f14 = some ⟨oc14, od14, .func (PySem.W.fnOf "_law_words" "_law_words" (defArgs s__law_words) (defBody s__law_words) (defScope s__law_words) .none kV14 dc14 pm14 an14 cd14 ct14), sl14⟩) (c14 : PySem.W.codeIn K cd14 "_law_words" = true) (k14 : PySem.W.keepIn K (.ref f14) = true)
    (a15 : PySem.W.nsIn K mainGlobals "_law_bare" = some (some (.ref f15))) (l15 : K.lookup f15 = some ⟨oc15, od15, .func (PySem.W.fnOf "_law_bare" "_law_bare" (defArgs s__law_bare) (defBody s__law_bare) (defScope s__law_bare) .none kV15 dc15 pm15 an15 cd15 ct15), sl15⟩) (c15 : PySem.W.codeIn K cd15 "_law_bare" = true) (k15 : PySem.W.keepIn K (.ref f15) = true)
    (a16 : PySem.W.nsIn K mainGlobals "_law_sum" = some (some (.ref f16))) (l16 : K.lookup f16 = some ⟨oc16, od16, .func (PySem.W.fnOf "_law_sum" "_law_sum" (defArgs s__law_sum) (defBody s__law_sum) (defScope s__law_sum) .none kV16 dc16 pm16 an16 cd16 ct16), sl16⟩) (c16 : PySem.W.codeIn K cd16 "_law_sum" = true) (k16 : PySem.W.keepIn K (.ref f16) = true)
    (a17 : PySem.W.nsIn K mainGlobals "_law_put_in" = some (some (.ref f17))) (l17 : K.lookup f17 = some ⟨oc17, od17, .func (PySem.W.fnOf "_law_put_in" "_law_put_in" (defArgs s__law_put_in) (defBody s__law_put_in) (defScope s__law_put_in) .none kV17 dc17 pm17 an17 cd17 ct17), sl17⟩) (c17 : PySem.W.codeIn K cd17 "_law_put_in" = true) (k17 : PySem.W.keepIn K (.ref f17) = true)
    (a18 : PySem.W.nsIn K mainGlobals "_law_right" = some (some (.ref f18))) (l18 : K.lookup f18 = some ⟨oc18, od18, .func (PySem.W.fnOf "_law_right" "_law_right" (defArgs s__law_right) (defBody s__law_right) (defScope s__law_right) .none kV18 dc18 pm18 an18 cd18 ct18), sl18⟩) (c18 : PySem.W.codeIn K cd18 "_law_right" = true) (k18 : PySem.W.keepIn K (.ref f18) = true)
    (a19 : PySem.W.nsIn K mainGlobals "law" = some (some (.ref f19))) (l19 : K.lookup f19 = some ⟨oc19, od19, .func (PySem.W.fnOf "law" "law" (defArgs s_law) (defBody s_law) (defScope s_law) .none kV19 dc19 pm19 an19 cd19 ct19), sl19⟩) (c19 : PySem.W.codeIn K cd19 "law" = true) (k19 : PySem.W.keepIn K (.ref f19) = true)
    (z_all : PySem.W.nsIn K mainGlobals "all" = some none)
    (z_bool : PySem.W.nsIn K mainGlobals "bool" = some none)
    (z_dict : PySem.W.nsIn K mainGlobals "dict" = some none)
    (z_int : PySem.W.nsIn K mainGlobals "int" = some none)
    (z_isinstance : PySem.W.nsIn K mainGlobals "isinstance" = some none)
    (z_len : PySem.W.nsIn K mainGlobals "len" = some none)
    (z_list : PySem.W.nsIn K mainGlobals "list" = some none)
    (z_max : PySem.W.nsIn K mainGlobals "max" = some none)
    (z_min : PySem.W.nsIn K mainGlobals "min" = some none)
    (z_range : PySem.W.nsIn K mainGlobals "range" = some none)
    (z_set : PySem.W.nsIn K mainGlobals "set" = some none)
    (z_sorted : PySem.W.nsIn K mainGlobals "sorted" = some none)
    (z_str : PySem.W.nsIn K mainGlobals "str" = some none)
    (z_tuple : PySem.W.nsIn K mainGlobals "tuple" = some none)
    {t_LETTERS : Tok} (n_LETTERS : PySem.W.nsIn K mainGlobals "LETTERS" = some (some (.str "abcdefghijklmnopqrstuvwxyz" t_LETTERS)))
    {t_MOST_DEEP : Tok} (n_MOST_DEEP : PySem.W.nsIn K mainGlobals "MOST_DEEP" = some (some (.int 5 t_MOST_DEEP)))
    {t_MOST_SIGNS : Tok} (n_MOST_SIGNS : PySem.W.nsIn K mainGlobals "MOST_SIGNS" = some (some (.int 8 t_MOST_SIGNS)))
    {t_MOST_VALUE : Tok} (n_MOST_VALUE : PySem.W.nsIn K mainGlobals "MOST_VALUE" = some (some (.int 9 t_MOST_VALUE)))
    {t_TWO_PARTS_0 t_TWO_PARTS_1 t_TWO_PARTS_2 t_TWO_PARTS_3 t_TWO_PARTS_4 : Tok} {a_TWO_PARTS : Addr} {od_TWO_PARTS : Option Addr} {j_TWO_PARTS : Nat} {sl_TWO_PARTS : Array (Option Value)} (n_TWO_PARTS : PySem.W.nsIn K mainGlobals "TWO_PARTS" = some (some (.ref a_TWO_PARTS))) (e_TWO_PARTS : K.lookup a_TWO_PARTS = some ⟨.type "tuple", od_TWO_PARTS, .seq (List.toArray [.str "plus" t_TWO_PARTS_0, .str "minus" t_TWO_PARTS_1, .str "less" t_TWO_PARTS_2, .str "same" t_TWO_PARTS_3, .str "both" t_TWO_PARTS_4]) j_TWO_PARTS, sl_TWO_PARTS⟩)
    : ∃ T : Txt K mg, T.a_law = fa ∧ ∀ (s : Shared) (v : Value), BindsTo s T.f_law ⟨[v], []⟩ [("_law_script", v)] := by
  have e := hfa.symm.trans (PySem.W.mg_of X G a19)
  cases e
  exact ⟨{
    a_is_word := f0,
    f_is_word := _,
    F_is_word := fun_mk (st := s_is_word) l0 c0 k0,
    b_is_word := (fun_mk (st := s_is_word) l0 c0 k0).binds (ps := ["thing"]) fun _ _ _ _ _ _ us hl => match us, hl with | [_], _ => rfl,
    m_is_word := PySem.W.mg_of X G a0,
    a_is_value := f1,
    f_is_value := _,
    F_is_value := fun_mk (st := s_is_value) l1 c1 k1,
    b_is_value := (fun_mk (st := s_is_value) l1 c1 k1).binds (ps := ["thing"]) fun _ _ _ _ _ _ us hl => match us, hl with | [_], _ => rfl,
    m_is_value := PySem.W.mg_of X G a1,
    a_is_sum_within := f2,
    f_is_sum_within := _,
    F_is_sum_within := fun_mk (st := s_is_sum_within) l2 c2 k2,
    b_is_sum_within := (fun_mk (st := s_is_sum_within) l2 c2 k2).binds (ps := ["thing", "deep"]) fun _ _ _ _ _ _ us hl => match us, hl with | [_, _], _ => rfl,
    m_is_sum_within := PySem.W.mg_of X G a2,
    a_is_sum := f3,
    f_is_sum := _,
    F_is_sum := fun_mk (st := s_is_sum) l3 c3 k3,
    b_is_sum := (fun_mk (st := s_is_sum) l3 c3 k3).binds (ps := ["thing"]) fun _ _ _ _ _ _ us hl => match us, hl with | [_], _ => rfl,
    m_is_sum := PySem.W.mg_of X G a3,
    a_parts_of := f4,
    f_parts_of := _,
    F_parts_of := fun_mk (st := s_parts_of) l4 c4 k4,
    b_parts_of := (fun_mk (st := s_parts_of) l4 c4 k4).binds (ps := ["told"]) fun _ _ _ _ _ _ us hl => match us, hl with | [_], _ => rfl,
    m_parts_of := PySem.W.mg_of X G a4,
    a_words_in := f5,
    f_words_in := _,
    F_words_in := fun_mk (st := s_words_in) l5 c5 k5,
    b_words_in := (fun_mk (st := s_words_in) l5 c5 k5).binds (ps := ["told"]) fun _ _ _ _ _ _ us hl => match us, hl with | [_], _ => rfl,
    m_words_in := PySem.W.mg_of X G a5,
    a_bells_in := f6,
    f_bells_in := _,
    F_bells_in := fun_mk (st := s_bells_in) l6 c6 k6,
    b_bells_in := (fun_mk (st := s_bells_in) l6 c6 k6).binds (ps := ["told"]) fun _ _ _ _ _ _ us hl => match us, hl with | [_], _ => rfl,
    m_bells_in := PySem.W.mg_of X G a6,
    a_words_of := f7,
    f_words_of := _,
    F_words_of := fun_mk (st := s_words_of) l7 c7 k7,
    b_words_of := (fun_mk (st := s_words_of) l7 c7 k7).binds (ps := ["told"]) fun _ _ _ _ _ _ us hl => match us, hl with | [_], _ => rfl,
    m_words_of := PySem.W.mg_of X G a7,
    a_bells_of := f8,
    f_bells_of := _,
    F_bells_of := fun_mk (st := s_bells_of) l8 c8 k8,
    b_bells_of := (fun_mk (st := s_bells_of) l8 c8 k8).binds (ps := ["told"]) fun _ _ _ _ _ _ us hl => match us, hl with | [_], _ => rfl,
    m_bells_of := PySem.W.mg_of X G a8,
    a_put_together := f9,
    f_put_together := _,
    F_put_together := fun_mk (st := s_put_together) l9 c9 k9,
    b_put_together := (fun_mk (st := s_put_together) l9 c9 k9).binds (ps := ["word", "one", "other"]) fun _ _ _ _ _ _ us hl => match us, hl with | [_, _, _], _ => rfl,
    m_put_together := PySem.W.mg_of X G a9,
    a_value_of := f10,
    f_value_of := _,
    F_value_of := fun_mk (st := s_value_of) l10 c10 k10,
    b_value_of := (fun_mk (st := s_value_of) l10 c10 k10).binds (ps := ["told", "things", "waiting"]) fun _ _ _ _ _ _ us hl => match us, hl with | [_, _, _], _ => rfl,
    m_value_of := PySem.W.mg_of X G a10,
    a__law_pot := f11,
    f__law_pot := _,
    F__law_pot := fun_mk (st := s__law_pot) l11 c11 k11,
    b__law_pot := (fun_mk (st := s__law_pot) l11 c11 k11).binds (ps := ["_law_script"]) fun _ _ _ _ _ _ us hl => match us, hl with | [_], _ => rfl,
    m__law_pot := PySem.W.mg_of X G a11,
    a__law_take := f12,
    f__law_take := _,
    F__law_take := fun_mk (st := s__law_take) l12 c12 k12,
    b__law_take := (fun_mk (st := s__law_take) l12 c12 k12).binds (ps := ["_law_pot_here", "_law_many"]) fun _ _ _ _ _ _ us hl => match us, hl with | [_, _], _ => rfl,
    m__law_take := PySem.W.mg_of X G a12,
    a__law_of := f13,
    f__law_of := _,
    F__law_of := fun_mk (st := s__law_of) l13 c13 k13,
    b__law_of := (fun_mk (st := s__law_of) l13 c13 k13).binds (ps := ["_law_pot_here", "_law_some"]) fun _ _ _ _ _ _ us hl => match us, hl with | [_, _], _ => rfl,
    m__law_of := PySem.W.mg_of X G a13,
    a__law_words := f14,
    f__law_words := _,
    F__law_words := fun_mk (st := s__law_words) l14 c14 k14,
    b__law_words := (fun_mk (st := s__law_words) l14 c14 k14).binds (ps := ["_law_pot_here", "_law_many"]) fun _ _ _ _ _ _ us hl => match us, hl with | [_, _], _ => rfl,
    m__law_words := PySem.W.mg_of X G a14,
    a__law_bare := f15,
    f__law_bare := _,
    F__law_bare := fun_mk (st := s__law_bare) l15 c15 k15,
    b__law_bare := (fun_mk (st := s__law_bare) l15 c15 k15).binds (ps := ["_law_pot_here", "_law_words_here", "_law_bells"]) fun _ _ _ _ _ _ us hl => match us, hl with | [_, _, _], _ => rfl,
    m__law_bare := PySem.W.mg_of X G a15,
    a__law_sum := f16,
    f__law_sum := _,
    F__law_sum := fun_mk (st := s__law_sum) l16 c16 k16,
    b__law_sum := (fun_mk (st := s__law_sum) l16 c16 k16).binds (ps := ["_law_pot_here", "_law_words_here", "_law_bells", "_law_deep"]) fun _ _ _ _ _ _ us hl => match us, hl with | [_, _, _, _], _ => rfl,
    m__law_sum := PySem.W.mg_of X G a16,
    a__law_put_in := f17,
    f__law_put_in := _,
    F__law_put_in := fun_mk (st := s__law_put_in) l17 c17 k17,
    b__law_put_in := (fun_mk (st := s__law_put_in) l17 c17 k17).binds (ps := ["_law_told", "_law_word", "_law_other"]) fun _ _ _ _ _ _ us hl => match us, hl with | [_, _, _], _ => rfl,
    m__law_put_in := PySem.W.mg_of X G a17,
    a__law_right := f18,
    f__law_right := _,
    F__law_right := fun_mk (st := s__law_right) l18 c18 k18,
    b__law_right := (fun_mk (st := s__law_right) l18 c18 k18).binds (ps := ["_law_pot_here", "_law_told", "_law_word", "_law_other", "_law_words_here"]) fun _ _ _ _ _ _ us hl => match us, hl with | [_, _, _, _, _], _ => rfl,
    m__law_right := PySem.W.mg_of X G a18,
    a_law := _,
    f_law := _,
    F_law := fun_mk (st := s_law) l19 c19 k19,
    b_law := (fun_mk (st := s_law) l19 c19 k19).binds (ps := ["_law_script"]) fun _ _ _ _ _ _ us hl => match us, hl with | [_], _ => rfl,
    m_law := PySem.W.mg_of X G a19,
    z_all := PySem.W.mg_none_of X G z_all,
    z_bool := PySem.W.mg_none_of X G z_bool,
    z_dict := PySem.W.mg_none_of X G z_dict,
    z_int := PySem.W.mg_none_of X G z_int,
    z_isinstance := PySem.W.mg_none_of X G z_isinstance,
    z_len := PySem.W.mg_none_of X G z_len,
    z_list := PySem.W.mg_none_of X G z_list,
    z_max := PySem.W.mg_none_of X G z_max,
    z_min := PySem.W.mg_none_of X G z_min,
    z_range := PySem.W.mg_none_of X G z_range,
    z_set := PySem.W.mg_none_of X G z_set,
    z_sorted := PySem.W.mg_none_of X G z_sorted,
    z_str := PySem.W.mg_none_of X G z_str,
    z_tuple := PySem.W.mg_none_of X G z_tuple,
    c_LETTERS := Glob.str (PySem.W.mg_of X G n_LETTERS),
    c_MOST_DEEP := Glob.int (PySem.W.mg_of X G n_MOST_DEEP),
    c_MOST_SIGNS := Glob.int (PySem.W.mg_of X G n_MOST_SIGNS),
    c_MOST_VALUE := Glob.int (PySem.W.mg_of X G n_MOST_VALUE),
    c_TWO_PARTS := Glob.tup (PySem.W.mg_of X G n_TWO_PARTS) e_TWO_PARTS (Nat.le_of_ble_eq_true rfl) rfl rfl (.cons ⟨_, rfl⟩ (.cons ⟨_, rfl⟩ (.cons ⟨_, rfl⟩ (.cons ⟨_, rfl⟩ (.cons ⟨_, rfl⟩ (.nil)))))) }, rfl, fun s v => .of_eq rfl⟩
theorem ok_within (T : Txt K mg) : ∀ j, FnOk P w K mg base CX0 (j + 1) T.a_is_sum_within T.f_is_sum_within ["thing", "deep"] (FS K mg 2 (Sq.spWithin j))
  | 0 => fs_none fun args et R ⟨p, d, _, h, _⟩ => by omega
  | j + 1 => ok_is_sum_within T ((ok_is_word (k := 0) T Sq.is_word_ok).mono (by omega)) ((ok_is_value (k := 0) T Sq.is_value_ok).mono (by omega)) (ok_within T j) (Sq.within_ok j)
theorem ok_parts (T : Txt K mg) : FnOk P w K mg base CX0 1 T.a_parts_of T.f_parts_of ["told"] (FS K mg 1 Wb.spParts) := ok_parts_of (k := 0) T Wb.parts_ok
theorem ok_wi (T : Txt K mg) : ∀ j, FnOk P w K mg base CX0 (j + 2) T.a_words_in T.f_words_in ["told"] (FS K mg 1 (Wb.spTexts Wb.wordsL j))
  | 0 => fs_none fun args et R ⟨s, _, h, _⟩ => by have : 1 ≤ s.dep := (by cases s <;> simp [Lw.Sm.dep]); omega
  | j + 1 => ok_words_in T ((ok_parts T).mono (by omega)) (ok_wi T j) (Wb.words_ok j)
theorem ok_bi (T : Txt K mg) : ∀ j, FnOk P w K mg base CX0 (j + 2) T.a_bells_in T.f_bells_in ["told"] (FS K mg 1 (Wb.spTexts Wb.bellsL j))
  | 0 => fs_none fun args et R ⟨s, _, h, _⟩ => by have : 1 ≤ s.dep := (by cases s <;> simp [Lw.Sm.dep]); omega
  | j + 1 => ok_bells_in T ((ok_parts T).mono (by omega)) (ok_bi T j) (Wb.bells_ok j)
theorem ok_wo (T : Txt K mg) : FnOk P w K mg base CX0 8 T.a_words_of T.f_words_of ["told"] (FS K mg 1 (Wb.spSet Wb.wordsL)) := ok_words_of (k := 7) T (ok_wi T 5) Wb.words_of_ok
theorem ok_bo (T : Txt K mg) : FnOk P w K mg base CX0 8 T.a_bells_of T.f_bells_of ["told"] (FS K mg 1 (Wb.spSet Wb.bellsL)) := ok_bells_of (k := 7) T (ok_bi T 5) Wb.bells_of_ok
theorem ok_val (T : Txt K mg) : ∀ j, FnOk P w K mg base CX0 (j + 2) T.a_value_of T.f_value_of ["told", "things", "waiting"] (FS K mg 3 (Vl.spVal j))
  | 0 => fs_none fun args et R ⟨s, _, _, _, _, _, h, _⟩ => by have : 1 ≤ s.dep := (by cases s <;> simp [Lw.Sm.dep]); omega
  | j + 1 => ok_value_of T (ok_val T j) ((ok_put_together (k := 0) T Vl.put_ok).mono (by omega)) (Vl.val_ok j)
theorem ok_pin (T : Txt K mg) : ∀ j, FnOk P w K mg base CX0 (j + 2) T.a__law_put_in T.f__law_put_in ["_law_told", "_law_word", "_law_other"] (FS K mg 3 (Q6.spPutIn j))
  | 0 => fs_none fun args et R ⟨s, _, _, _, h, _⟩ => by have : 1 ≤ s.dep := (by cases s <;> simp [Lw.Sm.dep]); omega
  | j + 1 => ok__law_put_in T (ok_pin T j) (Q6.put_in_ok j)
theorem ok_iss (T : Txt K mg) : FnOk P w K mg base CX0 8 T.a_is_sum T.f_is_sum ["thing"] (FS K mg 1 Sq.spIsSum) := ok_is_sum (k := 7) T (ok_within T 6) Sq.is_sum_ok
theorem ok_take (T : Txt K mg) : FnOk P w K mg base CX0 1 T.a__law_take T.f__law_take ["_law_pot_here", "_law_many"] (FS K mg 2 spTake) := (ok__law_take (k := 0) T Lw.take_ok).imp fun _ _ _ _ z => take_imp z
theorem ok_of (T : Txt K mg) : FnOk P w K mg base CX0 2 T.a__law_of T.f__law_of ["_law_pot_here", "_law_some"] (FS K mg 2 Lw.spOf) := ok__law_of T (ok_take T) Lw.of_ok
theorem ok_sums (T : Txt K mg) : ∀ j, FnOk P w K mg base CX0 (j + 3) T.a__law_sum T.f__law_sum ["_law_pot_here", "_law_words_here", "_law_bells", "_law_deep"] (FS K mg 4 (Lw.spSum j))
  | 0 => fs_none fun args et R ⟨n, d, _, _, _, h, _⟩ => by omega
  | j + 1 => ok__law_sum T ((ok_take T).mono (by omega)) ((ok__law_bare (k := 2) T ((ok_take T).mono (by omega)) (ok_of T) Lw.bare_ok).mono (by omega)) (ok_sums T j) ((ok_of T).mono (by omega)) (Lw.sum_ok j)
theorem all_ok (T : Txt K mg) : FnOk P w K mg base CX0 10 T.a_law T.f_law ["_law_script"] (FS K mg 1 spLaw) :=
  ok_law T (((ok__law_pot (k := 0) T Lw.pot_ok).imp fun _ _ _ _ z => pot_imp z).mono (by decide)) ((ok__law_words (k := 2) T (ok_of T) ((ok_take T).mono (by decide)) Lw.words_ok).mono (by decide)) ((ok_sums T 6).mono (by decide)) ((ok_take T).mono (by decide))
    (ok__law_right (k := 8) T ((ok_take T).mono (by decide)) ((ok_pin T 5).mono (by decide)) (ok_val T 6) (ok_iss T) (ok_wo T) (ok_bo T) Q6.right_ok) ((ok_of T).mono (by decide)) Q6.law_ok
end K06
open PySem PySem.W PyProof.Rows
set_option maxRecDepth 100000 in
set_option maxHeartbeats 0 in
theorem PySem.Challenge.cw_calledroom_k06_whole_sums_in_the_place_o_holds : PySem.Challenge.rw_calledroom_k06_whole_sums_in_the_place_o.Holds := by
  w_on; o_law; k_head; (case hw => w_witness2)
  k_fill
  refine Mw.top_walk (l := PySem.Challenge.rw_calledroom_k06_whole_sums_in_the_place_o) (k := 10) (x := "_law_script") rfl rfl ⟨rfl, by decide, by decide⟩ (fun w h Y => PySem.W.kIn_of Y) ?F
  case F =>
    intro w mg fa h KX G hmg
    refine (fun z : ∃ T : K06.Txt _ mg, T.a_law = fa ∧ ∀ (s : Shared) (v : Value), BindsTo s T.f_law ⟨[v], []⟩ [("_law_script", v)] => z.elim fun T z => ⟨T.f_law, z.2, fun base _ _ => z.1 ▸ K06.all_ok T⟩) ?_
    refine' K06.txt_mk KX G hmg ?a0 ?l0 ?c0 ?k0 ?a1 ?l1 ?c1 ?k1 ?a2 ?l2 ?c2 ?k2 ?a3 ?l3 ?c3 ?k3 ?a4 ?l4 ?c4 ?k4 ?a5 ?l5 ?c5 ?k5 ?a6 ?l6 ?c6 ?k6 ?a7 ?l7 ?c7 ?k7 ?a8 ?l8 ?c8 ?k8 ?a9 ?l9 ?c9 ?k9 ?a10 ?l10 ?c10 ?k10 ?a11 ?l11 ?c11 ?k11 ?a12 ?l12 ?c12 ?k12 ?a13 ?l13 ?c13 ?k13 ?a14 ?l14 ?c14 ?k14 ?a15 ?l15 ?c15 ?k15 ?a16 ?l16 ?c16 ?k16 ?a17 ?l17 ?c17 ?k17 ?a18 ?l18 ?c18 ?k18 ?a19 ?l19 ?c19 ?k19 ?z_all ?z_bool ?z_dict ?z_int ?z_isinstance ?z_len ?z_list ?z_max ?z_min ?z_range ?z_set ?z_sorted ?z_str ?z_tuple ?n_LETTERS ?n_MOST_DEEP ?n_MOST_SIGNS ?n_MOST_VALUE ?n_TWO_PARTS ?e_TWO_PARTS
    (case a0 => k_is); (case l0 => k_is); (case c0 => k_is); (case k0 => k_is); (case a1 => k_is); (case l1 => k_is)
    (case c1 => k_is); (case k1 => k_is); (case a2 => k_is); (case l2 => k_is); (case c2 => k_is); (case k2 => k_is)
    (case a3 => k_is); (case l3 => k_is); (case c3 => k_is); (case k3 => k_is); (case a4 => k_is); (case l4 => k_is)
    (case c4 => k_is); (case k4 => k_is); (case a5 => k_is); (case l5 => k_is); (case c5 => k_is); (case k5 => k_is)
    (case a6 => k_is); (case l6 => k_is); (case c6 => k_is); (case k6 => k_is); (case a7 => k_is); (case l7 => k_is)
    (case c7 => k_is); (case k7 => k_is); (case a8 => k_is); (case l8 => k_is); (case c8 => k_is); (case k8 => k_is)
    (case a9 => k_is); (case l9 => k_is); (case c9 => k_is); (case k9 => k_is); (case a10 => k_is); (case l10 => k_is)
    (case c10 => k_is); (case k10 => k_is); (case a11 => k_is); (case l11 => k_is); (case c11 => k_is); (case k11 => k_is)
    (case a12 => k_is); (case l12 => k_is); (case c12 => k_is); (case k12 => k_is); (case a13 => k_is); (case l13 => k_is)
    (case c13 => k_is); (case k13 => k_is); (case a14 => k_is); (case l14 => k_is); (case c14 => k_is); (case k14 => k_is)
    (case a15 => k_is); (case l15 => k_is); (case c15 => k_is); (case k15 => k_is); (case a16 => k_is); (case l16 => k_is)
    (case c16 => k_is); (case k16 => k_is); (case a17 => k_is); (case l17 => k_is); (case c17 => k_is); (case k17 => k_is)
    (case a18 => k_is); (case l18 => k_is); (case c18 => k_is); (case k18 => k_is); (case a19 => k_is); (case l19 => k_is)
    (case c19 => k_is); (case k19 => k_is); (case z_all => k_is); (case z_bool => k_is); (case z_dict => k_is); (case z_int => k_is)
    (case z_isinstance => k_is); (case z_len => k_is); (case z_list => k_is); (case z_max => k_is); (case z_min => k_is); (case z_range => k_is)
    (case z_set => k_is); (case z_sorted => k_is); (case z_str => k_is); (case z_tuple => k_is); (case n_LETTERS => k_is); (case n_MOST_DEEP => k_is)
    (case n_MOST_SIGNS => k_is); (case n_MOST_VALUE => k_is); (case n_TWO_PARTS => k_is); (case e_TWO_PARTS => k_is)

