import PyProof.Rows.All
import Wide.All
import OpenK.AllK
import Wide.FinOn
import HandS.List
import HandS.Comp
import HandS.Dict
import HandS.Iter
import HandS.Text
import HandS.Words
import HandS.WordsList
import KE.KDictKeyed
import HandS.Exc
import HandS.Wide
import HandS.IsInst
import HandS.TupAny
import HandS.Deep
import HandS.Style
import HandS.Flow
import HandS.Strs
import HandS.SetKeys
import HandS.More
import HandS.StrMore
import HandS.RaiseMore
import HandS.Zip
import KE.GoesEnum
import HandS.Ends
import HandS.Conv
import KE.KEqNest
import HandS.TupSets
import PyProof.Rows.StrMeet
import HandS.SortOrd
import HandS.TupMul
import KE.KDictZip
import HandS.CallLocal
import HandS.WrittenGet
import HandS.SortInts
import HandS.TryOnly
import KE.KDictDisplayH
import HandS.Rev
import KE.SortData
import KE.DataMinMax
import PyProof.Rows.RowBridgeK
import HandS.ListItems
import KE.KDictPairs
import HandS.ExcInit
import HandS.ExcOwn
import HandS.ExcIs
import HandS.WordsExc
import HandS.ExcValue
import HandS.ExcField
import PyProof.ReprReads
import PyProof.ReprBulk
import PySem.Challenge.RW_calledroom_k65_rooms_of_the_other_manner
set_option Elab.async false
set_option linter.all false
set_option maxRecDepth 100000
set_option autoImplicit false
namespace Mw
open PySem PySem.Spec L2
inductive Ty where
  | int | bool | str | tup | lst | dic
  deriving DecidableEq
def Ty.name : Ty → String
  | .int => "int" | .bool => "bool" | .str => "str" | .tup => "tuple" | .lst => "list" | .dic => "dict"
inductive PV where
  | non | bl (b : Bool) | int (i : Int) | str (x : Str) | tup (xs : List PV) | lst (xs : List PV) | dic (kvs : List (Key × PV)) | scr (ns : List Int) | ref (n : Nat) | glo (x : Str) | ty (t : Ty) | dik (kvs : List (Key × PV))
inductive Slot where
  | no | val (p : PV) | own (p : PV)
inductive Cell where
  | dead | lst (xs : List PV) | dic (ks : List (Key × PV)) | ins (c : Str) (fs : List (Str × PV)) | potO (k n : Nat) | potI | inv (P : List V → Prop) | nd (kvs : List (PV × PV)) | exc (c : Str) (fs : List (Str × Int))
mutual
def nh : NestedKey → Int
  | .none => reduceHash 0xFCA86420
  | .num i => hashInt i
  | .text _ => 0
  | .tup ks => reduceHash (Builtin.Tuple.tupleHashOf (nhs ks))
def nhs : List NestedKey → List Int
  | [] => []
  | k :: ks => nh k :: nhs ks
end
mutual
def nlow : NestedKey → Bool
  | .none => true
  | .num _ => true
  | .text _ => false
  | .tup ks => nlows ks
def nlows : List NestedKey → Bool
  | [] => true
  | k :: ks => nlow k && nlows ks
end
mutual
def nkP : PV → Option NestedKey
  | .non => some .none
  | .bl b => some (.num (if b = true then 1 else 0))
  | .int i => some (.num i)
  | .str x => some (.text x)
  | .tup xs => (nkPs xs).map .tup
  | _ => none
def nkPs : List PV → Option (List NestedKey)
  | [] => some []
  | x :: xs => (nkP x).bind fun k => (nkPs xs).map fun ks => k :: ks
end
def DN (a : Addr) (es : List (NestedKey × Addr × V)) : HO := .ext fun h => (a == sysModules) = false ∧ es.length ≤ sizeLine ∧ (es.map (·.1)).Nodup ∧
  ∃ (xs : List (NestedKey × Addr × Value)) (o : Obj) (ds : Array DictEntry) (ep : Nat), Paired (fun (p : NestedKey × Addr × V) (q : NestedKey × Addr × Value) => p.1 = q.1 ∧ p.2.1 = q.2.1 ∧ RelV p.2.2 q.2.2) es xs ∧
    h.get? a = some o ∧ o.ExactDict ∧ o.data = .dict ds ep ∧ ds.toList = xs.map fun x => ⟨nh x.1, .ref x.2.1, x.2.2⟩
abbrev En := List Slot
abbrev Hi := List Cell
structure Wd where
  fz : Addr → Prop
  mu : List Addr
def ExcH (cls : Value) (d : Option Addr) (a : Addr) : HO := .ext fun h => ∃ (oe : Obj) (vs : Array Value), h.get? a = some oe ∧ Zc cls d oe ∧ oe.data = .fields vs
section
variable (K : PySem.W.Frag) (mg : Str → Option Value) (W : Wd) (H : Hp)
def XTup (o : Obj) : Prop := o.cls = .type "tuple" ∧ o.dict = none
def SqX (a : Addr) (xs : List V) : Prop := (∃ o, XTup o ∧ H a = some (.frz o (.tup xs))) ∨ ∃ (o : Obj) (its : Array Value) (n : Nat), K.lookup a = some o ∧ o.cls = .type "tuple" ∧ o.dict = none ∧ o.data = .seq its n ∧ its.size ≤ sizeLine ∧ Vals xs its.toList
theorem SqX.sq {K : PySem.W.Frag} {H : Hp} {a : Addr} {xs : List V} (h : SqX K H a xs) : SqT K H a xs := by
  rcases h with ⟨o, _, h⟩ | ⟨o, its, n, h1, h2, _, h3⟩
  · exact .inl (.inr ⟨o, h⟩)
  · exact .inr ⟨o, its, n, h1, h2, h3⟩
instance sqxCoe {K : PySem.W.Frag} {H : Hp} {a : Addr} {xs : List V} : Coe (SqX K H a xs) (SqT K H a xs) := ⟨SqX.sq⟩
def Scr (a : Addr) (xs : List V) : Prop := (∃ o, H a = some (.frz o (.lst xs))) ∨ ∃ (o : Obj) (its : Array Value) (n : Nat), K.lookup a = some o ∧ o.cls = .type "list" ∧ o.dict = none ∧ o.data = .seq its n ∧ its.size ≤ sizeLine ∧ Vals xs its.toList
mutual
def VR : PV → V → Prop
  | .non, v => v = .non
  | .bl b, v => v = .bl b
  | .int i, v => v = .int i
  | .str x, v => v = .str x
  | .tup xs, v => ∃ a vs, v = .ref a ∧ SqX K H a vs ∧ VRs xs vs
  | .lst xs, v => ∃ a vs, v = .ref a ∧ W.fz a ∧ H a = some (.lst vs) ∧ VRs xs vs
  | .dic kvs, v => ∃ a ks, v = .ref a ∧ W.fz a ∧ H a = some (.dK ks) ∧ VRk kvs ks
  | .scr ns, v => ∃ a, v = .ref a ∧ Scr K H a (ns.map V.int)
  | .ref n, v => ∃ a, v = .ref a ∧ W.mu[n]? = some a
  | .glo x, v => ∃ u, mg x = some u ∧ RelV v u
  | .ty t, v => v = .ty t.name
  | .dik kvs, v => ∃ a o ks, v = .ref a ∧ H a = some (.frz o (.dK ks)) ∧ VRk kvs ks
def VRs : List PV → List V → Prop
  | [], vs => vs = []
  | p :: ps, vs => ∃ v r, vs = v :: r ∧ VR p v ∧ VRs ps r
def VRk : List (Key × PV) → List (Key × V) → Prop
  | [], vs => vs = []
  | (k, p) :: ps, vs => ∃ v r, vs = (k, v) :: r ∧ VR p v ∧ VRk ps r
end
def VRf : List (Str × PV) → List (Str × V) → Prop
  | [], vs => vs = []
  | (k, p) :: ps, vs => ∃ v r, vs = (k, v) :: r ∧ VR K mg W H p v ∧ VRf ps r
def VRn : List (PV × PV) → List (NestedKey × Addr × V) → Prop
  | [], vs => vs = []
  | (p, q) :: ps, vs => ∃ k b v r, vs = (k, b, v) :: r ∧ nkP p = some k ∧ nlow k = true ∧ k.depth ≤ 8 ∧ VR K mg W H p (.ref b) ∧ VR K mg W H q v ∧ VRn ps r
def OwnAt : PV → Addr → Prop
  | .lst xs, a => ∃ vs, H a = some (.lst vs) ∧ VRs K mg W H xs vs
  | .dic ks, a => ∃ vs, H a = some (.dK vs) ∧ VRk K mg W H ks vs
  | _, _ => False
def CellOk : Cell → Addr → Prop
  | .dead, _ => True
  | .lst xs, a => ∃ vs, H a = some (.lst vs) ∧ VRs K mg W H xs vs
  | .dic xs, a => ∃ vs, H a = some (.dK vs) ∧ VRk K mg W H xs vs
  | .potO k n, a => ∃ b sd ct, W.mu[k]? = some b ∧ H a = some (.lst [.ref b, .int sd, .int ct]) ∧ 0 ≤ sd ∧ sd < 2305843009213693951 ∧ 0 ≤ ct ∧ ct + (n : Int) ≤ 1099511627776
  | .potI, a => ∃ is : List Int, H a = some (.lst (is.map V.int)) ∧ ∀ i ∈ is, 0 ≤ i
  | .inv P, a => ∃ vs, H a = some (.lst vs) ∧ P vs
  | .ins c fs, a => ∃ C dx gs, mg c = some (.ref C) ∧ H a = some (.ins C dx gs) ∧ VRf K mg W H fs gs
  | .exc c fs, a => ∃ C d, mg c = some (.ref C) ∧ H a = some (ExcH (.ref C) d a) ∧ ((fs = [] ∧ d = none) ∨ ∃ dd, d = some dd ∧ H dd = some (.xd (fs.map fun x => (x.1, V.int x.2))))
  | .nd kvs, a => (kvs = [] ∧ H a = some (.dK [])) ∨ ∃ es, H a = some (DN a es) ∧ VRn K mg W H kvs es
end
def Live (et : Hi) (W : Wd) (a : Addr) : Prop := ∃ (i : Nat) (c : Cell), et[i]? = some c ∧ c ≠ Cell.dead ∧ W.mu[i]? = some a
def Own (ep : En) (sg : L2.St) (a : Addr) : Prop := ∃ (i : Nat) (p : PV), ep[i]? = some (Slot.own p) ∧ sg[i]? = some (some (V.ref a))
structure Cel (K : PySem.W.Frag) (mg : Str → Option Value) (H : Hp) (et : Hi) (W : Wd) : Prop where
  len : et.length = W.mu.length
  ok : ∀ (i : Nat) (c : Cell) (a : Addr), et[i]? = some c → W.mu[i]? = some a → CellOk K mg W H c a
  inj : ∀ (i j : Nat) (c d : Cell) (a : Addr), et[i]? = some c → et[j]? = some d → c ≠ .dead → d ≠ .dead → W.mu[i]? = some a → W.mu[j]? = some a → i = j
  fzl : ∀ a, W.fz a → ¬ Live et W a
  fzh : ∀ a, W.fz a → H a ≠ none
def SlotOk (K : PySem.W.Frag) (mg : Str → Option Value) (W : Wd) (H : Hp) : Slot → Option V → Prop
  | .no, _ => True
  | .val p, o => ∃ v, o = some v ∧ VR K mg W H p v
  | .own p, o => ∃ a, o = some (.ref a) ∧ OwnAt K mg W H p a
structure Slt (K : PySem.W.Frag) (mg : Str → Option Value) (sg : L2.St) (ep : En) (H : Hp) (et : Hi) (W : Wd) : Prop where
  len : ep.length = sg.length
  ok : ∀ (i : Nat) (s : Slot) (o : Option V), ep[i]? = some s → sg[i]? = some o → SlotOk K mg W H s o
  inj : ∀ (i j : Nat) (p q : PV) (a : Addr), ep[i]? = some (Slot.own p) → ep[j]? = some (Slot.own q) → sg[i]? = some (some (V.ref a)) → sg[j]? = some (some (V.ref a)) → i = j
  ofz : ∀ a, Own ep sg a → ¬ W.fz a
  oli : ∀ a, Own ep sg a → ¬ Live et W a
structure Ext (O : Addr → Prop) (H : Hp) (et : Hi) (W : Wd) (H' : Hp) (et' : Hi) (W' : Wd) : Prop where
  fz : ∀ a, W.fz a → W'.fz a
  nfz : ∀ a, W'.fz a → W.fz a ∨ H a = none ∨ O a
  mu : ∃ m, W'.mu = W.mu ++ m
  live : ∀ a, Live et' W' a → Live et W a ∨ H a = none
  keep : ∀ a o, H a = some o → ¬ Live et W a → ¬ O a → H' a = some o
  there : ∀ a, H a ≠ none → H' a ≠ none
def NoO : Addr → Prop := fun _ => False
theorem Ext.refl (O : Addr → Prop) (H : Hp) (et : Hi) (W : Wd) : Ext O H et W H et W :=
  ⟨fun _ h => h, fun _ h => .inl h, ⟨[], by simp⟩, fun _ h => .inl h, fun _ _ h _ _ => h, fun _ h => h⟩
theorem Ext.trans {O O' : Addr → Prop} {H H1 H2 : Hp} {et et1 et2 : Hi} {W W1 W2 : Wd} (x : Ext O H et W H1 et1 W1) (y : Ext O' H1 et1 W1 H2 et2 W2) (ho : ∀ a, O' a → O a ∨ H a = none) : Ext O H et W H2 et2 W2 where
  fz := fun a h => y.fz a (x.fz a h)
  nfz := fun a h => by
    have back : H1 a = none → H a = none := fun e => by
      cases q : H a with
      | none => rfl
      | some o => exact absurd e (x.there a (by rw [q]; simp))
    rcases y.nfz a h with h | h | h
    · exact x.nfz a h
    · exact .inr (.inl (back h))
    · rcases ho a h with h | h
      · exact .inr (.inr h)
      · exact .inr (.inl h)
  mu := by
    obtain ⟨m, e⟩ := x.mu
    obtain ⟨m', e'⟩ := y.mu
    exact ⟨m ++ m', by rw [e', e, List.append_assoc]⟩
  live := fun a h => by
    rcases y.live a h with h | h
    · exact x.live a h
    · refine .inr ?_
      cases q : H a with
      | none => rfl
      | some o => exact absurd h (x.there a (by rw [q]; simp))
  keep := fun a o h hl hO => by
    have h1 := x.keep a o h hl hO
    refine y.keep a o h1 (fun z => ?_) (fun z => ?_)
    · rcases x.live a z with z | z
      · exact hl z
      · rw [h] at z; cases z
    · rcases ho a z with z | z
      · exact hO z
      · rw [h] at z; cases z
  there := fun a h => y.there a (x.there a h)
theorem Ext.mono {O O' : Addr → Prop} {H H1 : Hp} {et et1 : Hi} {W W1 : Wd} (x : Ext O H et W H1 et1 W1) (ho : ∀ a, O a → O' a) : Ext O' H et W H1 et1 W1 :=
  ⟨x.fz, fun a h => (x.nfz a h).imp_right fun h => h.imp_right (ho a), x.mu, x.live, fun a o h hl hO => x.keep a o h hl fun z => hO (ho a z), x.there⟩
theorem Ext.mu_get {O : Addr → Prop} {H H1 : Hp} {et et1 : Hi} {W W1 : Wd} (x : Ext O H et W H1 et1 W1) {n : Nat} {a : Addr} (h : W.mu[n]? = some a) : W1.mu[n]? = some a := by
  obtain ⟨m, e⟩ := x.mu
  rw [e, List.getElem?_append_left (by exact (List.getElem?_eq_some_iff.mp h).1)]
  exact h
structure Stays (O : Addr → Prop) (H : Hp) (et : Hi) (W : Wd) : Prop where
  fz : ∀ a, W.fz a → ¬ Live et W a ∧ ¬ O a
  tup : ∀ a xs, H a = some (.tup xs) → ¬ Live et W a ∧ ¬ O a
  frz : ∀ a o u, H a = some (.frz o u) → ¬ Live et W a ∧ ¬ O a
  xd : ∀ a fs, H a = some (.xd fs) → ¬ Live et W a ∧ ¬ O a
theorem Rd.ext {O : Addr → Prop} {H H1 : Hp} {et et1 : Hi} {W W1 : Wd} (x : Ext O H et W H1 et1 W1) (s : Stays O H et W) {a : Addr} {xs : List V} (h : Rd H a (.tup xs)) : Rd H1 a (.tup xs) := by
  rcases h with h | ⟨o, h⟩
  · exact .inl (x.keep a _ h (s.tup a xs h).1 (s.tup a xs h).2)
  · exact .inr ⟨o, x.keep a _ h (s.frz a o _ h).1 (s.frz a o _ h).2⟩
theorem SqT.ext {K : PySem.W.Frag} {O : Addr → Prop} {H H1 : Hp} {et et1 : Hi} {W W1 : Wd} (x : Ext O H et W H1 et1 W1) (s : Stays O H et W) {a : Addr} {xs : List V} (h : SqT K H a xs) : SqT K H1 a xs := by
  rcases h with h | h
  · exact .inl (Rd.ext x s h)
  · exact .inr h
theorem SqX.ext {K : PySem.W.Frag} {O : Addr → Prop} {H H1 : Hp} {et et1 : Hi} {W W1 : Wd} (x : Ext O H et W H1 et1 W1) (s : Stays O H et W) {a : Addr} {xs : List V} (h : SqX K H a xs) : SqX K H1 a xs := by
  rcases h with ⟨o, ho, h⟩ | h
  · exact .inl ⟨o, ho, x.keep a _ h (s.frz a o _ h).1 (s.frz a o _ h).2⟩
  · exact .inr h
section
variable {K : PySem.W.Frag} {mg : Str → Option Value} {O : Addr → Prop} {H H1 : Hp} {et et1 : Hi} {W W1 : Wd}
mutual
theorem VR.ext (x : Ext O H et W H1 et1 W1) (s : Stays O H et W) : ∀ (p : PV) (v : V), VR K mg W H p v → VR K mg W1 H1 p v
  | .non, v, h => by unfold VR at *; exact h
  | .bl b, v, h => by unfold VR at *; exact h
  | .int i, v, h => by unfold VR at *; exact h
  | .str z, v, h => by unfold VR at *; exact h
  | .tup xs, v, h => by
    unfold VR at *
    obtain ⟨a, vs, e, h1, h2⟩ := h
    exact ⟨a, vs, e, SqX.ext x s h1, VRs.ext x s xs vs h2⟩
  | .lst xs, v, h => by
    unfold VR at *
    obtain ⟨a, vs, e, h1, h2, h3⟩ := h
    exact ⟨a, vs, e, x.fz a h1, x.keep a _ h2 (s.fz a h1).1 (s.fz a h1).2, VRs.ext x s xs vs h3⟩
  | .dic ks, v, h => by
    unfold VR at *
    obtain ⟨a, vs, e, h1, h2, h3⟩ := h
    exact ⟨a, vs, e, x.fz a h1, x.keep a _ h2 (s.fz a h1).1 (s.fz a h1).2, VRk.ext x s ks vs h3⟩
  | .scr ns, v, h => by
    unfold VR at *
    obtain ⟨a, e, h⟩ := h
    refine ⟨a, e, ?_⟩
    rcases h with ⟨o, h⟩ | h
    · exact .inl ⟨o, x.keep a _ h (s.frz a o _ h).1 (s.frz a o _ h).2⟩
    · exact .inr h
  | .ref n, v, h => by
    unfold VR at *
    obtain ⟨a, e, h⟩ := h
    exact ⟨a, e, x.mu_get h⟩
  | .glo z, v, h => by unfold VR at *; exact h
  | .ty t, v, h => by unfold VR at *; exact h
  | .dik ks, v, h => by
    unfold VR at *
    obtain ⟨a, o, vs, e, h2, h3⟩ := h
    exact ⟨a, o, vs, e, x.keep a _ h2 (s.frz a o _ h2).1 (s.frz a o _ h2).2, VRk.ext x s ks vs h3⟩
theorem VRs.ext (x : Ext O H et W H1 et1 W1) (s : Stays O H et W) : ∀ (p : List PV) (v : List V), VRs K mg W H p v → VRs K mg W1 H1 p v
  | [], v, h => by unfold VRs at *; exact h
  | p :: ps, vs, h => by
    unfold VRs at *
    obtain ⟨v, r, e, h1, h2⟩ := h
    exact ⟨v, r, e, VR.ext x s p v h1, VRs.ext x s ps r h2⟩
theorem VRk.ext (x : Ext O H et W H1 et1 W1) (s : Stays O H et W) : ∀ (p : List (Key × PV)) (v : List (Key × V)), VRk K mg W H p v → VRk K mg W1 H1 p v
  | [], v, h => by unfold VRk at *; exact h
  | (k, p) :: ps, vs, h => by
    unfold VRk at *
    obtain ⟨v, r, e, h1, h2⟩ := h
    exact ⟨v, r, e, VR.ext x s p v h1, VRk.ext x s ps r h2⟩
end
theorem VRf.ext (x : Ext O H et W H1 et1 W1) (s : Stays O H et W) : ∀ (p : List (Str × PV)) (v : List (Str × V)), VRf K mg W H p v → VRf K mg W1 H1 p v
  | [], v, h => by unfold VRf at *; exact h
  | (k, p) :: ps, vs, h => by
    unfold VRf at *
    obtain ⟨v, r, e, h1, h2⟩ := h
    exact ⟨v, r, e, VR.ext x s p v h1, VRf.ext x s ps r h2⟩
theorem VRn.ext (x : Ext O H et W H1 et1 W1) (s : Stays O H et W) : ∀ (p : List (PV × PV)) (v : List (NestedKey × Addr × V)), VRn K mg W H p v → VRn K mg W1 H1 p v
  | [], v, h => by unfold VRn at *; exact h
  | (p, q) :: ps, vs, h => by
    unfold VRn at *
    obtain ⟨k, b, v, r, e, h1, h2, h3, h4, h5, h6⟩ := h
    exact ⟨k, b, v, r, e, h1, h2, h3, VR.ext x s p _ h4, VR.ext x s q v h5, VRn.ext x s ps r h6⟩
def Chg : HO → Prop
  | .lst _ => True
  | .dK _ => True
  | .ins _ _ _ => True
  | .ext _ => True
  | _ => False
theorem Cel.live_is (c : Cel K mg H et W) {a : Addr} (h : Live et W a) : ∃ o, H a = some o ∧ Chg o := by
  obtain ⟨i, d, e1, e2, e3⟩ := h
  have q := c.ok i d a e1 e3
  cases d with
  | dead => exact absurd rfl e2
  | lst xs => obtain ⟨vs, h, _⟩ := q; exact ⟨_, h, trivial⟩
  | dic xs => obtain ⟨vs, h, _⟩ := q; exact ⟨_, h, trivial⟩
  | potO k n => obtain ⟨b, sd, ct, _, h, _⟩ := q; exact ⟨_, h, trivial⟩
  | potI => obtain ⟨is, h, _⟩ := q; exact ⟨_, h, trivial⟩
  | inv P => obtain ⟨vs, h, _⟩ := q; exact ⟨_, h, trivial⟩
  | nd kvs => rcases q with ⟨_, h⟩ | ⟨es, h, _⟩ <;> exact ⟨_, h, trivial⟩
  | exc k fs => obtain ⟨C, d, _, h, _⟩ := q; exact ⟨_, h, trivial⟩
  | ins k fs => obtain ⟨C, dx, gs, _, h, _⟩ := q; exact ⟨_, h, trivial⟩
theorem Cel.stays0 (c : Cel K mg H et W) : Stays NoO H et W where
  fz := fun a h => ⟨c.fzl a h, id⟩
  tup := fun a xs h => ⟨fun z => by obtain ⟨o, q, k⟩ := c.live_is z; rw [h] at q; cases q; exact k, id⟩
  frz := fun a o u h => ⟨fun z => by obtain ⟨o, q, k⟩ := c.live_is z; rw [h] at q; cases q; exact k, id⟩
  xd := fun a fs h => ⟨fun z => by obtain ⟨o, q, k⟩ := c.live_is z; rw [h] at q; cases q; exact k, id⟩
theorem own_is {sg : L2.St} {ep : En} (s : Slt K mg sg ep H et W) {a : Addr} (h : Own ep sg a) : (∃ vs, H a = some (.lst vs)) ∨ ∃ ks, H a = some (.dK ks) := by
  obtain ⟨i, p, e1, e2⟩ := h
  obtain ⟨b, e, q⟩ := s.ok i _ _ e1 e2
  cases e
  unfold OwnAt at q
  split at q
  · obtain ⟨vs, h, _⟩ := q; exact .inl ⟨vs, h⟩
  · obtain ⟨vs, h, _⟩ := q; exact .inr ⟨vs, h⟩
  · cases q
theorem Slt.stays (c : Cel K mg H et W) {sg : L2.St} {ep : En} (s : Slt K mg sg ep H et W) : Stays (Own ep sg) H et W where
  fz := fun a h => ⟨c.fzl a h, fun z => s.ofz a z h⟩
  tup := fun a xs h => ⟨(c.stays0.tup a xs h).1, fun z => by rcases own_is s z with ⟨_, q⟩ | ⟨_, q⟩ <;> (rw [h] at q; cases q)⟩
  frz := fun a o u h => ⟨(c.stays0.frz a o u h).1, fun z => by rcases own_is s z with ⟨_, q⟩ | ⟨_, q⟩ <;> (rw [h] at q; cases q)⟩
  xd := fun a fs h => ⟨(c.stays0.xd a fs h).1, fun z => by rcases own_is s z with ⟨_, q⟩ | ⟨_, q⟩ <;> (rw [h] at q; cases q)⟩
theorem OwnAt.ext (x : Ext NoO H et W H1 et1 W1) (c : Cel K mg H et W) {p : PV} {a : Addr} (h : OwnAt K mg W H p a) (hl : ¬ Live et W a) : OwnAt K mg W1 H1 p a := by
  unfold OwnAt at *
  split at h
  · obtain ⟨vs, h1, h2⟩ := h; exact ⟨vs, x.keep a _ h1 hl id, VRs.ext x c.stays0 _ _ h2⟩
  · obtain ⟨vs, h1, h2⟩ := h; exact ⟨vs, x.keep a _ h1 hl id, VRk.ext x c.stays0 _ _ h2⟩
  · cases h
theorem OwnAt.there {p : PV} {a : Addr} (h : OwnAt K mg W H p a) : H a ≠ none := by
  unfold OwnAt at h
  split at h
  · obtain ⟨vs, h1, _⟩ := h; rw [h1]; simp
  · obtain ⟨vs, h1, _⟩ := h; rw [h1]; simp
  · cases h
theorem Slt.own_there {sg : L2.St} {ep : En} (s : Slt K mg sg ep H et W) {a : Addr} (h : Own ep sg a) : H a ≠ none := by
  rcases own_is s h with ⟨_, q⟩ | ⟨_, q⟩ <;> (rw [q]; simp)
theorem Slt.ext {sg : L2.St} {ep : En} (s : Slt K mg sg ep H et W) (c : Cel K mg H et W) (x : Ext NoO H et W H1 et1 W1) : Slt K mg sg ep H1 et1 W1 where
  len := s.len
  ok := fun i t o e1 e2 => by
    have q := s.ok i t o e1 e2
    cases t with
    | no => trivial
    | val p => obtain ⟨v, e, q⟩ := q; exact ⟨v, e, VR.ext x c.stays0 p v q⟩
    | own p => obtain ⟨a, e, q⟩ := q; exact ⟨a, e, OwnAt.ext x c q (s.oli a ⟨i, p, e1, by rw [e2, e]⟩)⟩
  inj := s.inj
  ofz := fun a h z => by
    rcases x.nfz a z with z | z | z
    · exact s.ofz a h z
    · exact s.own_there h z
    · exact z
  oli := fun a h z => by
    rcases x.live a z with z | z
    · exact s.oli a h z
    · exact s.own_there h z
end
end Mw
namespace Mw
open PySem PySem.Spec L2
def Pk (K : PySem.W.Frag) (mg : Str → Option Value) (p : PV) (v : V) (H : Hp) (et : Hi) (W : Wd) : Prop := VR K mg W H p v ∨ ∃ a, v = .ref a ∧ ¬ Live et W a ∧ OwnAt K mg W H p a
abbrev EM (α : Type) := En → Hi → (α → Hi → Prop) → Prop
inductive Fl where
  | nx | rt (p : PV) | bk | ct
abbrev SM := En → Hi → (Fl → En → Hi → Prop) → Prop
abbrev Post (α : Type) := α → V → Hp → Hi → Wd → Hp → Hi → Wd → Prop
def pV (K : PySem.W.Frag) (mg : Str → Option Value) : Post PV := fun p v _ _ _ H' _ W' => VR K mg W' H' p v
def pP (K : PySem.W.Frag) (mg : Str → Option Value) : Post PV := fun p v _ _ _ H' et' W' => Pk K mg p v H' et' W'
def pN (K : PySem.W.Frag) (mg : Str → Option Value) : Post PV := fun p v H _ _ H' et' W' => ∃ a, v = .ref a ∧ H a = none ∧ ¬ W'.fz a ∧ ¬ Live et' W' a ∧ OwnAt K mg W' H' p a
section
variable {K : PySem.W.Frag} {mg : Str → Option Value} {H H1 : Hp} {et et1 : Hi} {W W1 : Wd}
theorem Pk.ext (x : Ext NoO H et W H1 et1 W1) (c : Cel K mg H et W) {p : PV} {v : V} (h : Pk K mg p v H et W) : Pk K mg p v H1 et1 W1 := by
  rcases h with h | ⟨a, e, hl, h⟩
  · exact .inl (VR.ext x c.stays0 p v h)
  · refine .inr ⟨a, e, fun z => ?_, OwnAt.ext x c h hl⟩
    rcases x.live a z with z | z
    · exact hl z
    · exact h.there z
theorem Ext.new {p : Addr} {o : HO} (hp : H p = none) (W' : Wd) (hm : W'.mu = W.mu) (h1 : ∀ a, W.fz a → W'.fz a) (h2 : ∀ a, W'.fz a → W.fz a ∨ a = p) : Ext NoO H et W (upd H p o) et W' where
  fz := h1
  nfz := fun a h => (h2 a h).imp_right fun e => .inl (by rw [e]; exact hp)
  mu := ⟨[], by rw [hm]; simp⟩
  live := fun a ⟨i, c, e1, e2, e3⟩ => .inl ⟨i, c, e1, e2, by rw [hm] at e3; exact e3⟩
  keep := fun a o' h _ _ => by rw [upd_ne (ne_of_none h hp)]; exact h
  there := fun a h => by
    by_cases e : a = p
    · rw [e, upd_same]; simp
    · rw [upd_ne e]; exact h
theorem Cel.not_live (c : Cel K mg H et W) {p : Addr} (hp : H p = none) : ¬ Live et W p := fun z => by
  obtain ⟨o, q, _⟩ := c.live_is z; rw [hp] at q; cases q
theorem CellOk.ext (x : Ext NoO H et W H1 et1 W1) (s : Stays NoO H et W) {d : Cell} {a : Addr} (h : CellOk K mg W H d a) (hk : d ≠ .dead → H1 a = H a) : CellOk K mg W1 H1 d a := by
  cases d with
  | dead => trivial
  | lst xs =>
    obtain ⟨vs, h1, h2⟩ := h
    exact ⟨vs, by rw [hk (by simp)]; exact h1, VRs.ext x s _ _ h2⟩
  | dic xs =>
    obtain ⟨vs, h1, h2⟩ := h
    exact ⟨vs, by rw [hk (by simp)]; exact h1, VRk.ext x s _ _ h2⟩
  | potO k n =>
    obtain ⟨b, sd, ct, h0, h1, h2⟩ := h
    exact ⟨b, sd, ct, x.mu_get h0, by rw [hk (by simp)]; exact h1, h2⟩
  | potI =>
    obtain ⟨is, h1, h2⟩ := h
    exact ⟨is, by rw [hk (by simp)]; exact h1, h2⟩
  | inv P =>
    obtain ⟨vs, h1, h2⟩ := h
    exact ⟨vs, by rw [hk (by simp)]; exact h1, h2⟩
  | nd kvs =>
    rcases h with ⟨h0, h1⟩ | ⟨es, h1, h2⟩
    · exact .inl ⟨h0, by rw [hk (by simp)]; exact h1⟩
    · exact .inr ⟨es, by rw [hk (by simp)]; exact h1, VRn.ext x s _ _ h2⟩
  | exc c fs =>
    obtain ⟨C, d, h0, h1, h2⟩ := h
    exact ⟨C, d, h0, by rw [hk (by simp)]; exact h1, h2.imp_right fun ⟨dd, e, q⟩ => ⟨dd, e, x.keep dd _ q (s.xd dd _ q).1 (s.xd dd _ q).2⟩⟩
  | ins k fs =>
    obtain ⟨C, dx, gs, h0, h1, h2⟩ := h
    exact ⟨C, dx, gs, h0, by rw [hk (by simp)]; exact h1, VRf.ext x s _ _ h2⟩
theorem Cel.new (c : Cel K mg H et W) {p : Addr} {o : HO} (hp : H p = none) (W' : Wd) (hm : W'.mu = W.mu) (h1 : ∀ a, W.fz a → W'.fz a) (h2 : ∀ a, W'.fz a → W.fz a ∨ a = p) : Cel K mg (upd H p o) et W' := by
  have x : Ext NoO H et W (upd H p o) et W' := Ext.new hp W' hm h1 h2
  have lv : ∀ a, Live et W' a → Live et W a := fun a ⟨i, d, e1, e2, e3⟩ => ⟨i, d, e1, e2, by rw [hm] at e3; exact e3⟩
  refine ⟨by rw [hm]; exact c.len, fun i d a e1 e2 => ?_, fun i j d d' a e1 e2 e3 e4 e5 e6 => c.inj i j d d' a e1 e2 e3 e4 (by rw [hm] at e5; exact e5) (by rw [hm] at e6; exact e6), fun a h z => ?_, fun a h => ?_⟩
  · rw [hm] at e2
    refine CellOk.ext x c.stays0 (c.ok i d a e1 e2) fun hd => upd_ne fun e => ?_
    exact c.not_live hp ⟨i, d, e1, hd, by rw [← e]; exact e2⟩
  · rcases h2 a h with h | h
    · exact c.fzl a h (lv a z)
    · exact c.not_live hp (h ▸ lv a z)
  · rcases h2 a h with h | h
    · exact x.there a (c.fzh a h)
    · rw [h, upd_same]; simp
abbrev Wd.add (W : Wd) (p : Addr) : Wd := ⟨fun a => W.fz a ∨ a = p, W.mu⟩
theorem VRs.len : ∀ {ps : List PV} {vs : List V}, VRs K mg W H ps vs → ps.length = vs.length
  | [], vs, h => by unfold VRs at h; rw [h]; rfl
  | p :: ps, vs, h => by
    unfold VRs at h
    obtain ⟨v, r, e, _, h2⟩ := h
    rw [e, List.length_cons, List.length_cons, VRs.len h2]
theorem VRs.get : ∀ {ps : List PV} {vs : List V} {i : Nat} {p : PV}, VRs K mg W H ps vs → ps[i]? = some p → ∃ v, vs[i]? = some v ∧ VR K mg W H p v
  | [], vs, i, p, _, e => by simp at e
  | q :: ps, vs, 0, p, h, e => by
    unfold VRs at h
    obtain ⟨v, r, e1, h1, h2⟩ := h
    simp at e; subst e
    exact ⟨v, by rw [e1]; rfl, h1⟩
  | q :: ps, vs, i + 1, p, h, e => by
    unfold VRs at h
    obtain ⟨v, r, e1, h1, h2⟩ := h
    obtain ⟨u, e2, h3⟩ := VRs.get h2 (i := i) (p := p) (by simpa using e)
    exact ⟨u, by rw [e1]; simpa using e2, h3⟩
theorem VRs.cons {p : PV} {ps : List PV} {v : V} {vs : List V} (h : VR K mg W H p v) (r : VRs K mg W H ps vs) : VRs K mg W H (p :: ps) (v :: vs) := by
  unfold VRs; exact ⟨v, vs, rfl, h, r⟩
theorem VRs.nil : VRs K mg W H [] [] := by unfold VRs; rfl
theorem VRs.append : ∀ {ps qs : List PV} {vs ws : List V}, VRs K mg W H ps vs → VRs K mg W H qs ws → VRs K mg W H (ps ++ qs) (vs ++ ws)
  | [], qs, vs, ws, h, r => by unfold VRs at h; rw [h]; exact r
  | p :: ps, qs, vs, ws, h, r => by
    unfold VRs at h
    obtain ⟨v, t, e, h1, h2⟩ := h
    rw [e]
    exact VRs.cons h1 (VRs.append h2 r)
theorem VRs.take : ∀ (n : Nat) {ps : List PV} {vs : List V}, VRs K mg W H ps vs → VRs K mg W H (ps.take n) (vs.take n)
  | 0, _, _, _ => by simpa using VRs.nil
  | n + 1, [], vs, h => by unfold VRs at h; rw [h]; simpa using VRs.nil
  | n + 1, p :: ps, vs, h => by
    unfold VRs at h
    obtain ⟨v, t, e, h1, h2⟩ := h
    rw [e]
    exact VRs.cons h1 (VRs.take n h2)
theorem VRs.drop : ∀ (n : Nat) {ps : List PV} {vs : List V}, VRs K mg W H ps vs → VRs K mg W H (ps.drop n) (vs.drop n)
  | 0, _, _, h => by simpa using h
  | n + 1, [], vs, h => by unfold VRs at h; rw [h]; simpa using VRs.nil
  | n + 1, p :: ps, vs, h => by
    unfold VRs at h
    obtain ⟨v, t, e, h1, h2⟩ := h
    rw [e]
    exact VRs.drop n h2
theorem VRs.set : ∀ (i : Nat) {ps : List PV} {vs : List V} {p : PV} {v : V}, VRs K mg W H ps vs → VR K mg W H p v → VRs K mg W H (ps.set i p) (vs.set i v)
  | _, [], vs, p, v, h, _ => by unfold VRs at h; rw [h]; simpa using VRs.nil
  | 0, q :: ps, vs, p, v, h, r => by
    unfold VRs at h
    obtain ⟨u, t, e, h1, h2⟩ := h
    rw [e]
    exact VRs.cons r h2
  | i + 1, q :: ps, vs, p, v, h, r => by
    unfold VRs at h
    obtain ⟨u, t, e, h1, h2⟩ := h
    rw [e]
    exact VRs.cons h1 (VRs.set i h2 r)
theorem VRs.rep {ps : List PV} {vs : List V} (h : VRs K mg W H ps vs) : ∀ n : Nat, VRs K mg W H (List.replicate n ps).flatten (List.replicate n vs).flatten
  | 0 => by simpa using VRs.nil
  | n + 1 => by
    rw [List.replicate_succ, List.replicate_succ, List.flatten_cons, List.flatten_cons]
    exact VRs.append h (VRs.rep h n)
theorem tup_push (h : Heap) (its : Array Value) : ∃ o, XTup o ∧ (h.push { cls := .type "tuple", data := .seq its }).get? h.objs.size = some o := ⟨{ cls := .type "tuple", data := .seq its }, ⟨rfl, rfl⟩, Heap.get?_push_size _ rfl⟩
theorem new_tup (c : Cel K mg H et W) {p : Addr} (hp : H p = none) {o : Obj} (ho : XTup o) {ps : List PV} {vs : List V} (h : VRs K mg W H ps vs) :
    Ext NoO H et W (upd H p (.frz o (.tup vs))) et W ∧ Cel K mg (upd H p (.frz o (.tup vs))) et W ∧ VR K mg W (upd H p (.frz o (.tup vs))) (.tup ps) (.ref p) := by
  have x : Ext NoO H et W (upd H p (.frz o (.tup vs))) et W := Ext.new hp W rfl (fun _ h => h) fun _ h => .inl h
  refine ⟨x, c.new hp W rfl (fun _ h => h) fun _ h => .inl h, ?_⟩
  unfold VR
  exact ⟨p, vs, rfl, .inl ⟨o, ho, upd_same⟩, VRs.ext x c.stays0 _ _ h⟩
theorem new_lst (c : Cel K mg H et W) {p : Addr} (hp : H p = none) {ps : List PV} {vs : List V} (h : VRs K mg W H ps vs) :
    Ext NoO H et W (upd H p (.lst vs)) et (W.add p) ∧ Cel K mg (upd H p (.lst vs)) et (W.add p) ∧ VR K mg (W.add p) (upd H p (.lst vs)) (.lst ps) (.ref p) := by
  have x : Ext NoO H et W (upd H p (.lst vs)) et (W.add p) := Ext.new hp (W.add p) rfl (fun _ h => .inl h) fun _ h => h
  refine ⟨x, c.new hp _ rfl (fun _ h => .inl h) fun _ h => h, ?_⟩
  unfold VR
  exact ⟨p, vs, rfl, .inr rfl, upd_same, VRs.ext x c.stays0 _ _ h⟩
theorem new_own (c : Cel K mg H et W) {p : Addr} (hp : H p = none) {ps : List PV} {vs : List V} (h : VRs K mg W H ps vs) :
    Ext NoO H et W (upd H p (.lst vs)) et W ∧ Cel K mg (upd H p (.lst vs)) et W ∧ pN K mg (.lst ps) (.ref p) H et W (upd H p (.lst vs)) et W := by
  have x : Ext NoO H et W (upd H p (.lst vs)) et W := Ext.new hp W rfl (fun _ h => h) fun _ h => .inl h
  refine ⟨x, c.new hp W rfl (fun _ h => h) fun _ h => .inl h, p, rfl, hp, fun z => c.fzh p z hp, ?_, ?_⟩
  · exact c.not_live hp
  · exact ⟨vs, upd_same, VRs.ext x c.stays0 _ _ h⟩
theorem OwnAt.kind {p : PV} {a : Addr} (h : OwnAt K mg W H p a) : (∃ vs, H a = some (.lst vs)) ∨ ∃ ks, H a = some (.dK ks) := by
  unfold OwnAt at h
  split at h
  · obtain ⟨vs, h, _⟩ := h; exact .inl ⟨vs, h⟩
  · obtain ⟨vs, h, _⟩ := h; exact .inr ⟨vs, h⟩
  · cases h
theorem Cel.freeze (c : Cel K mg H et W) {a : Addr} {q : PV} (hl : ¬ Live et W a) (hf : ¬ W.fz a) (hq : OwnAt K mg W H q a) :
    Cel K mg H et (W.add a) ∧ (∀ p v, VR K mg W H p v → VR K mg (W.add a) H p v) ∧ VR K mg (W.add a) H q (.ref a) := by
  have x : Ext (fun b => b = a) H et W H et (W.add a) := ⟨fun _ h => .inl h, fun b h => h.imp_right fun h => .inr h, ⟨[], by simp⟩, fun _ h => .inl h, fun _ _ h _ _ => h, fun _ h => h⟩
  have s : Stays (fun b => b = a) H et W := ⟨fun b h => ⟨c.fzl b h, fun e => hf (e ▸ h)⟩, fun b xs h => ⟨(c.stays0.tup b xs h).1, fun e => by
    rcases hq.kind with ⟨_, k⟩ | ⟨_, k⟩ <;> (rw [← e, h] at k; cases k)⟩, fun b o u h => ⟨(c.stays0.frz b o u h).1, fun e => by
    rcases hq.kind with ⟨_, k⟩ | ⟨_, k⟩ <;> (rw [← e, h] at k; cases k)⟩, fun b fs h => ⟨(c.stays0.xd b fs h).1, fun e => by
    rcases hq.kind with ⟨_, k⟩ | ⟨_, k⟩ <;> (rw [← e, h] at k; cases k)⟩⟩
  refine ⟨⟨c.len, fun i d b e1 e2 => ?_, c.inj, fun b h z => ?_, fun b h => ?_⟩, fun p v h => VR.ext x s p v h, ?_⟩
  · have k := c.ok i d b e1 e2
    cases d with
    | dead => trivial
    | lst xs => obtain ⟨vs, h1, h2⟩ := k; exact ⟨vs, h1, VRs.ext x s _ _ h2⟩
    | dic xs => obtain ⟨vs, h1, h2⟩ := k; exact ⟨vs, h1, VRk.ext x s _ _ h2⟩
    | potO t n => exact k
    | potI => exact k
    | inv P => exact k
    | nd kvs => exact k.imp_right fun ⟨es, h1, h2⟩ => ⟨es, h1, VRn.ext x s _ _ h2⟩
    | exc _ _ => exact k
    | ins t fs => obtain ⟨C, dx, gs, h0, h1, h2⟩ := k; exact ⟨C, dx, gs, h0, h1, VRf.ext x s _ _ h2⟩
  · rcases h with h | h
    · exact c.fzl b h z
    · exact hl (h ▸ z)
  · rcases h with h | h
    · exact c.fzh b h
    · rw [h]; exact hq.there
  · unfold OwnAt at hq
    split at hq
    · obtain ⟨vs, h1, h2⟩ := hq
      unfold VR
      exact ⟨a, vs, rfl, .inr rfl, h1, VRs.ext x s _ _ h2⟩
    · obtain ⟨vs, h1, h2⟩ := hq
      unfold VR
      exact ⟨a, vs, rfl, .inr rfl, h1, VRk.ext x s _ _ h2⟩
    · cases hq
end
end Mw
namespace Mw
open PySem PySem.Spec L2
section
variable (K : PySem.W.Frag) (mg : Str → Option Value)
def tI (P : Post PV) (m : EM PV) : TE := fun sg H Q => ∃ ep et W R, Cel K mg H et W ∧ Slt K mg sg ep H et W ∧ m ep et R ∧
  ∀ a et', R a et' → ∀ v H' W', Ext NoO H et W H' et' W' → Cel K mg H' et' W' → P a v H et W H' et' W' → Q v H'
def tT (m : EM Bool) : TT := fun sg H Q => ∃ ep et W R, Cel K mg H et W ∧ Slt K mg sg ep H et W ∧ m ep et R ∧
  ∀ b et', R b et' → ∀ H' W', Ext NoO H et W H' et' W' → Cel K mg H' et' W' → Q b H'
def Pks : List PV → List V → Hp → Hi → Wd → Prop
  | [], vs, _, _, _ => vs = []
  | p :: ps, vs, H, et, W => ∃ v r, vs = v :: r ∧ Pk K mg p v H et W ∧ Pks ps r H et W
def tL (m : EM (List PV)) : TA := fun sg H Q => ∃ ep et W R, Cel K mg H et W ∧ Slt K mg sg ep H et W ∧ m ep et R ∧
  ∀ a et', R a et' → ∀ vs H' W', Ext NoO H et W H' et' W' → Cel K mg H' et' W' → VRs K mg W' H' a vs → Q vs H'
def tLP (m : EM (List PV)) : TA := fun sg H Q => ∃ ep et W R, Cel K mg H et W ∧ Slt K mg sg ep H et W ∧ m ep et R ∧
  ∀ a et', R a et' → ∀ vs H' W', Ext NoO H et W H' et' W' → Cel K mg H' et' W' → Pks K mg a vs H' et' W' → Q vs H'
def FlEnd (D : Ends) (ep : En) (sg : L2.St) (H : Hp) : Fl → En → L2.St → Hp → Hi → Wd → Prop
  | .nx, ep', sg', H', et', W' => Slt K mg sg' ep' H' et' W' → (∀ a, Own ep' sg' a → Own ep sg a ∨ H a = none) → D.nx sg' H'
  | .bk, ep', sg', H', et', W' => Slt K mg sg' ep' H' et' W' → (∀ a, Own ep' sg' a → Own ep sg a ∨ H a = none) → D.bk sg' H'
  | .ct, ep', sg', H', et', W' => Slt K mg sg' ep' H' et' W' → (∀ a, Own ep' sg' a → Own ep sg a ∨ H a = none) → D.ct sg' H'
  | .rt p, _, _, H', _, W' => ∀ v, VR K mg W' H' p v → D.rt v H'
def tS (m : SM) : TS := fun D sg H => ∃ ep et W R, Cel K mg H et W ∧ Slt K mg sg ep H et W ∧ m ep et R ∧
  ∀ f ep' et', R f ep' et' → ∀ sg' H' W', Ext (Own ep sg) H et W H' et' W' → Cel K mg H' et' W' → FlEnd K mg D ep sg H f ep' sg' H' et' W'
end
abbrev SimE (X : Cx) (e : Expr) (m : EM PV) : Prop := PE X e (tI X.K X.mg (pV X.K X.mg) m)
abbrev SimP (X : Cx) (e : Expr) (m : EM PV) : Prop := PE X e (tI X.K X.mg (pP X.K X.mg) m)
abbrev SimN (X : Cx) (e : Expr) (m : EM PV) : Prop := PE X e (tI X.K X.mg (pN X.K X.mg) m)
abbrev SimT (X : Cx) (e : Expr) (m : EM Bool) : Prop := PT X e (tT X.K X.mg m)
abbrev SimW (X : Cx) (e : Expr) (m : EM Bool) : Prop := PW X e (tT X.K X.mg m)
abbrev SimA (X : Cx) (es : List Expr) (m : EM (List PV)) : Prop := PA X es (tL X.K X.mg m)
abbrev SimAP (X : Cx) (es : List Expr) (m : EM (List PV)) : Prop := PA X es (tLP X.K X.mg m)
abbrev SimS (X : Cx) (st : Stmt) (m : SM) : Prop := PS X st (tS X.K X.mg m)
abbrev SimSs (X : Cx) (st : List Stmt) (m : SM) : Prop := PSs X st (tS X.K X.mg m)
theorem weakE {X : Cx} {e : Expr} {t u : TE} (h : PE X e t) (w : ∀ σ H Q, u σ H Q → t σ H Q) : PE X e u := ⟨fun pins s σ H Q I q => h.run pins s σ H Q I (w σ H Q q)⟩
theorem weakT {X : Cx} {e : Expr} {t u : TT} (h : PT X e t) (w : ∀ σ H Q, u σ H Q → t σ H Q) : PT X e u := ⟨fun pins s σ H Q I q => h.run pins s σ H Q I (w σ H Q q)⟩
theorem weakW {X : Cx} {e : Expr} {t u : TT} (h : PW X e t) (w : ∀ σ H Q, u σ H Q → t σ H Q) : PW X e u := ⟨fun wh pins s σ H Q I q => h.run wh pins s σ H Q I (w σ H Q q)⟩
theorem weakA {X : Cx} {e : List Expr} {t u : TA} (h : PA X e t) (w : ∀ σ H Q, u σ H Q → t σ H Q) : PA X e u := ⟨fun pos pins s σ H Q I q => h.run pos pins s σ H Q I (w σ H Q q)⟩
theorem weakS {X : Cx} {e : Stmt} {t u : TS} (h : PS X e t) (w : ∀ D σ H, u D σ H → t D σ H) : PS X e u := ⟨fun pins s σ H D I q => h.run pins s σ H D I (w D σ H q)⟩
theorem weakSs {X : Cx} {e : List Stmt} {t u : TS} (h : PSs X e t) (w : ∀ D σ H, u D σ H → t D σ H) : PSs X e u := ⟨fun pins s σ H D I q => h.run pins s σ H D I (w D σ H q)⟩
section
variable {K : PySem.W.Frag} {mg : Str → Option Value} {H H1 : Hp} {et et1 : Hi} {W W1 : Wd}
theorem Pks.ext (x : Ext NoO H et W H1 et1 W1) (c : Cel K mg H et W) : ∀ {ps : List PV} {vs : List V}, Pks K mg ps vs H et W → Pks K mg ps vs H1 et1 W1
  | [], _, h => h
  | _ :: _, _, ⟨v, r, e, h, t⟩ => ⟨v, r, e, Pk.ext x c h, Pks.ext x c t⟩
theorem Pks.of : ∀ {ps : List PV} {vs : List V}, VRs K mg W H ps vs → Pks K mg ps vs H et W
  | [], vs, h => by unfold VRs at h; exact h
  | p :: ps, vs, h => by
    unfold VRs at h
    obtain ⟨v, r, e, h1, h2⟩ := h
    exact ⟨v, r, e, .inl h1, Pks.of h2⟩
def deref (et : Hi) : PV → PV
  | .ref n => match et[n]? with
    | some (.lst xs) => .lst xs
    | some (.dic ks) => .dic ks
    | _ => .ref n
  | p => p
def Cont (K : PySem.W.Frag) (mg : Str → Option Value) (W : Wd) (H : Hp) : PV → HO → Prop
  | .lst xs, .lst vs => VRs K mg W H xs vs
  | .dic ks, .dK vs => VRk K mg W H ks vs
  | _, _ => False
theorem Pk.der (c : Cel K mg H et W) {p : PV} {v : V} (h : Pk K mg p v H et W) : Pk K mg p v H et W ∧ (Mw.deref et p = p ∨ ∃ a o n, p = .ref n ∧ v = .ref a ∧ W.mu[n]? = some a ∧ H a = some o ∧ Cont K mg W H (Mw.deref et p) o) := by
  refine ⟨h, ?_⟩
  cases p with
  | ref n =>
    rcases h with h | ⟨a, _, _, h⟩
    · unfold VR at h
      obtain ⟨a, e, hm⟩ := h
      cases q : et[n]? with
      | none => exact .inl (by simp only [Mw.deref, q])
      | some d =>
        cases d with
        | lst xs =>
          obtain ⟨vs, h1, h2⟩ := c.ok n _ a q hm
          exact .inr ⟨a, _, n, rfl, e, hm, h1, by simp only [Mw.deref, q]; exact h2⟩
        | dic xs =>
          obtain ⟨vs, h1, h2⟩ := c.ok n _ a q hm
          exact .inr ⟨a, _, n, rfl, e, hm, h1, by simp only [Mw.deref, q]; exact h2⟩
        | _ => exact .inl (by simp only [Mw.deref, q])
    · unfold OwnAt at h; cases h
  | _ => exact .inl rfl
theorem Pk.lst (c : Cel K mg H et W) {p : PV} {v : V} (h : Pk K mg p v H et W) {xs : List PV} (e : Mw.deref et p = .lst xs) : ∃ a vs, v = .ref a ∧ H a = some (.lst vs) ∧ VRs K mg W H xs vs := by
  rcases (h.der c).2 with d | ⟨a, o, n, _, ev, _, ho, hc⟩
  · rw [d] at e
    subst e
    rcases h with h | ⟨a, ev, _, h⟩
    · unfold VR at h
      obtain ⟨a, vs, ev, _, h1, h2⟩ := h
      exact ⟨a, vs, ev, h1, h2⟩
    · obtain ⟨vs, h1, h2⟩ := h
      exact ⟨a, vs, ev, h1, h2⟩
  · rw [e] at hc
    cases o with
    | lst vs => exact ⟨a, vs, ev, ho, hc⟩
    | _ => exact hc.elim
theorem Pk.dic (c : Cel K mg H et W) {p : PV} {v : V} (h : Pk K mg p v H et W) {xs : List (Key × PV)} (e : Mw.deref et p = .dic xs) : ∃ a vs, v = .ref a ∧ H a = some (.dK vs) ∧ VRk K mg W H xs vs := by
  rcases (h.der c).2 with d | ⟨a, o, n, _, ev, _, ho, hc⟩
  · rw [d] at e
    subst e
    rcases h with h | ⟨a, ev, _, h⟩
    · unfold VR at h
      obtain ⟨a, vs, ev, _, h1, h2⟩ := h
      exact ⟨a, vs, ev, h1, h2⟩
    · obtain ⟨vs, h1, h2⟩ := h
      exact ⟨a, vs, ev, h1, h2⟩
  · rw [e] at hc
    cases o with
    | dK vs => exact ⟨a, vs, ev, ho, hc⟩
    | _ => exact hc.elim
def Plain : PV → Bool
  | .lst _ => false
  | .dic _ => false
  | .ref _ => false
  | _ => true
theorem deref_plain {p q : PV} (e : Mw.deref et p = q) (hq : Plain q = true) : p = q := by
  cases p with
  | ref n =>
    unfold Mw.deref at e
    simp only at e
    split at e <;> (subst e; cases hq)
  | _ => exact e
theorem Pk.val {p : PV} {v : V} (h : Pk K mg p v H et W) {q : PV} (e : Mw.deref et p = q) (hq : Plain q = true) : VR K mg W H q v := by
  have e' := deref_plain e hq
  subst e'
  rcases h with h | ⟨a, _, _, h⟩
  · exact h
  · unfold OwnAt at h
    split at h
    · cases hq
    · cases hq
    · cases h
theorem Pk.tup {p : PV} {v : V} (h : Pk K mg p v H et W) {xs : List PV} (e : Mw.deref et p = .tup xs) : ∃ a vs, v = .ref a ∧ SqX K H a vs ∧ VRs K mg W H xs vs := by
  have q := h.val e rfl
  unfold VR at q; exact q
theorem Pk.int {p : PV} {v : V} (h : Pk K mg p v H et W) {i : Int} (e : Mw.deref et p = .int i) : v = .int i := by
  have q := h.val e rfl
  unfold VR at q; exact q
theorem Pk.str {p : PV} {v : V} (h : Pk K mg p v H et W) {i : Str} (e : Mw.deref et p = .str i) : v = .str i := by
  have q := h.val e rfl
  unfold VR at q; exact q
theorem Pk.bl {p : PV} {v : V} (h : Pk K mg p v H et W) {i : Bool} (e : Mw.deref et p = .bl i) : v = .bl i := by
  have q := h.val e rfl
  unfold VR at q; exact q
theorem Pk.non {p : PV} {v : V} (h : Pk K mg p v H et W) (e : Mw.deref et p = .non) : v = .non := by
  have q := h.val e rfl
  unfold VR at q; exact q
theorem Pk.scr {p : PV} {v : V} (h : Pk K mg p v H et W) {ns : List Int} (e : Mw.deref et p = .scr ns) : ∃ a, v = .ref a ∧ Scr K H a (ns.map V.int) := by
  have q := h.val e rfl
  unfold VR at q; exact q
theorem Scr.sq {a : Addr} {xs : List V} (h : Scr K H a xs) : SqL K H a xs := by
  rcases h with h | h
  · exact .inl (.inr h)
  · exact .inr h
end
section
variable {X : Cx} {ex : Expr} {m : EM PV}
theorem SimE.p (h : SimE X ex m) : SimP X ex m := weakE h fun σ H Q ⟨ep, et, W, R, c, s, e, q⟩ => ⟨ep, et, W, R, c, s, e, fun a et' r v H' W' x c' p => q a et' r v H' W' x c' (.inl p)⟩
theorem SimN.p (h : SimN X ex m) : SimP X ex m := weakE h fun σ H Q ⟨ep, et, W, R, c, s, e, q⟩ => ⟨ep, et, W, R, c, s, e, fun a et' r v H' W' x c' p => by
  obtain ⟨b, e1, _, _, h2, h3⟩ := p
  exact q a et' r v H' W' x c' (.inr ⟨b, e1, h2, h3⟩)⟩
theorem SimN.e (h : SimN X ex m) : SimE X ex m := weakE h fun σ H Q ⟨ep, et, W, R, c, s, e, q⟩ => ⟨ep, et, W, R, c, s, e, fun a et' r v H' W' x c' p => by
  obtain ⟨b, e1, h0, hf, h2, h3⟩ := p
  obtain ⟨c2, _, r2⟩ := c'.freeze h2 hf h3
  subst e1
  refine q a et' r _ H' (W'.add b) ⟨fun a h => .inl (x.fz a h), fun a h => ?_, x.mu, x.live, x.keep, x.there⟩ c2 r2
  rcases h with h | h
  · exact x.nfz a h
  · exact .inr (.inl (h ▸ h0))⟩
def mVar (i : Nat) : EM PV := fun ep et R => ∃ p, ep[i]? = some (.val p) ∧ R p et
def slotV : Option Slot → Option PV
  | some (.val p) => some p
  | some (.own p) => some p
  | _ => none
def mPeek (i : Nat) : EM PV := fun ep et R => ∃ p, slotV ep[i]? = some p ∧ R p et
def mC (p : PV) : EM PV := fun _ et R => R p et
theorem sE_var {i : Nat} (h : PE X ex (tVar i)) : SimE X ex (mVar i) := weakE h fun σ H Q ⟨ep, et, W, R, c, s, ⟨p, e, r⟩, q⟩ => by
  have hl : i < σ.length := by rw [← s.len]; exact (List.getElem?_eq_some_iff.mp e).1
  obtain ⟨v, ev, hv⟩ := s.ok i _ _ e (List.getElem?_eq_getElem hl)
  exact ⟨v, by rw [List.getElem?_eq_getElem hl, ev], q p et r v H W (Ext.refl ..) c hv⟩
theorem sP_var {i : Nat} (h : PE X ex (tVar i)) : SimP X ex (mPeek i) := weakE h fun σ H Q ⟨ep, et, W, R, c, s, ⟨p, e, r⟩, q⟩ => by
  unfold slotV at e
  split at e
  · rename_i t hp
    cases e
    have hl : i < σ.length := by rw [← s.len]; exact (List.getElem?_eq_some_iff.mp hp).1
    obtain ⟨v, ev, hv⟩ := s.ok i _ _ hp (List.getElem?_eq_getElem hl)
    exact ⟨v, by rw [List.getElem?_eq_getElem hl, ev], q p et r v H W (Ext.refl ..) c (.inl hv)⟩
  · rename_i t hp
    cases e
    have hl : i < σ.length := by rw [← s.len]; exact (List.getElem?_eq_some_iff.mp hp).1
    obtain ⟨a, ev, hv⟩ := s.ok i _ _ hp (List.getElem?_eq_getElem hl)
    have hσ : σ[i]? = some (some (.ref a)) := by rw [List.getElem?_eq_getElem hl, ev]
    exact ⟨.ref a, hσ, q p et r _ H W (Ext.refl ..) c (.inr ⟨a, rfl, s.oli a ⟨i, p, hp, hσ⟩, hv⟩)⟩
  · cases e
theorem sE_c {v : V} {p : PV} (h : PE X ex (tC v)) (hv : ∀ W H, VR X.K X.mg W H p v) : SimE X ex (mC p) := weakE h fun σ H Q ⟨ep, et, W, R, c, s, r, q⟩ =>
  q p et r v H W (Ext.refl ..) c (hv W H)
theorem sE_int {i j pos} : SimE X (.Constant (.int i) j pos) (mC (.int i)) := sE_c pe_int fun _ _ => by unfold VR; rfl
theorem sE_bl {i j pos} : SimE X (.Constant (.bool i) j pos) (mC (.bl i)) := sE_c pe_bl fun _ _ => by unfold VR; rfl
theorem sE_str {i j pos} : SimE X (.Constant (.str i) j pos) (mC (.str i)) := sE_c pe_str fun _ _ => by unfold VR; rfl
theorem sE_non {j pos} : SimE X (.Constant .none j pos) (mC .non) := sE_c pe_non fun _ _ => by unfold VR; rfl
theorem sE_glob {x : Str} {p : PV} {v : V} {u : Value} {pos : Pos} (hg : Gl X x) (hm : X.mg x = some u) (r : RelV v u) (hv : ∀ W H, VR X.K X.mg W H p v) (hd : (x == ("__debug__" : Str)) = false := by decide) : SimE X (.Name x pos) (mC p) :=
  sE_c (pe_glob hg hm r hd) hv
def Op2 (K : PySem.W.Frag) (mg : Str → Option Value) (R : R2) (g : PV → PV → Option PV) (P : Post PV) : Prop :=
  ∀ (x y : V) (H : Hp) (et : Hi) (W : Wd) (p q z : PV) (Q : VK), Cel K mg H et W → Pk K mg p x H et W → Pk K mg q y H et W → g (deref et p) (deref et q) = some z →
    (∀ v H' W', Ext NoO H et W H' et W' → Cel K mg H' et W' → P z v H et W H' et W' → Q v H') → R x y H Q
def OpA (K : PySem.W.Frag) (mg : Str → Option Value) (R : List V → Hp → VK → Prop) (g : List PV → Option PV) (P : Post PV) : Prop :=
  ∀ (xs : List V) (H : Hp) (et : Hi) (W : Wd) (ps : List PV) (z : PV) (Q : VK), Cel K mg H et W → Pks K mg ps xs H et W → g (ps.map (deref et)) = some z →
    (∀ v H' W', Ext NoO H et W H' et W' → Cel K mg H' et W' → P z v H et W H' et W' → Q v H') → R xs H Q
def Early (P : Post PV) : Prop := ∀ p v H0 et0 W0 H et W H' et' W', Ext NoO H0 et0 W0 H et W → P p v H et W H' et' W' → P p v H0 et0 W0 H' et' W'
theorem early_V {K : PySem.W.Frag} {mg : Str → Option Value} : Early (pV K mg) := fun _ _ _ _ _ _ _ _ _ _ _ _ h => h
theorem early_N {K : PySem.W.Frag} {mg : Str → Option Value} : Early (pN K mg) := fun p v H0 et0 W0 H et W H' et' W' x h => by
  obtain ⟨a, e, h0, r⟩ := h
  refine ⟨a, e, ?_, r⟩
  cases q : H0 a with
  | none => rfl
  | some o => exact absurd h0 (x.there a (by rw [q]; simp))
def mBin (g : PV → PV → Option PV) (ma mb : EM PV) : EM PV := fun ep et R => ma ep et fun a et1 => mb ep et1 fun b et2 => ∃ z, g (deref et2 a) (deref et2 b) = some z ∧ R z et2
def mUn (g : PV → Option PV) (ma : EM PV) : EM PV := fun ep et R => ma ep et fun a et1 => ∃ z, g (deref et1 a) = some z ∧ R z et1
def mArg (g : List PV → Option PV) (ma : EM (List PV)) : EM PV := fun ep et R => ma ep et fun a et1 => ∃ z, g (a.map (deref et1)) = some z ∧ R z et1
theorem Ext.NoO_trans {H H1 H2 : Hp} {et et1 et2 : Hi} {W W1 W2 : Wd} (x : Ext NoO H et W H1 et1 W1) (y : Ext NoO H1 et1 W1 H2 et2 W2) : Ext NoO H et W H2 et2 W2 := x.trans y fun _ h => .inl h
theorem bin_weak {a b : Expr} {ma mb : EM PV} {R : R2} {g : PV → PV → Option PV} {P : Post PV} (he : Early P) (h : PE X ex (tOp R (tI X.K X.mg (pP X.K X.mg) ma) (tI X.K X.mg (pP X.K X.mg) mb))) (hg : Op2 X.K X.mg R g P) :
    PE X ex (tI X.K X.mg P (mBin g ma mb)) := weakE h fun σ H Q ⟨ep, et, W, R0, c, s, e, q⟩ => by
  refine ⟨ep, et, W, _, c, s, e, fun p et1 r1 v H1 W1 x1 c1 p1 => ⟨ep, et1, W1, _, c1, s.ext c x1, r1, fun p' et2 r2 u H2 W2 x2 c2 p2 => ?_⟩⟩
  obtain ⟨z, hz, r3⟩ := r2
  refine hg v u H2 et2 W2 p p' z Q c2 (Pk.ext x2 c1 p1) p2 hz fun w H3 W3 x3 c3 p3 => ?_
  have x12 := x1.NoO_trans x2
  exact q z et2 r3 w H3 W3 (x12.NoO_trans x3) c3 (he _ _ _ _ _ _ _ _ _ _ _ x12 p3)
theorem arg_weak {ma : EM (List PV)} {R : List V → Hp → VK → Prop} {g : List PV → Option PV} {P : Post PV} (he : Early P) (h : PE X ex (tCB R (tLP X.K X.mg ma))) (hg : OpA X.K X.mg R g P) :
    PE X ex (tI X.K X.mg P (mArg g ma)) := weakE h fun σ H Q ⟨ep, et, W, R0, c, s, e, q⟩ => by
  refine ⟨ep, et, W, _, c, s, e, fun p et1 r1 v H1 W1 x1 c1 p1 => ?_⟩
  obtain ⟨z, hz, r3⟩ := r1
  refine hg v H1 et1 W1 p z Q c1 p1 hz fun w H3 W3 x3 c3 p3 => ?_
  exact q z et1 r3 w H3 W3 (x1.NoO_trans x3) c3 (he _ _ _ _ _ _ _ _ _ _ _ x1 p3)
theorem sE_op {a b : Expr} {op : Operator} {pos : Pos} {ma mb : EM PV} {R : R2} {g : PV → PV → Option PV} (ho : OpR X (binaryOp op) R) (hg : Op2 X.K X.mg R g (pV X.K X.mg)) (ha : SimP X a ma) (hb : SimP X b mb) : SimE X (.BinOp a op b pos) (mBin g ma mb) :=
  bin_weak (a := a) (b := b) early_V (pe_op ho ha hb) hg
theorem sN_op {a b : Expr} {op : Operator} {pos : Pos} {ma mb : EM PV} {R : R2} {g : PV → PV → Option PV} (ho : OpR X (binaryOp op) R) (hg : Op2 X.K X.mg R g (pN X.K X.mg)) (ha : SimP X a ma) (hb : SimP X b mb) : SimN X (.BinOp a op b pos) (mBin g ma mb) :=
  bin_weak (a := a) (b := b) early_N (pe_op ho ha hb) hg
theorem sE_cmp {a b : Expr} {op : CmpOp} {pos : Pos} {ma mb : EM PV} {R : R2} {g : PV → PV → Option PV} (ho : OpR X (compareOp op) R) (hg : Op2 X.K X.mg R g (pV X.K X.mg)) (ha : SimP X a ma) (hb : SimP X b mb) (hm : behindInMarks op b = false) : SimE X (.Compare a [op] [b] pos) (mBin g ma mb) :=
  bin_weak (a := a) (b := b) early_V (pe_cmpR ho ha hb hm) hg
def mBinT (g : PV → PV → Option PV) (ma mb : EM PV) : EM Bool := fun ep et R => ma ep et fun a et1 => mb ep et1 fun b et2 => ∃ z, g (deref et2 a) (deref et2 b) = some (.bl z) ∧ R z et2
theorem sT_cmp {a b : Expr} {op : CmpOp} {pos : Pos} {ma mb : EM PV} {R : R2} {g : PV → PV → Option PV} (ho : OpR X (compareOp op) R) (hg : Op2 X.K X.mg R g (pV X.K X.mg)) (ha : SimP X a ma) (hb : SimP X b mb) (hm : behindInMarks op b = false) : SimT X (.Compare a [op] [b] pos) (mBinT g ma mb) :=
  weakT (pt_cmpR ho ha hb hm) fun σ H Q ⟨ep, et, W, R0, c, s, e, q⟩ => by
  refine ⟨ep, et, W, _, c, s, e, fun p et1 r1 v H1 W1 x1 c1 p1 => ⟨ep, et1, W1, _, c1, s.ext c x1, r1, fun p' et2 r2 u H2 W2 x2 c2 p2 => ?_⟩⟩
  obtain ⟨z, hz, r3⟩ := r2
  refine hg v u H2 et2 W2 p p' _ _ c2 (Pk.ext x2 c1 p1) p2 hz fun w H3 W3 x3 c3 p3 => ?_
  have p4 : VR X.K X.mg W3 H3 (.bl z) w := p3
  unfold VR at p4
  exact ⟨z, p4, q z et2 r3 H3 W3 ((x1.NoO_trans x2).NoO_trans x3) c3⟩
def mAsT (m : EM PV) : EM Bool := fun ep et R => m ep et fun a et1 => ∃ z, a = .bl z ∧ R z et1
theorem sT_val (h : SimE X ex m) (he : ∀ whole, isTrue ex X.env whole = (do let v ← whole; standAt ex.pos; holding [v] (truthy v)) := by intro _; rfl) : SimT X ex (mAsT m) := weakT (pt_val h he) fun σ H Q ⟨ep, et, W, R0, c, s, e, q⟩ => by
  refine ⟨ep, et, W, _, c, s, e, fun p et1 r1 v H1 W1 x1 c1 p1 => ?_⟩
  obtain ⟨z, hz, r3⟩ := r1
  have p4 : VR X.K X.mg W1 H1 p v := p1
  subst hz
  unfold VR at p4
  exact ⟨z, p4, q z et1 r3 H1 W1 x1 c1⟩
def mNotT (m : EM Bool) : EM Bool := fun ep et R => m ep et fun b et1 => R (!b) et1
def mAndT (m n : EM Bool) : EM Bool := fun ep et R => m ep et fun b et1 => if b = true then n ep et1 R else R false et1
def mOrT (m n : EM Bool) : EM Bool := fun ep et R => m ep et fun b et1 => if b = true then R true et1 else n ep et1 R
theorem sT_not {a : Expr} {pos : Pos} {m : EM Bool} (h : SimT X a m) : SimT X (.UnaryOp .Not a pos) (mNotT m) := weakT (pt_not h) fun σ H Q ⟨ep, et, W, R0, c, s, e, q⟩ =>
  ⟨ep, et, W, _, c, s, e, fun b et1 r1 H1 W1 x1 c1 => q _ et1 r1 H1 W1 x1 c1⟩
theorem sW_and1 {a : Expr} {pos : Pos} {m : EM Bool} (h : SimT X a m) : SimW X (.BoolOp .And [a] pos) m := pw_and1 h
theorem sW_or1 {a : Expr} {pos : Pos} {m : EM Bool} (h : SimT X a m) : SimW X (.BoolOp .Or [a] pos) m := pw_or1 h
theorem sW_and {a b : Expr} {rest : List Expr} {pos : Pos} {m n : EM Bool} (h : SimT X a m) (g : SimW X (.BoolOp .And (b :: rest) pos) n) : SimW X (.BoolOp .And (a :: b :: rest) pos) (mAndT m n) := weakW (pw_and h g) fun σ H Q ⟨ep, et, W, R0, c, s, e, q⟩ => by
  refine ⟨ep, et, W, _, c, s, e, fun b et1 r1 H1 W1 x1 c1 => ?_⟩
  cases b with
  | true => exact ⟨ep, et1, W1, _, c1, s.ext c x1, by simpa using r1, fun b' et2 r2 H2 W2 x2 c2 => q b' et2 r2 H2 W2 (x1.NoO_trans x2) c2⟩
  | false => exact q false et1 (by simpa using r1) H1 W1 x1 c1
theorem sW_or {a b : Expr} {rest : List Expr} {pos : Pos} {m n : EM Bool} (h : SimT X a m) (g : SimW X (.BoolOp .Or (b :: rest) pos) n) : SimW X (.BoolOp .Or (a :: b :: rest) pos) (mOrT m n) := weakW (pw_or h g) fun σ H Q ⟨ep, et, W, R0, c, s, e, q⟩ => by
  refine ⟨ep, et, W, _, c, s, e, fun b et1 r1 H1 W1 x1 c1 => ?_⟩
  cases b with
  | false => exact ⟨ep, et1, W1, _, c1, s.ext c x1, by simpa using r1, fun b' et2 r2 H2 W2 x2 c2 => q b' et2 r2 H2 W2 (x1.NoO_trans x2) c2⟩
  | true => exact q true et1 (by simpa using r1) H1 W1 x1 c1
def mAndE (m n : EM PV) : EM PV := fun ep et R => m ep et fun p et1 => ∃ b, p = .bl b ∧ if b = true then n ep et1 R else R (.bl false) et1
theorem VR.bl {K : PySem.W.Frag} {mg : Str → Option Value} {W : Wd} {H : Hp} {b : Bool} : VR K mg W H (.bl b) (.bl b) := by unfold VR; rfl
theorem VR.int {K : PySem.W.Frag} {mg : Str → Option Value} {W : Wd} {H : Hp} {b : Int} : VR K mg W H (.int b) (.int b) := by unfold VR; rfl
theorem VR.str {K : PySem.W.Frag} {mg : Str → Option Value} {W : Wd} {H : Hp} {b : Str} : VR K mg W H (.str b) (.str b) := by unfold VR; rfl
theorem VR.non {K : PySem.W.Frag} {mg : Str → Option Value} {W : Wd} {H : Hp} : VR K mg W H .non .non := by unfold VR; rfl
theorem sE_one {op} {a : Expr} {pos : Pos} (h : SimE X a m) : SimE X (.BoolOp op [a] pos) m := pe_one h
theorem sE_and {a b : Expr} {rest : List Expr} {pos : Pos} {n : EM PV} (h : SimE X a m) (g : SimE X (.BoolOp .And (b :: rest) pos) n) : SimE X (.BoolOp .And (a :: b :: rest) pos) (mAndE m n) := weakE (pe_and h g) fun σ H Q ⟨ep, et, W, R0, c, s, e, q⟩ => by
  refine ⟨ep, et, W, _, c, s, e, fun p et1 r1 v H1 W1 x1 c1 p1 => ?_⟩
  obtain ⟨b, hb, r1⟩ := r1
  have p4 : VR X.K X.mg W1 H1 p v := p1
  subst hb
  unfold VR at p4
  refine ⟨b, p4, ?_⟩
  cases b with
  | true => exact ⟨ep, et1, W1, _, c1, s.ext c x1, by simpa using r1, fun b' et2 r2 v2 H2 W2 x2 c2 p2 => q b' et2 r2 v2 H2 W2 (x1.NoO_trans x2) c2 p2⟩
  | false => exact q _ et1 (by simpa using r1) _ H1 W1 x1 c1 VR.bl
def mIfE (t : EM Bool) (m n : EM PV) : EM PV := fun ep et R => t ep et fun b et1 => if b = true then m ep et1 R else n ep et1 R
end
end Mw
namespace Mw
open PySem PySem.Spec L2
mutual
def dat : PV → Option PyData
  | .non => some .none
  | .bl b => some (.bool b)
  | .int i => some (.int i)
  | .str x => some (.str x)
  | .tup xs => (dats xs).map .tuple
  | .lst xs => (dats xs).map .list
  | _ => none
def dats : List PV → Option (List PyData)
  | [] => some []
  | x :: xs => (dat x).bind fun d => (dats xs).map fun ds => d :: ds
end
section
variable {K : PySem.W.Frag} {mg : Str → Option Value} {H : Hp} {et : Hi} {W : Wd}
mutual
theorem VR.dp : ∀ (p : PV) (v : V) (d : PyData), VR K mg W H p v → dat p = some d → Dp K H v d
  | .non, v, d, h, e => by unfold VR at h; unfold dat at e; cases e; subst h; exact .non
  | .bl b, v, d, h, e => by unfold VR at h; unfold dat at e; cases e; subst h; exact .bl b
  | .int b, v, d, h, e => by unfold VR at h; unfold dat at e; cases e; subst h; exact .int b
  | .str b, v, d, h, e => by unfold VR at h; unfold dat at e; cases e; subst h; exact .str b
  | .tup xs, v, d, h, e => by
    unfold VR at h; unfold dat at e
    obtain ⟨a, vs, rfl, h1, h2⟩ := h
    cases q : dats xs with
    | none => rw [q] at e; cases e
    | some ds => rw [q] at e; cases e; exact .tup h1 (VRs.dp xs vs ds h2 q)
  | .lst xs, v, d, h, e => by
    unfold VR at h; unfold dat at e
    obtain ⟨a, vs, rfl, _, h1, h2⟩ := h
    cases q : dats xs with
    | none => rw [q] at e; cases e
    | some ds => rw [q] at e; cases e; exact .lst (SqL.of h1) (VRs.dp xs vs ds h2 q)
  | .dic _, v, d, h, e => by unfold dat at e; cases e
  | .scr _, v, d, h, e => by unfold dat at e; cases e
  | .ref _, v, d, h, e => by unfold dat at e; cases e
  | .glo _, v, d, h, e => by unfold dat at e; cases e
  | .ty _, v, d, h, e => by unfold dat at e; cases e
  | .dik _, v, d, h, e => by unfold dat at e; cases e
theorem VRs.dp : ∀ (p : List PV) (v : List V) (d : List PyData), VRs K mg W H p v → dats p = some d → DpAll K H v d
  | [], v, d, h, e => by unfold VRs at h; unfold dats at e; cases e; subst h; exact .nil
  | p :: ps, v, d, h, e => by
    unfold VRs at h; unfold dats at e
    obtain ⟨u, r, rfl, h1, h2⟩ := h
    cases q : dat p with
    | none => rw [q] at e; cases e
    | some d1 =>
      rw [q] at e
      simp only [Option.bind_some] at e
      cases q2 : dats ps with
      | none => rw [q2] at e; cases e
      | some ds => rw [q2] at e; cases e; exact .cons (VR.dp p u d1 h1 q) (VRs.dp ps r ds h2 q2)
end
theorem Pk.dp (c : Cel K mg H et W) {p : PV} {v : V} {d : PyData} (h : Pk K mg p v H et W) (e : dat (deref et p) = some d) : Dp K H v d := by
  cases q : deref et p with
  | lst xs =>
    rw [q] at e
    obtain ⟨a, vs, rfl, h1, h2⟩ := h.lst c q
    unfold dat at e
    cases q2 : dats xs with
    | none => rw [q2] at e; cases e
    | some ds => rw [q2] at e; cases e; exact .lst (SqL.of h1) (VRs.dp xs vs ds h2 q2)
  | dic xs => rw [q] at e; unfold dat at e; cases e
  | ref n => rw [q] at e; unfold dat at e; cases e
  | _ => rw [q] at e; exact VR.dp _ _ _ (h.val q rfl) e
end
def gAdd : PV → PV → Option PV
  | .int i, .int j => some (.int (i + j))
  | .str x, .str y => if x.length + y.length ≤ sizeLine then some (.str (x ++ y)) else none
  | .tup xs, .tup ys => if xs.length + ys.length ≤ sizeLine then some (.tup (xs ++ ys)) else none
  | .lst xs, .lst ys => if xs.length + ys.length ≤ sizeLine then some (.lst (xs ++ ys)) else none
  | _, _ => none
def gCat : PV → PV → Option PV
  | .lst xs, .lst ys => if xs.length + ys.length ≤ sizeLine then some (.lst (xs ++ ys)) else none
  | _, _ => none
def gSubI : PV → PV → Option PV
  | .int i, .int j => some (.int (i - j))
  | _, _ => none
def gMul : PV → PV → Option PV
  | .int i, .int j => if (-(2 ^ 64) < i ∧ i < 2 ^ 64) ∨ (-(2 ^ 64) < j ∧ j < 2 ^ 64) then some (.int (i * j)) else none
  | _, _ => none
def gRep : PV → PV → Option PV
  | .lst xs, .int k => if 0 ≤ k ∧ k < 2 ^ 63 ∧ xs.length * k.toNat ≤ sizeLine then some (.lst (List.replicate k.toNat xs).flatten) else none
  | _, _ => none
def gDiv : PV → PV → Option PV
  | .int i, .int j => if 0 < j ∧ j < 1073741824 then some (.int (i / j)) else none
  | _, _ => none
def gMod : PV → PV → Option PV
  | .int i, .int j => if 0 < j then some (.int (i % j)) else none
  | _, _ => none
def gPow : PV → PV → Option PV
  | .int i, .int j => if 0 ≤ j ∧ j ≤ 1000000 ∧ i.natAbs < 2 ^ 64 then some (.int (i ^ j.toNat)) else none
  | _, _ => none
section
variable {K : PySem.W.Frag} {mg : Str → Option Value}
def rCatX (K : PySem.W.Frag) : R2 := fun x y H Q => ∃ a b xs ys, x = .ref a ∧ y = .ref b ∧ SqT K H a xs ∧ SqT K H b ys ∧ xs.length + ys.length ≤ sizeLine ∧
  (xs = [] → Q (.ref b) H) ∧ (xs ≠ [] → ys = [] → Q (.ref a) H) ∧ (xs ≠ [] → ys ≠ [] → ∀ p o, H p = none → XTup o → Q (.ref p) (upd H p (.frz o (.tup (xs ++ ys)))))
theorem op_catX {X : Cx} : OpR X (binaryOp .Add) (rCatX X.K) := by
  intro pins s σ H x y v u Q I rx ry ⟨a, b, xs, ys, ea, eb, ha, hb, hz, q0, q1, q2⟩
  by_cases hx : xs = []
  · exact op_catA pins s σ H x y v u Q I rx ry ⟨a, b, xs, ys, ea, eb, ha, hb, hz, q0, q1, fun n => absurd hx n⟩
  by_cases hy : ys = []
  · exact op_catA pins s σ H x y v u Q I rx ry ⟨a, b, xs, ys, ea, eb, ha, hb, hz, q0, q1, fun _ n => absurd hy n⟩
  subst ea
  subst eb
  cases rx
  cases ry
  obtain ⟨i1, r1, p1, _⟩ := I.tuple ha
  obtain ⟨i2, r2, p2, _⟩ := I.tuple hb
  have n1 : i1 ≠ [] := fun z => hx (r1.nil_iff.mp z)
  have n2 : i2 ≠ [] := fun z => hy (r2.nil_iff.mp z)
  refine HT.cat_tup p1 p2 n1 (fun z => absurd z n2) (fun _ => ?_) (by rw [← r1.length, ← r2.length]; exact hz)
  obtain ⟨o, ho, hg⟩ := tup_push s.heap (i1 ++ i2).toArray
  refine ⟨.ref s.heap.objs.size, _, I.laid (t' := s.toks) (o := .frz o (.tup (xs ++ ys))) (fun b ob q => Heap.get?_push_of_some _ q) (Nat.le_refl _) ?_, rfl, q2 hx hy _ o (I.hok.fresh (Nat.le_refl _)) ho⟩
  exact ⟨hg, by rw [List.length_append]; exact hz, _, r1.append r2, PyProof.Rows.IsTup.new _ _⟩
def rAdd (K : PySem.W.Frag) : R2 := fun x y H Q => rI0 (fun i j => .int (i + j)) x y H Q ∨ (∃ i j, x = .str i ∧ y = .str j ∧ i.length + j.length ≤ sizeLine ∧ Q (.str (i ++ j)) H) ∨ rCatX K x y H Q ∨ rCat x y H Q
theorem op_addA {X : Cx} : OpR X (binaryOp .Add) (rAdd X.K) := op_add.or (op_add_str.or (op_catX.or op_cat))
theorem VRs.empty_iff {W : Wd} {H : Hp} {ps : List PV} {vs : List V} (h : VRs K mg W H ps vs) : vs = [] ↔ ps = [] := by
  have e := h.len
  constructor
  · intro z; rw [z] at e; exact List.eq_nil_of_length_eq_zero e
  · intro z; rw [z] at e; exact List.eq_nil_of_length_eq_zero e.symm
theorem o2_add : Op2 K mg (rAdd K) gAdd (pV K mg) := by
  intro x y H et W p q z Q c hp hq hz k
  unfold gAdd at hz
  split at hz
  · rename_i i j e1 e2
    cases hz
    exact .inl ⟨i, j, hp.int e1, hq.int e2, k _ H W (Ext.refl ..) c VR.int⟩
  · rename_i i j e1 e2
    split at hz
    · rename_i hl; cases hz
      exact .inr (.inl ⟨i, j, hp.str e1, hq.str e2, hl, k _ H W (Ext.refl ..) c VR.str⟩)
    · cases hz
  · rename_i xs ys e1 e2
    split at hz
    · rename_i hl; cases hz
      obtain ⟨a, vs, rfl, h1, h2⟩ := hp.tup e1
      obtain ⟨b, ws, rfl, h3, h4⟩ := hq.tup e2
      refine .inr (.inr (.inl ⟨a, b, vs, ws, rfl, rfl, h1, h3, by rw [← h2.len, ← h4.len]; exact hl, fun z => ?_, fun z z2 => ?_, fun z z2 t o ht ho => ?_⟩))
      · have := h2.empty_iff.mp z; subst this
        refine k _ H W (Ext.refl ..) c ?_
        show VR K mg W H (.tup ([] ++ ys)) _
        unfold VR; exact ⟨b, ws, rfl, h3, h4⟩
      · have := h4.empty_iff.mp z2; subst this
        refine k _ H W (Ext.refl ..) c ?_
        show VR K mg W H (.tup (xs ++ [])) _
        rw [List.append_nil]
        unfold VR; exact ⟨a, vs, rfl, h1, h2⟩
      · obtain ⟨x1, c1, r1⟩ := new_tup c ht ho (VRs.append h2 h4)
        exact k _ _ W x1 c1 r1
    · cases hz
  · rename_i xs ys e1 e2
    split at hz
    · rename_i hl; cases hz
      obtain ⟨a, vs, rfl, h1, h2⟩ := hp.lst c e1
      obtain ⟨b, ws, rfl, h3, h4⟩ := hq.lst c e2
      refine .inr (.inr (.inr ⟨a, b, vs, ws, rfl, rfl, h1, h3, by rw [← h2.len, ← h4.len]; exact hl, fun t ht => ?_⟩))
      obtain ⟨x1, c1, r1⟩ := new_lst c ht (VRs.append h2 h4)
      exact k _ _ _ x1 c1 r1
    · cases hz
  · cases hz
theorem o2_cat : Op2 K mg rCat gCat (pN K mg) := by
  intro x y H et W p q z Q c hp hq hz k
  unfold gCat at hz
  split at hz
  · rename_i xs ys e1 e2
    split at hz
    · rename_i hl; cases hz
      obtain ⟨a, vs, rfl, h1, h2⟩ := hp.lst c e1
      obtain ⟨b, ws, rfl, h3, h4⟩ := hq.lst c e2
      refine ⟨a, b, vs, ws, rfl, rfl, h1, h3, by rw [← h2.len, ← h4.len]; exact hl, fun t ht => ?_⟩
      obtain ⟨x1, c1, r1⟩ := new_own c ht (VRs.append h2 h4)
      exact k _ _ _ x1 c1 r1
    · cases hz
  · cases hz
theorem o2_rep : Op2 K mg rRep gRep (pN K mg) := by
  intro x y H et W p q z Q c hp hq hz k
  unfold gRep at hz
  split at hz
  · rename_i xs n e1 e2
    split at hz
    · rename_i hl; cases hz
      obtain ⟨a, vs, rfl, h1, h2⟩ := hp.lst c e1
      refine ⟨a, n, vs, rfl, hq.int e2, h1, by omega, hl.2.1, by rw [← h2.len]; exact hl.2.2, fun t ht => ?_⟩
      obtain ⟨x1, c1, r1⟩ := new_own c ht (VRs.rep h2 n.toNat)
      exact k _ _ _ x1 c1 r1
    · cases hz
  · cases hz
theorem o2_sub : Op2 K mg (rI0 fun i j => .int (i - j)) gSubI (pV K mg) := by
  intro x y H et W p q z Q c hp hq hz k
  unfold gSubI at hz
  split at hz
  · rename_i i j e1 e2
    cases hz
    exact ⟨i, j, hp.int e1, hq.int e2, k _ H W (Ext.refl ..) c VR.int⟩
  · cases hz
theorem o2_mul : Op2 K mg (rI CMul fun i j => .int (i * j)) gMul (pV K mg) := by
  intro x y H et W p q z Q c hp hq hz k
  unfold gMul at hz
  split at hz
  · rename_i i j e1 e2
    split at hz
    · rename_i hl; cases hz
      exact ⟨i, j, hp.int e1, hq.int e2, hl, k _ H W (Ext.refl ..) c VR.int⟩
    · cases hz
  · cases hz
theorem o2_div : Op2 K mg (rI CDiv fun i j => .int (i / j)) gDiv (pV K mg) := by
  intro x y H et W p q z Q c hp hq hz k
  unfold gDiv at hz
  split at hz
  · rename_i i j e1 e2
    split at hz
    · rename_i hl; cases hz
      exact ⟨i, j, hp.int e1, hq.int e2, hl, k _ H W (Ext.refl ..) c VR.int⟩
    · cases hz
  · cases hz
theorem o2_mod : Op2 K mg (rI (fun _ j => 0 < j) fun i j => .int (i % j)) gMod (pV K mg) := by
  intro x y H et W p q z Q c hp hq hz k
  unfold gMod at hz
  split at hz
  · rename_i i j e1 e2
    split at hz
    · rename_i hl; cases hz
      exact ⟨i, j, hp.int e1, hq.int e2, hl, k _ H W (Ext.refl ..) c VR.int⟩
    · cases hz
  · cases hz
theorem o2_pow : Op2 K mg (rI CPow fun i j => .int (i ^ j.toNat)) gPow (pV K mg) := by
  intro x y H et W p q z Q c hp hq hz k
  unfold gPow at hz
  split at hz
  · rename_i i j e1 e2
    split at hz
    · rename_i hl; cases hz
      exact ⟨i, j, hp.int e1, hq.int e2, hl, k _ H W (Ext.refl ..) c VR.int⟩
    · cases hz
  · cases hz
def eqB : PV → PV → Option Bool
  | .int i, .int j => some (decide (i = j))
  | .str x, .str y => some (decide (x = y))
  | .bl x, .bl y => some (decide (x = y))
  | .non, .non => some true
  | .int _, .str _ => some false
  | .str _, .int _ => some false
  | .int _, .non => some false
  | .non, .int _ => some false
  | .str _, .non => some false
  | .non, .str _ => some false
  | p, q => match dat p, dat q with
    | some d, some e => if SeqAt.shaped d = true ∧ SeqAt.shaped e = true then some (PyData.eqv d e) else none
    | _, _ => none
def gEq (p q : PV) : Option PV := (eqB p q).map .bl
def gNe (p q : PV) : Option PV := (eqB p q).map fun b => .bl (!b)
def rEqA (K : PySem.W.Frag) : R2 := fun x y H Q => rEq x y H Q ∨ rEqD K x y H Q
def rNeA (K : PySem.W.Frag) : R2 := fun x y H Q => rNe x y H Q ∨ rNeD K x y H Q
theorem op_eqA {X : Cx} (hu : X.A.units + 64 < cLine) : OpR X (compareOp .Eq) (rEqA X.K) := op_eq.or (op_eqD hu)
theorem op_neA {X : Cx} (hu : X.A.units + 64 < cLine) : OpR X (compareOp .NotEq) (rNeA X.K) := op_ne.or (op_neD hu)
theorem eqB_ok {x y : V} {H : Hp} {et : Hi} {W : Wd} {p q : PV} {b : Bool} (c : Cel K mg H et W) (hp : Pk K mg p x H et W) (hq : Pk K mg q y H et W) (h : eqB (deref et p) (deref et q) = some b) :
    (scal x y = true ∧ decide (x = y) = b) ∨ ∃ d e, Dp K H x d ∧ Dp K H y e ∧ SeqAt.shaped d = true ∧ SeqAt.shaped e = true ∧ PyData.eqv d e = b := by
  unfold eqB at h
  split at h
  · rename_i i j e1 e2; cases h; rw [hp.int e1, hq.int e2]; exact .inl ⟨rfl, by simp⟩
  · rename_i i j e1 e2; cases h; rw [hp.str e1, hq.str e2]; exact .inl ⟨rfl, by simp⟩
  · rename_i i j e1 e2; cases h; rw [hp.bl e1, hq.bl e2]; exact .inl ⟨rfl, by simp⟩
  · rename_i e1 e2; cases h; rw [hp.non e1, hq.non e2]; exact .inl ⟨rfl, by simp⟩
  · rename_i i j e1 e2; cases h; rw [hp.int e1, hq.str e2]; exact .inl ⟨rfl, by simp⟩
  · rename_i i j e1 e2; cases h; rw [hp.str e1, hq.int e2]; exact .inl ⟨rfl, by simp⟩
  · rename_i i e1 e2; cases h; rw [hp.int e1, hq.non e2]; exact .inl ⟨rfl, by simp⟩
  · rename_i i e1 e2; cases h; rw [hp.non e1, hq.int e2]; exact .inl ⟨rfl, by simp⟩
  · rename_i i e1 e2; cases h; rw [hp.str e1, hq.non e2]; exact .inl ⟨rfl, by simp⟩
  · rename_i i e1 e2; cases h; rw [hp.non e1, hq.str e2]; exact .inl ⟨rfl, by simp⟩
  · split at h
    · rename_i d e hd he
      split at h
      · rename_i hs; cases h
        exact .inr ⟨d, e, hp.dp c hd, hq.dp c he, hs.1, hs.2, rfl⟩
      · cases h
    · cases h
theorem o2_eq : Op2 K mg (rEqA K) gEq (pV K mg) := by
  intro x y H et W p q z Q c hp hq hz k
  unfold gEq at hz
  cases e : eqB (deref et p) (deref et q) with
  | none => rw [e] at hz; cases hz
  | some b =>
    rw [e] at hz; cases hz
    have qd := k _ H W (Ext.refl ..) c VR.bl
    rcases eqB_ok c hp hq e with ⟨h1, h2⟩ | ⟨d, e', h1, h2, h3, h4, h5⟩
    · exact .inl ⟨h1, by rw [h2]; exact qd⟩
    · exact .inr ⟨d, e', h1, h2, h3, h4, by rw [h5]; exact qd⟩
theorem o2_ne : Op2 K mg (rNeA K) gNe (pV K mg) := by
  intro x y H et W p q z Q c hp hq hz k
  unfold gNe at hz
  cases e : eqB (deref et p) (deref et q) with
  | none => rw [e] at hz; cases hz
  | some b =>
    rw [e] at hz; cases hz
    have qd := k _ H W (Ext.refl ..) c VR.bl
    rcases eqB_ok c hp hq e with ⟨h1, h2⟩ | ⟨d, e', h1, h2, h3, h4, h5⟩
    · exact .inl ⟨h1, by rw [h2]; exact qd⟩
    · exact .inr ⟨d, e', h1, h2, h3, h4, by rw [h5]; exact qd⟩
def gLt : PV → PV → Option PV
  | .int i, .int j => some (.bl (decide (i < j)))
  | .str i, .str j => some (.bl (decide (i.cps.toList < j.cps.toList)))
  | _, _ => none
def gLe : PV → PV → Option PV
  | .int i, .int j => some (.bl (decide (i ≤ j)))
  | _, _ => none
def gGt : PV → PV → Option PV
  | .int i, .int j => some (.bl (decide (j < i)))
  | _, _ => none
def gGe : PV → PV → Option PV
  | .int i, .int j => some (.bl (decide (j ≤ i)))
  | _, _ => none
def rLtA : R2 := fun x y H Q => rI0 (fun i j => .bl (decide (i < j))) x y H Q ∨ ∃ i j, x = .str i ∧ y = .str j ∧ Q (.bl (decide (i.cps.toList < j.cps.toList))) H
theorem op_ltA {X : Cx} : OpR X (compareOp .Lt) rLtA := op_lt.or op_lt_str
theorem o2_lt : Op2 K mg rLtA gLt (pV K mg) := by
  intro x y H et W p q z Q c hp hq hz k
  unfold gLt at hz
  split at hz
  · rename_i i j e1 e2
    cases hz
    exact .inl ⟨i, j, hp.int e1, hq.int e2, k _ H W (Ext.refl ..) c VR.bl⟩
  · rename_i i j e1 e2
    cases hz
    exact .inr ⟨i, j, hp.str e1, hq.str e2, k _ H W (Ext.refl ..) c VR.bl⟩
  · cases hz
theorem o2_gt : Op2 K mg (rI0 fun i j => .bl (decide (j < i))) gGt (pV K mg) := by
  intro x y H et W p q z Q c hp hq hz k
  unfold gGt at hz
  split at hz
  · rename_i i j e1 e2
    cases hz
    exact ⟨i, j, hp.int e1, hq.int e2, k _ H W (Ext.refl ..) c VR.bl⟩
  · cases hz
theorem o2_ge : Op2 K mg (rI0 fun i j => .bl (decide (j ≤ i))) gGe (pV K mg) := by
  intro x y H et W p q z Q c hp hq hz k
  unfold gGe at hz
  split at hz
  · rename_i i j e1 e2
    cases hz
    exact ⟨i, j, hp.int e1, hq.int e2, k _ H W (Ext.refl ..) c VR.bl⟩
  · cases hz
def gIs : PV → PV → Option PV
  | .non, .non => some (.bl true)
  | .bl _, .non => some (.bl false)
  | .int _, .non => some (.bl false)
  | .str _, .non => some (.bl false)
  | .tup _, .non => some (.bl false)
  | .lst _, .non => some (.bl false)
  | .dic _, .non => some (.bl false)
  | .scr _, .non => some (.bl false)
  | .ref _, .non => some (.bl false)
  | .bl a, .bl b => some (.bl (decide (a = b)))
  | _, _ => none
def gIsNot (p q : PV) : Option PV := match gIs p q with
  | some (.bl b) => some (.bl (!b))
  | _ => none
end
end Mw
namespace Mw
open PySem PySem.Spec L2
section
variable {X : Cx} {e : Expr} {es : List Expr} {m : EM PV} {ms : EM (List PV)} {pos : Pos}
def mNil : EM (List PV) := fun _ et R => R [] et
def mCons (m : EM PV) (ms : EM (List PV)) : EM (List PV) := fun ep et R => m ep et fun p et1 => ms ep et1 fun ps et2 => R (p :: ps) et2
theorem sA_nil : SimA X [] mNil := weakA pa_nil fun σ H Q ⟨ep, et, W, R, c, s, e, q⟩ => q [] et e [] H W (Ext.refl ..) c VRs.nil
theorem sAP_nil : SimAP X [] mNil := weakA pa_nil fun σ H Q ⟨ep, et, W, R, c, s, e, q⟩ => q [] et e [] H W (Ext.refl ..) c rfl
theorem sA_cons (he : SimE X e m) (hr : SimA X es ms) (hs : starEach (e :: es) X.env = (false, eval e X.env) :: starEach es X.env := by rfl) : SimA X (e :: es) (mCons m ms) :=
  weakA (pa_cons he hr hs) fun σ H Q ⟨ep, et, W, R, c, s, e, q⟩ => by
  refine ⟨ep, et, W, _, c, s, e, fun p et1 r1 v H1 W1 x1 c1 p1 => ⟨ep, et1, W1, _, c1, s.ext c x1, r1, fun ps et2 r2 vs H2 W2 x2 c2 p2 => ?_⟩⟩
  exact q (p :: ps) et2 r2 (v :: vs) H2 W2 (x1.NoO_trans x2) c2 (VRs.cons (VR.ext x2 c1.stays0 _ _ p1) p2)
theorem sAP_cons (he : SimP X e m) (hr : SimAP X es ms) (hs : starEach (e :: es) X.env = (false, eval e X.env) :: starEach es X.env := by rfl) : SimAP X (e :: es) (mCons m ms) :=
  weakA (pa_cons he hr hs) fun σ H Q ⟨ep, et, W, R, c, s, e, q⟩ => by
  refine ⟨ep, et, W, _, c, s, e, fun p et1 r1 v H1 W1 x1 c1 p1 => ⟨ep, et1, W1, _, c1, s.ext c x1, r1, fun ps et2 r2 vs H2 W2 x2 c2 p2 => ?_⟩⟩
  exact q (p :: ps) et2 r2 (v :: vs) H2 W2 (x1.NoO_trans x2) c2 ⟨v, vs, rfl, Pk.ext x2 c1 p1, p2⟩
section
variable {x : Str} {id T : String} {p : Pos} {R : List V → Hp → VK → Prop} {g : List PV → Option PV}
theorem sE_callB (hc : CallR X (.builtin id) R) (hg : OpA X.K X.mg R g (pV X.K X.mg)) (hx : Gl X x) (hm : X.mg x = none) (hv : bootBuiltins x = some (.builtin id)) (ha : SimAP X (e :: es) ms) (hn : x ≠ "__name__" := by decide) (hdb : (x == ("__debug__" : Str)) = false := by decide)
    (he : starEach (e :: es) X.env = (false, eval e X.env) :: starEach es X.env := by rfl) (hpl : (backTo pos (starEach es X.env)).any (·.1) = false := by rfl) : SimE X (.Call (.Name x p) (e :: es) [] pos) (mArg g ms) :=
  arg_weak early_V (pe_callB hc hx hm hv ha hn hdb he hpl) hg
theorem sN_callB (hc : CallR X (.builtin id) R) (hg : OpA X.K X.mg R g (pN X.K X.mg)) (hx : Gl X x) (hm : X.mg x = none) (hv : bootBuiltins x = some (.builtin id)) (ha : SimAP X (e :: es) ms) (hn : x ≠ "__name__" := by decide) (hdb : (x == ("__debug__" : Str)) = false := by decide)
    (he : starEach (e :: es) X.env = (false, eval e X.env) :: starEach es X.env := by rfl) (hpl : (backTo pos (starEach es X.env)).any (·.1) = false := by rfl) : SimN X (.Call (.Name x p) (e :: es) [] pos) (mArg g ms) :=
  arg_weak early_N (pe_callB hc hx hm hv ha hn hdb he hpl) hg
theorem sE_callTy (hc : CallR X (.type T) R) (hg : OpA X.K X.mg R g (pV X.K X.mg)) (hx : Gl X x) (hm : X.mg x = none) (hv : bootBuiltins x = some (.type T)) (ha : SimAP X (e :: es) ms) (hn : x ≠ "__name__" := by decide) (hdb : (x == ("__debug__" : Str)) = false := by decide)
    (he : starEach (e :: es) X.env = (false, eval e X.env) :: starEach es X.env := by rfl) (hpl : (backTo pos (starEach es X.env)).any (·.1) = false := by rfl) : SimE X (.Call (.Name x p) (e :: es) [] pos) (mArg g ms) :=
  arg_weak early_V (pe_callTy hc hx hm hv ha hn hdb he hpl) hg
end
end
section
variable {K : PySem.W.Frag} {mg : Str → Option Value}
theorem Pks.one {H : Hp} {et : Hi} {W : Wd} {p : PV} {vs : List V} (h : Pks K mg [p] vs H et W) : ∃ v, vs = [v] ∧ Pk K mg p v H et W := by
  obtain ⟨v, r, e, h1, h2⟩ := h
  have : r = [] := h2
  subst this
  exact ⟨v, e, h1⟩
theorem Pks.two {H : Hp} {et : Hi} {W : Wd} {p q : PV} {vs : List V} (h : Pks K mg [p, q] vs H et W) : ∃ v u, vs = [v, u] ∧ Pk K mg p v H et W ∧ Pk K mg q u H et W := by
  obtain ⟨v, r, e, h1, h2⟩ := h
  obtain ⟨u, rfl, h3⟩ := Pks.one h2
  exact ⟨v, u, e, h1, h3⟩
theorem map1 {f : PV → PV} {ps : List PV} {q : PV} (h : ps.map f = [q]) : ∃ p, ps = [p] ∧ f p = q := by
  match ps, h with
  | [p], h => exact ⟨p, rfl, by simpa using h⟩
theorem map2 {f : PV → PV} {ps : List PV} {q r : PV} (h : ps.map f = [q, r]) : ∃ p p', ps = [p, p'] ∧ f p = q ∧ f p' = r := by
  match ps, h with
  | [p, p'], h => exact ⟨p, p', rfl, by simpa using h⟩
def gLen : List PV → Option PV
  | [.lst xs] => some (.int xs.length)
  | [.tup xs] => some (.int xs.length)
  | [.scr xs] => some (.int xs.length)
  | [.str x] => if x.length ≤ sizeLine then some (.int x.length) else none
  | _ => none
theorem oA_len : OpA K mg (fun xs H Q => ∃ x n, xs = [x] ∧ LenV K x H n ∧ Q (.int n) H) gLen (pV K mg) := by
  intro xs H et W ps z Q c hp hz k
  unfold gLen at hz
  split at hz
  · rename_i ys e
    cases hz
    obtain ⟨p, rfl, e'⟩ := map1 e
    obtain ⟨v, rfl, h⟩ := hp.one
    obtain ⟨a, vs, rfl, h1, h2⟩ := h.lst c e'
    exact ⟨_, _, rfl, .inl ⟨vs, SqL.of h1, rfl⟩, by rw [← h2.len]; exact k _ H W (Ext.refl ..) c VR.int⟩
  · rename_i ys e
    cases hz
    obtain ⟨p, rfl, e'⟩ := map1 e
    obtain ⟨v, rfl, h⟩ := hp.one
    obtain ⟨a, vs, rfl, h1, h2⟩ := h.tup e'
    exact ⟨_, _, rfl, .inr ⟨vs, h1, rfl⟩, by rw [← h2.len]; exact k _ H W (Ext.refl ..) c VR.int⟩
  · rename_i ys e
    cases hz
    obtain ⟨p, rfl, e'⟩ := map1 e
    obtain ⟨v, rfl, h⟩ := hp.one
    obtain ⟨a, rfl, h1⟩ := h.scr e'
    exact ⟨_, _, rfl, .inl ⟨_, h1.sq, rfl⟩, by rw [List.length_map]; exact k _ H W (Ext.refl ..) c VR.int⟩
  · rename_i ys e
    split at hz
    · rename_i hl
      cases hz
      obtain ⟨p, rfl, e'⟩ := map1 e
      obtain ⟨v, rfl, h⟩ := hp.one
      rw [h.str e']
      exact ⟨_, _, rfl, ⟨hl, rfl⟩, k _ H W (Ext.refl ..) c VR.int⟩
    · cases hz
  · cases hz
def bls : List PV → Option (List Bool)
  | [] => some []
  | .bl b :: r => (bls r).map (b :: ·)
  | _ => none
theorem VRs.bls {H : Hp} {W : Wd} : ∀ {ps : List PV} {vs : List V} {bs : List Bool}, VRs K mg W H ps vs → bls ps = some bs → vs = bs.map V.bl
  | [], vs, bs, h, e => by unfold VRs at h; cases e; exact h
  | .bl b :: ps, vs, bs, h, e => by
    unfold VRs at h; unfold Mw.bls at e
    obtain ⟨v, r, rfl, h1, h2⟩ := h
    cases q : Mw.bls ps with
    | none => rw [q] at e; cases e
    | some bs' =>
      rw [q] at e; cases e
      unfold VR at h1
      rw [h1, VRs.bls h2 q]; rfl
  | .non :: ps, vs, bs, h, e => by cases e
  | .int _ :: ps, vs, bs, h, e => by cases e
  | .str _ :: ps, vs, bs, h, e => by cases e
  | .tup _ :: ps, vs, bs, h, e => by cases e
  | .lst _ :: ps, vs, bs, h, e => by cases e
  | .dic _ :: ps, vs, bs, h, e => by cases e
  | .scr _ :: ps, vs, bs, h, e => by cases e
  | .ref _ :: ps, vs, bs, h, e => by cases e
  | .glo _ :: ps, vs, bs, h, e => by cases e
  | .ty _ :: ps, vs, bs, h, e => by cases e
  | .dik _ :: ps, vs, bs, h, e => by cases e
def gAny : List PV → Option PV
  | [.lst xs] => (bls xs).map fun bs => .bl (bs.any id)
  | _ => none
theorem oA_any : OpA K mg (rAny K) gAny (pV K mg) := by
  intro xs H et W ps z Q c hp hz k
  unfold gAny at hz
  split at hz
  · rename_i ys e
    obtain ⟨p, rfl, e'⟩ := map1 e
    obtain ⟨v, rfl, h⟩ := hp.one
    obtain ⟨a, vs, rfl, h1, h2⟩ := h.lst c e'
    cases q : bls ys with
    | none => rw [q] at hz; cases hz
    | some bs => rw [q] at hz; cases hz; rw [h2.bls q] at h1; exact ⟨a, bs, rfl, SqL.of h1, k _ H W (Ext.refl ..) c VR.bl⟩
  · cases hz
def gMin2 : List PV → Option PV
  | [.int i, .int j] => some (.int (if j < i then j else i))
  | _ => none
def gMax2 : List PV → Option PV
  | [.int i, .int j] => some (.int (if j > i then j else i))
  | _ => none
def gAbs : List PV → Option PV
  | [.int i] => some (.int (if i < 0 then -i else i))
  | _ => none
def gInt : List PV → Option PV
  | [.int i] => some (.int i)
  | [.bl b] => some (.int (if b then 1 else 0))
  | _ => none
theorem oA_min2 : OpA K mg (fun xs H Q => ∃ i j, xs = [.int i, .int j] ∧ Q (.int (if j < i then j else i)) H) gMin2 (pV K mg) := by
  intro xs H et W ps z Q c hp hz k
  unfold gMin2 at hz
  split at hz
  · rename_i i j e
    cases hz
    obtain ⟨p, p', rfl, e1, e2⟩ := map2 e
    obtain ⟨v, u, rfl, h1, h2⟩ := hp.two
    exact ⟨i, j, by rw [h1.int e1, h2.int e2], k _ H W (Ext.refl ..) c VR.int⟩
  · cases hz
theorem oA_max2 : OpA K mg (fun xs H Q => ∃ i j, xs = [.int i, .int j] ∧ Q (.int (if j > i then j else i)) H) gMax2 (pV K mg) := by
  intro xs H et W ps z Q c hp hz k
  unfold gMax2 at hz
  split at hz
  · rename_i i j e
    cases hz
    obtain ⟨p, p', rfl, e1, e2⟩ := map2 e
    obtain ⟨v, u, rfl, h1, h2⟩ := hp.two
    exact ⟨i, j, by rw [h1.int e1, h2.int e2], k _ H W (Ext.refl ..) c VR.int⟩
  · cases hz
theorem oA_int : OpA K mg (fun xs H Q => (∃ i, xs = [.int i] ∧ Q (.int i) H) ∨ ∃ k, xs = [.bl k] ∧ Q (.int (if k then 1 else 0)) H) gInt (pV K mg) := by
  intro xs H et W ps z Q c hp hz k
  unfold gInt at hz
  split at hz
  · rename_i i e
    cases hz
    obtain ⟨p, rfl, e1⟩ := map1 e
    obtain ⟨v, rfl, h1⟩ := hp.one
    exact .inl ⟨i, by rw [h1.int e1], k _ H W (Ext.refl ..) c VR.int⟩
  · rename_i i e
    cases hz
    obtain ⟨p, rfl, e1⟩ := map1 e
    obtain ⟨v, rfl, h1⟩ := hp.one
    exact .inr ⟨i, by rw [h1.bl e1], k _ H W (Ext.refl ..) c VR.int⟩
  · cases hz
def gList : List PV → Option PV
  | [.lst xs] => some (.lst xs)
  | [.tup xs] => some (.lst xs)
  | _ => none
def gTuple : List PV → Option PV
  | [.lst xs] => some (.tup xs)
  | [.tup xs] => some (.tup xs)
  | _ => none
def rTupX (K : PySem.W.Frag) : List V → Hp → VK → Prop := fun xs H Q => ∃ p ys, xs = [.ref p] ∧ ((SqL K H p ys ∧ ∀ l o, H l = none → XTup o → Q (.ref l) (upd H l (.frz o (.tup ys)))) ∨ (SqT K H p ys ∧ Q (.ref p) H))
theorem call_tupleX {X : Cx} : CallR X (.type "tuple") (rTupX X.K) := by
  intro pins s σ H xs us Q I r ⟨p, ys, ex, h⟩
  rcases h with ⟨hq, q⟩ | h
  · subst ex
    obtain ⟨u, eu, rx⟩ := vals1 r
    subst eu
    cases rx
    obtain ⟨its, r', pl, hz⟩ := I.list hq
    have hlen := r'.length
    refine call_tuple_list pl.isList (fun h' kp => ?_) (by simp only [List.size_toArray] <;> omega)
    have I1 : Inv X pins σ H { s with heap := h' } := I.kept (t' := s.toks) kp
    obtain ⟨o, ho, hg⟩ := tup_push h' its.toArray
    refine ⟨.ref h'.objs.size, _, I1.laid (t' := s.toks) (o := .frz o (.tup ys)) (fun b o e => Heap.get?_push_of_some _ e) (Nat.le_refl _) ?_, rfl, q _ o (I1.hok.fresh (Nat.le_refl _)) ho⟩
    exact ⟨hg, hz, its, r', PyProof.Rows.IsTup.new _ _⟩
  · exact call_tuple_of pins s σ H xs us Q I r ⟨p, ys, ex, .inr h⟩
theorem oA_tuple : OpA K mg (rTupX K) gTuple (pV K mg) := by
  intro xs H et W ps z Q c hp hz k
  unfold gTuple at hz
  split at hz
  · rename_i ys e
    cases hz
    obtain ⟨p, rfl, e'⟩ := map1 e
    obtain ⟨v, rfl, h⟩ := hp.one
    obtain ⟨a, vs, rfl, h1, h2⟩ := h.lst c e'
    refine ⟨a, vs, rfl, .inl ⟨SqL.of h1, fun l o hl ho => ?_⟩⟩
    obtain ⟨x1, c1, r1⟩ := new_tup c hl ho h2
    exact k _ _ _ x1 c1 r1
  · rename_i ys e
    cases hz
    obtain ⟨p, rfl, e'⟩ := map1 e
    obtain ⟨v, rfl, h⟩ := hp.one
    obtain ⟨a, vs, rfl, h1, h2⟩ := h.tup e'
    refine ⟨a, vs, rfl, .inr ⟨h1, k _ H W (Ext.refl ..) c ?_⟩⟩
    show VR K mg W H (.tup ys) _
    unfold VR; exact ⟨a, vs, rfl, h1, h2⟩
  · cases hz
def eqP : PV → PV → Bool
  | .non, .non => true
  | .bl a, .bl b => a == b
  | .bl a, .int b => (if a then 1 else 0) == b
  | .int a, .bl b => a == (if b then 1 else 0)
  | .int a, .int b => a == b
  | .str a, .str b => decide (a = b)
  | _, _ => false
def flatP : PV → Bool
  | .non => true
  | .bl _ => true
  | .int _ => true
  | .str _ => true
  | _ => false
theorem VR.eqP {W : Wd} {H : Hp} {p q : PV} {v u : V} (h : VR K mg W H p v) (h' : VR K mg W H q u) (f : flatP p = true) (f' : flatP q = true) : eqV v u = eqP p q := by
  cases p <;> first | (cases f; done) | (cases q <;> first | (cases f'; done) | (unfold VR at h h'; subst h; subst h'; first | rfl | (unfold eqV Mw.eqP; rw [Bool.eq_iff_iff]; simp)))
def inB : PV → PV → Option Bool
  | x, .lst xs => if flatP x = true ∧ xs.all flatP = true then some (xs.any fun y => eqP y x) else
    match dat x, dats xs with
    | some d, some ds => if SeqAt.shaped d = true ∧ SeqAt.shaped (.list ds) = true then some (ds.any fun z => PyData.eqv z d) else none
    | _, _ => none
  | x, .tup xs => if flatP x = true ∧ xs.all flatP = true then some (xs.any fun y => eqP y x) else none
  | .str x, .str y => if x.cps.size = 1 then some (decide (x.cps.getD 0 0 ∈ y.cps.toList)) else none
  | _, _ => none
def gIn (p q : PV) : Option PV := (inB p q).map .bl
end
end Mw
namespace Mw
open PySem PySem.Spec L2
def gIx : PV → PV → Option PV
  | .lst xs, .int i => atI xs i
  | .tup xs, .int i => atI xs i
  | .scr xs, .int i => (atI xs i).map .int
  | .str x, .int i => if x.length ≤ sizeLine then (atI x.cps.toList i).map fun c => .str ⟨#[c]⟩ else none
  | _, _ => none
section
variable {K : PySem.W.Frag} {mg : Str → Option Value} {X : Cx}
theorem VRs.at {H : Hp} {W : Wd} {ps : List PV} {vs : List V} {i : Int} {p : PV} (h : VRs K mg W H ps vs) (e : atI ps i = some p) : ∃ v, atI vs i = some v ∧ VR K mg W H p v := by
  unfold atI at e ⊢
  rw [← h.len]
  cases q : ixN ps.length i with
  | none => rw [q] at e; cases e
  | some j => rw [q] at e; exact VRs.get h e
theorem o2_ix : Op2 K mg (rIx K) gIx (pV K mg) := by
  intro x y H et W p q z Q c hp hq hz k
  unfold gIx at hz
  split at hz
  · rename_i xs i e1 e2
    obtain ⟨a, vs, rfl, h1, h2⟩ := hp.lst c e1
    obtain ⟨v, h3, h4⟩ := h2.at hz
    exact .inl ⟨a, vs, i, v, rfl, hq.int e2, SqL.of h1, h3, k _ H W (Ext.refl ..) c h4⟩
  · rename_i xs i e1 e2
    obtain ⟨a, vs, rfl, h1, h2⟩ := hp.tup e1
    obtain ⟨v, h3, h4⟩ := h2.at hz
    exact .inr (.inl ⟨a, vs, i, v, rfl, hq.int e2, h1, h3, k _ H W (Ext.refl ..) c h4⟩)
  · rename_i xs i e1 e2
    obtain ⟨a, rfl, h1⟩ := hp.scr e1
    cases e3 : atI xs i with
    | none => rw [e3] at hz; cases hz
    | some n =>
      rw [e3] at hz; cases hz
      refine .inl ⟨a, _, i, .int n, rfl, hq.int e2, h1.sq, ?_, k _ H W (Ext.refl ..) c VR.int⟩
      unfold atI at e3 ⊢
      rw [List.length_map]
      cases e4 : ixN xs.length i with
      | none => rw [e4] at e3; cases e3
      | some j => rw [e4] at e3; simp only [Option.bind_some] at e3 ⊢; rw [List.getElem?_map, e3]; rfl
  · rename_i s i e1 e2
    split at hz
    · rename_i hl
      cases e3 : atI s.cps.toList i with
      | none => rw [e3] at hz; cases hz
      | some n => rw [e3] at hz; cases hz; exact .inr (.inr ⟨s, i, n, hp.str e1, hq.int e2, hl, e3, k _ H W (Ext.refl ..) c VR.str⟩)
    · cases hz
  · cases hz
theorem sE_ix {a b : Expr} {pos : Pos} {ma mb : EM PV} (ha : SimP X a ma) (hb : SimP X b mb) (hs : PlainIx b := by exact fun _ _ => rfl) : SimE X (.Subscript a b pos) (mBin gIx ma mb) :=
  bin_weak (a := a) (b := b) early_V (pe_ix ix_seq ha hb hs) o2_ix
def tO (K : PySem.W.Frag) (mg : Str → Option Value) (m : EM (Option Int)) : TO := fun sg H Q => ∃ ep et W R, Cel K mg H et W ∧ Slt K mg sg ep H et W ∧ m ep et R ∧
  ∀ b et', R b et' → ∀ H' W', Ext NoO H et W H' et' W' → Cel K mg H' et' W' → Q b H'
abbrev SimO (X : Cx) (e : Option Expr) (m : EM (Option Int)) : Prop := PO X e (tO X.K X.mg m)
theorem weakO {X : Cx} {e : Option Expr} {t u : TO} (h : PO X e t) (w : ∀ σ H Q, u σ H Q → t σ H Q) : PO X e u := ⟨fun pins s σ H Q I q => h.run pins s σ H Q I (w σ H Q q)⟩
def mO0 : EM (Option Int) := fun _ et R => R none et
def mO1 (m : EM PV) : EM (Option Int) := fun ep et R => m ep et fun p et1 => ∃ i, p = .int i ∧ R (some i) et1
theorem sO_none : SimO X none mO0 := weakO po_none fun σ H Q ⟨ep, et, W, R, c, s, e, q⟩ => q none et e H W (Ext.refl ..) c
theorem sO_some {e : Expr} {m : EM PV} (h : SimE X e m) : SimO X (some e) (mO1 m) := weakO (po_some h) fun σ H Q ⟨ep, et, W, R, c, s, e, q⟩ => by
  refine ⟨ep, et, W, _, c, s, e, fun p et1 r1 v H1 W1 x1 c1 p1 => ?_⟩
  obtain ⟨i, hi, r2⟩ := r1
  subst hi
  have p2 : VR X.K X.mg W1 H1 (.int i) v := p1
  unfold VR at p2
  exact ⟨i, p2, q _ et1 r2 H1 W1 x1 c1⟩
def cutP {α : Type} (xs : List α) (lo hi : Option Int) : List α := (xs.drop (HT.sIx xs.length 0 lo)).take (HT.sIx xs.length xs.length hi - HT.sIx xs.length 0 lo)
theorem VRs.cut {H : Hp} {W : Wd} {ps : List PV} {vs : List V} (h : VRs K mg W H ps vs) (lo hi : Option Int) : VRs K mg W H (cutP ps lo hi) (cutV vs lo hi) := by
  unfold cutP cutV
  rw [← h.len]
  exact VRs.take _ (VRs.drop _ h)
def gSl (p : PV) (lo hi : Option Int) : Option PV := match p with
  | .tup xs => some (.tup (cutP xs lo hi))
  | .str x => if x.length ≤ sizeLine then some (.str (cutS x lo hi)) else none
  | _ => none
def gSlL (p : PV) (lo hi : Option Int) : Option PV := match p with
  | .lst xs => some (.lst (cutP xs lo hi))
  | .scr xs => some (.lst ((cutP xs lo hi).map .int))
  | _ => none
def mSl (g : PV → Option Int → Option Int → Option PV) (m : EM PV) (l h : EM (Option Int)) : EM PV := fun ep et R => m ep et fun p et1 => l ep et1 fun lo et2 => h ep et2 fun hi et3 => ∃ z, g (deref et3 p) lo hi = some z ∧ R z et3
def OpSl (K : PySem.W.Frag) (mg : Str → Option Value) (R : V → Option Int → Option Int → Hp → VK → Prop) (g : PV → Option Int → Option Int → Option PV) (P : Post PV) : Prop :=
  ∀ (x : V) (lo hi : Option Int) (H : Hp) (et : Hi) (W : Wd) (p z : PV) (Q : VK), Cel K mg H et W → Pk K mg p x H et W → g (deref et p) lo hi = some z →
    (∀ v H' W', Ext NoO H et W H' et W' → Cel K mg H' et W' → P z v H et W H' et W' → Q v H') → R x lo hi H Q
theorem sl_weak {a : Expr} {lo hi : Option Expr} {p2 pos : Pos} {ma : EM PV} {ml mh : EM (Option Int)} {R : V → Option Int → Option Int → Hp → VK → Prop} {g : PV → Option Int → Option Int → Option PV} {P : Post PV} (he : Early P) (hr : SlR X R) (hg : OpSl X.K X.mg R g P) (ha : SimP X a ma) (hl : SimO X lo ml) (hh : SimO X hi mh) :
    PE X (.Subscript a (.Slice lo hi none p2) pos) (tI X.K X.mg P (mSl g ma ml mh)) := weakE (pe_slice hr ha hl hh) fun σ H Q ⟨ep, et, W, R0, c, s, e, q⟩ => by
  refine ⟨ep, et, W, _, c, s, e, fun p et1 r1 v H1 W1 x1 c1 p1 => ⟨ep, et1, W1, _, c1, s.ext c x1, r1, fun lo et2 r2 H2 W2 x2 c2 => ⟨ep, et2, W2, _, c2, s.ext c (x1.NoO_trans x2), r2, fun hi et3 r3 H3 W3 x3 c3 => ?_⟩⟩⟩
  obtain ⟨z, hz, r4⟩ := r3
  have x13 := (x1.NoO_trans x2).NoO_trans x3
  refine hg v lo hi H3 et3 W3 p z Q c3 (Pk.ext (x2.NoO_trans x3) c1 p1) hz fun w H4 W4 x4 c4 p4 => ?_
  exact q z et3 r4 w H4 W4 (x13.NoO_trans x4) c4 (he _ _ _ _ _ _ _ _ _ _ _ x13 p4)
def rSlX (K : PySem.W.Frag) : V → Option Int → Option Int → Hp → VK → Prop := fun x lo hi H Q => ∃ a xs, x = .ref a ∧ SqT K H a xs ∧
  (HT.sIx xs.length 0 lo = 0 ∧ HT.sIx xs.length xs.length hi = xs.length → Q (.ref a) H) ∧ (¬ (HT.sIx xs.length 0 lo = 0 ∧ HT.sIx xs.length xs.length hi = xs.length) → ∀ p o, H p = none → XTup o → Q (.ref p) (upd H p (.frz o (.tup (cutV xs lo hi)))))
theorem sl_tupX {X : Cx} : SlR X (rSlX X.K) := by
  intro pins s σ H x v vl vu lo hi sl Q I rx hs pl pu ⟨a, xs, ex, hx, q1, q2⟩
  by_cases hw : HT.sIx xs.length 0 lo = 0 ∧ HT.sIx xs.length xs.length hi = xs.length
  · exact sl_tupA pins s σ H x v vl vu lo hi sl Q I rx hs pl pu ⟨a, xs, ex, hx, q1, fun n => absurd hw n⟩
  · subst ex
    cases rx
    obtain ⟨its, r, ht, hz⟩ := I.tuple hx
    have hlen : its.toArray.size = xs.length := by rw [List.size_toArray]; exact r.length.symm
    refine ⟨"tuple", _, PyProof.Rows.slot_tuple_getitem.lookup, ht.typeIs, HT.getItem_tuple_cut ht hs pl pu (by rw [hlen]; exact hw) ?_ (by rw [hlen]; exact hz)⟩
    rw [hlen]
    obtain ⟨o, ho, hg⟩ := tup_push s.heap ((its.drop (HT.sIx xs.length 0 lo)).take (HT.sIx xs.length xs.length hi - HT.sIx xs.length 0 lo)).toArray
    refine ⟨.ref s.heap.objs.size, _, I.laid (t' := s.toks) (o := .frz o (.tup (cutV xs lo hi))) (fun b ob q => Heap.get?_push_of_some _ q) (Nat.le_refl _) ?_, rfl, q2 hw _ o (I.hok.fresh (Nat.le_refl _)) ho⟩
    exact ⟨hg, Nat.le_trans (cutV_length xs lo hi) hz, _, (r.drop (HT.sIx xs.length 0 lo)).take (HT.sIx xs.length xs.length hi - HT.sIx xs.length 0 lo), PyProof.Rows.IsTup.new _ _⟩
def rSlTS (K : PySem.W.Frag) : V → Option Int → Option Int → Hp → VK → Prop := fun x lo hi H Q => rSlX K x lo hi H Q ∨ rSlS x lo hi H Q
theorem cutP_whole {α : Type} {xs : List α} {lo hi : Option Int} (h : HT.sIx xs.length 0 lo = 0 ∧ HT.sIx xs.length xs.length hi = xs.length) : cutP xs lo hi = xs := by
  unfold cutP
  rw [h.1, h.2, List.drop_zero, Nat.sub_zero, List.take_length]
theorem oS_ts : OpSl K mg (rSlTS K) gSl (pV K mg) := by
  intro x lo hi H et W p z Q c hp hz k
  unfold gSl at hz
  split at hz
  · rename_i xs e
    cases hz
    obtain ⟨a, vs, rfl, h1, h2⟩ := hp.tup e
    refine .inl ⟨a, vs, rfl, h1, fun hw => ?_, fun _ t o ht ho => ?_⟩
    · rw [← h2.len] at hw
      refine k _ H W (Ext.refl ..) c ?_
      show VR K mg W H (.tup (cutP xs lo hi)) _
      rw [cutP_whole hw]
      unfold VR; exact ⟨a, vs, rfl, h1, h2⟩
    · obtain ⟨x1, c1, r1⟩ := new_tup c ht ho (h2.cut lo hi)
      exact k _ _ W x1 c1 r1
  · rename_i s e
    split at hz
    · rename_i hl; cases hz
      exact .inr ⟨s, hp.str e, hl, k _ H W (Ext.refl ..) c VR.str⟩
    · cases hz
  · cases hz
theorem VRs.ints {W : Wd} {H : Hp} : ∀ ns : List Int, VRs K mg W H (ns.map .int) (ns.map .int)
  | [] => VRs.nil
  | n :: ns => VRs.cons VR.int (VRs.ints ns)
theorem cutV_map (ns : List Int) (lo hi : Option Int) : cutV (ns.map V.int) lo hi = (cutP ns lo hi).map V.int := by
  unfold cutV cutP
  rw [List.length_map, List.map_take, List.map_drop]
def mTup (ms : EM (List PV)) : EM PV := fun ep et R => ms ep et fun ps et1 => ps.length ≤ sizeLine ∧ R (.tup ps) et1
def mLst (ms : EM (List PV)) : EM PV := fun ep et R => ms ep et fun ps et1 => ps.length ≤ sizeLine ∧ R (.lst ps) et1
def tTupX (t : TA) : TE := fun σ H Q => t σ H fun xs H1 => xs.length ≤ sizeLine ∧ ∀ p o, H1 p = none → XTup o → Q (.ref p) (upd H1 p (.frz o (.tup xs)))
theorem pe_tupX {X : Cx} {es : List Expr} {t : TA} {pos : Pos} {x1} (h : PA X es t) : PE X (.Tuple es x1 pos) (tTupX t) := by
  refine ⟨fun pins s σ H Q I hq => wpAny_Tuple_spliced (thn (h.run pos pins s σ H _ I hq) fun us s1 ⟨xs, H1, I1, r, z, q⟩ => ⟨by rw [← r.length]; exact z, ?_⟩)⟩
  have hf : H1 s1.heap.objs.size = none := I1.hok.fresh (Nat.le_refl _)
  obtain ⟨o, ho, hg⟩ := tup_push s1.heap us.toArray
  refine ⟨.ref s1.heap.objs.size, _, I1.laid (t' := s1.toks) (o := .frz o (.tup xs)) (fun b u e => Heap.get?_push_of_some _ e) (Nat.le_refl _) ?_, rfl, q _ o hf ho⟩
  exact ⟨hg, z, us, r, ⟨_, Heap.get?_push_size _ rfl, rfl, _, rfl⟩⟩
theorem sE_tup {es : List Expr} {ms : EM (List PV)} {x1 pos} (h : SimA X es ms) : SimE X (.Tuple es x1 pos) (mTup ms) := weakE (pe_tupX h) fun σ H Q ⟨ep, et, W, R, c, s, e, q⟩ => by
  refine ⟨ep, et, W, _, c, s, e, fun ps et1 r1 vs H1 W1 x1 c1 p1 => ⟨by rw [← p1.len]; exact r1.1, fun t o ht ho => ?_⟩⟩
  obtain ⟨x2, c2, r2⟩ := new_tup c1 ht ho p1
  exact q _ et1 r1.2 _ _ W1 (x1.NoO_trans x2) c2 r2
theorem sN_lst {es : List Expr} {ms : EM (List PV)} {pos} (h : SimA X es ms) : SimN X (.List es pos) (mLst ms) := weakE (pe_lst h) fun σ H Q ⟨ep, et, W, R, c, s, e, q⟩ => by
  refine ⟨ep, et, W, _, c, s, e, fun ps et1 r1 vs H1 W1 x1 c1 p1 => ⟨by rw [← p1.len]; exact r1.1, fun t ht => ?_⟩⟩
  obtain ⟨x2, c2, r2⟩ := new_own c1 ht p1
  exact q _ et1 r1.2 _ _ W1 (x1.NoO_trans x2) c2 (early_N _ _ _ _ _ _ _ _ _ _ _ x1 r2)
def keyP : PV → Option Key
  | .int i => some (.inl i)
  | .str x => some (.inr x)
  | _ => none
def valP (ks : List (Key × PV)) (k : Key) : Option PV := (ks.find? fun kv => decide (kv.1 = k)).map (·.2)
def putP (ks : List (Key × PV)) (k : Key) (p : PV) : List (Key × PV) :=
  if (ks.any fun kv => decide (kv.1 = k)) = true then ks.map (fun kv => if kv.1 = k then (kv.1, p) else kv) else ks ++ [(k, p)]
def mergeP (ks more : List (Key × PV)) : List (Key × PV) := more.foldl (fun acc kv => putP acc kv.1 kv.2) ks
theorem VR.key {W : Wd} {H : Hp} {p : PV} {v : V} {k : Key} (h : VR K mg W H p v) (e : keyP p = some k) : v = kV k := by
  cases p <;> first | (cases e; done) | (cases e; unfold VR at h; exact h)
theorem VRk.len {W : Wd} {H : Hp} : ∀ {ks : List (Key × PV)} {vs : List (Key × V)}, VRk K mg W H ks vs → ks.length = vs.length
  | [], vs, h => by unfold VRk at h; rw [h]; rfl
  | (k, p) :: r, vs, h => by
    unfold VRk at h
    obtain ⟨v, t, e, _, h2⟩ := h
    rw [e, List.length_cons, List.length_cons, VRk.len h2]
theorem VRk.val {W : Wd} {H : Hp} {k : Key} : ∀ {ks : List (Key × PV)} {vs : List (Key × V)}, VRk K mg W H ks vs → (∀ p, valP ks k = some p → ∃ v, valV vs k = some v ∧ VR K mg W H p v) ∧ (valP ks k = none → valV vs k = none)
  | [], vs, h => by
    unfold VRk at h; subst h
    exact ⟨fun p e => by simp [valP] at e, fun _ => rfl⟩
  | (k', p) :: r, vs, h => by
    unfold VRk at h
    obtain ⟨v, t, rfl, h1, h2⟩ := h
    obtain ⟨i1, i2⟩ := VRk.val (k := k) h2
    by_cases e : k' = k
    · refine ⟨fun q hq => ⟨v, valV_pos e, ?_⟩, fun hq => ?_⟩
      · have : valP ((k', p) :: r) k = some p := by simp [valP, List.find?_cons, e]
        rw [this] at hq; cases hq; exact h1
      · have : valP ((k', p) :: r) k = some p := by simp [valP, List.find?_cons, e]
        rw [this] at hq; cases hq
    · have e1 : valP ((k', p) :: r) k = valP r k := by simp [valP, List.find?_cons, e]
      have e2 : valV ((k', v) :: t) k = valV t k := valV_neg e
      rw [e1, e2]
      exact ⟨i1, i2⟩
theorem VRk.app {W : Wd} {H : Hp} {k : Key} {p : PV} {v : V} (hv : VR K mg W H p v) : ∀ {ks : List (Key × PV)} {vs : List (Key × V)}, VRk K mg W H ks vs → VRk K mg W H (ks ++ [(k, p)]) (vs ++ [(k, v)])
  | [], vs, h => by unfold VRk at h; subst h; show VRk K mg W H [(k, p)] [(k, v)]; unfold VRk; exact ⟨v, [], rfl, hv, by unfold VRk; rfl⟩
  | (k', q) :: r, vs, h => by
    unfold VRk at h
    obtain ⟨u, t, rfl, h1, h2⟩ := h
    show VRk K mg W H ((k', q) :: (r ++ [(k, p)])) _
    unfold VRk
    exact ⟨u, t ++ [(k, v)], rfl, h1, VRk.app hv h2⟩
theorem VRk.any {W : Wd} {H : Hp} {k : Key} : ∀ {ks : List (Key × PV)} {vs : List (Key × V)}, VRk K mg W H ks vs → (ks.any fun kv => decide (kv.1 = k)) = vs.any fun kv => decide (kv.1 = k)
  | [], vs, h => by unfold VRk at h; subst h; rfl
  | (k', q) :: r, vs, h => by
    unfold VRk at h
    obtain ⟨u, t, rfl, h1, h2⟩ := h
    rw [List.any_cons, List.any_cons, VRk.any h2]
theorem VRk.over {W : Wd} {H : Hp} {k : Key} {p : PV} {v : V} (hv : VR K mg W H p v) : ∀ {ks : List (Key × PV)} {vs : List (Key × V)}, VRk K mg W H ks vs →
    VRk K mg W H (ks.map fun kv => if kv.1 = k then (kv.1, p) else kv) (vs.map fun kv => if kv.1 = k then (kv.1, v) else kv)
  | [], vs, h => by unfold VRk at h; subst h; show VRk K mg W H [] []; unfold VRk; rfl
  | (k', q) :: r, vs, h => by
    unfold VRk at h
    obtain ⟨u, t, rfl, h1, h2⟩ := h
    have ih := VRk.over (k := k) hv h2
    rw [List.map_cons, List.map_cons]
    by_cases e : k' = k
    · simp only [e, if_true]; unfold VRk; exact ⟨v, _, rfl, hv, ih⟩
    · simp only [e, if_false]; unfold VRk; exact ⟨u, _, rfl, h1, ih⟩
theorem VRk.put {W : Wd} {H : Hp} {k : Key} {p : PV} {v : V} (hv : VR K mg W H p v) {ks : List (Key × PV)} {vs : List (Key × V)} (h : VRk K mg W H ks vs) : VRk K mg W H (putP ks k p) (putK vs k v) := by
  unfold putP putK
  rw [h.any]
  split
  · exact VRk.over hv h
  · exact VRk.app hv h
section
variable {a b : Expr} {pos : Pos} {ma mb : EM PV}
end
end
end Mw
namespace Mw
open PySem PySem.Spec L2
section
variable {K : PySem.W.Frag} {mg : Str → Option Value} {H H1 : Hp} {et et1 : Hi} {W W1 : Wd} {sg : L2.St} {ep : En}
theorem getset {α : Type} {l : List α} {i j : Nat} {a b : α} (h : (l.set i a)[j]? = some b) : (j = i ∧ b = a ∧ i < l.length) ∨ (j ≠ i ∧ l[j]? = some b) := by
  by_cases e : j = i
  · subst e
    have hl : j < l.length := by
      have := (List.getElem?_eq_some_iff.mp h).1
      rwa [List.length_set] at this
    rw [List.getElem?_set_self hl] at h
    cases h
    exact .inl ⟨rfl, rfl, hl⟩
  · rw [List.getElem?_set_ne (Ne.symm e)] at h
    exact .inr ⟨e, h⟩
theorem own_set_sub {i : Nat} {p : PV} {v : V} {a : Addr} (h : Own (ep.set i (.val p)) (sg.set i (some v)) a) : Own ep sg a := by
  obtain ⟨j, q, h1, h2⟩ := h
  rcases getset h1 with ⟨_, e, _⟩ | ⟨hj, h1⟩
  · cases e
  · rcases getset h2 with ⟨e, _⟩ | ⟨_, h2⟩
    · exact absurd e hj
    · exact ⟨j, q, h1, h2⟩
theorem Slt.set_val (s : Slt K mg sg ep H et W) {i : Nat} {p : PV} {v : V} (hv : VR K mg W H p v) : Slt K mg (sg.set i (some v)) (ep.set i (.val p)) H et W where
  len := by rw [List.length_set, List.length_set, s.len]
  ok := fun j t o h1 h2 => by
    rcases getset h1 with ⟨rfl, rfl, _⟩ | ⟨hj, h1⟩
    · rcases getset h2 with ⟨_, rfl, _⟩ | ⟨e, _⟩
      · exact ⟨v, rfl, hv⟩
      · exact absurd rfl e
    · rcases getset h2 with ⟨e, _⟩ | ⟨_, h2⟩
      · exact absurd e hj
      · exact s.ok j t o h1 h2
  inj := fun a b p q x h1 h2 h3 h4 => by
    rcases getset h1 with ⟨_, e, _⟩ | ⟨ha, h1⟩
    · cases e
    · rcases getset h2 with ⟨_, e, _⟩ | ⟨hb, h2⟩
      · cases e
      · rcases getset h3 with ⟨e, _⟩ | ⟨_, h3⟩
        · exact absurd e ha
        · rcases getset h4 with ⟨e, _⟩ | ⟨_, h4⟩
          · exact absurd e hb
          · exact s.inj a b p q x h1 h2 h3 h4
  ofz := fun a h => s.ofz a (own_set_sub h)
  oli := fun a h => s.oli a (own_set_sub h)
theorem own_set_own {i : Nat} {p : PV} {b a : Addr} (h : Own (ep.set i (.own p)) (sg.set i (some (.ref b))) a) : Own ep sg a ∨ a = b := by
  obtain ⟨j, q, h1, h2⟩ := h
  rcases getset h1 with ⟨e, _, _⟩ | ⟨hj, h1⟩
  · subst e
    rcases getset h2 with ⟨_, e, _⟩ | ⟨e, _⟩
    · cases e; exact .inr rfl
    · exact absurd rfl e
  · rcases getset h2 with ⟨e, _⟩ | ⟨_, h2⟩
    · exact absurd e hj
    · exact .inl ⟨j, q, h1, h2⟩
theorem Slt.set_own (s : Slt K mg sg ep H et W) {i : Nat} {p : PV} {b : Addr} (hn : ¬ Own ep sg b) (hf : ¬ W.fz b) (hl : ¬ Live et W b) (ho : OwnAt K mg W H p b) : Slt K mg (sg.set i (some (.ref b))) (ep.set i (.own p)) H et W where
  len := by rw [List.length_set, List.length_set, s.len]
  ok := fun j t o h1 h2 => by
    rcases getset h1 with ⟨rfl, rfl, _⟩ | ⟨hj, h1⟩
    · rcases getset h2 with ⟨_, rfl, _⟩ | ⟨e, _⟩
      · exact ⟨b, rfl, ho⟩
      · exact absurd rfl e
    · rcases getset h2 with ⟨e, _⟩ | ⟨_, h2⟩
      · exact absurd e hj
      · exact s.ok j t o h1 h2
  inj := fun a c p' q x h1 h2 h3 h4 => by
    rcases getset h1 with ⟨ea, _, _⟩ | ⟨ha, g1⟩
    · rcases getset h3 with ⟨_, e, _⟩ | ⟨e, _⟩
      · rcases getset h2 with ⟨ec, _, _⟩ | ⟨hc, g2⟩
        · exact ea.trans ec.symm
        · rcases getset h4 with ⟨e, _⟩ | ⟨_, g4⟩
          · exact absurd e hc
          · cases e; exact absurd ⟨c, q, g2, g4⟩ hn
      · exact absurd ea e
    · rcases getset h3 with ⟨e, _⟩ | ⟨_, g3⟩
      · exact absurd e ha
      · rcases getset h2 with ⟨ec, _, _⟩ | ⟨hc, g2⟩
        · rcases getset h4 with ⟨_, e, _⟩ | ⟨e, _⟩
          · cases e; exact absurd ⟨a, p', g1, g3⟩ hn
          · exact absurd ec e
        · rcases getset h4 with ⟨e, _⟩ | ⟨_, g4⟩
          · exact absurd e hc
          · exact s.inj a c p' q x g1 g2 g3 g4
  ofz := fun a h => by
    rcases own_set_own h with h | rfl
    · exact s.ofz a h
    · exact hf
  oli := fun a h => by
    rcases own_set_own h with h | rfl
    · exact s.oli a h
    · exact hl
theorem Slt.set_no (s : Slt K mg sg ep H et W) {i : Nat} {o : Option V} : Slt K mg (sg.set i o) (ep.set i .no) H et W := by
  have sub : ∀ {a}, Own (ep.set i .no) (sg.set i o) a → Own ep sg a := fun {a} h => by
    obtain ⟨j, q, h1, h2⟩ := h
    rcases getset h1 with ⟨_, e, _⟩ | ⟨hj, h1⟩
    · cases e
    · rcases getset h2 with ⟨e, _⟩ | ⟨_, h2⟩
      · exact absurd e hj
      · exact ⟨j, q, h1, h2⟩
  refine ⟨by rw [List.length_set, List.length_set, s.len], fun j t o' h1 h2 => ?_, fun a b p q x h1 h2 h3 h4 => ?_, fun a h => s.ofz a (sub h), fun a h => s.oli a (sub h)⟩
  · rcases getset h1 with ⟨rfl, rfl, _⟩ | ⟨hj, h1⟩
    · trivial
    · rcases getset h2 with ⟨e, _⟩ | ⟨_, h2⟩
      · exact absurd e hj
      · exact s.ok j t o' h1 h2
  · rcases getset h1 with ⟨_, e, _⟩ | ⟨ha, h1⟩
    · cases e
    · rcases getset h2 with ⟨_, e, _⟩ | ⟨hb, h2⟩
      · cases e
      · rcases getset h3 with ⟨e, _⟩ | ⟨_, h3⟩
        · exact absurd e ha
        · rcases getset h4 with ⟨e, _⟩ | ⟨_, h4⟩
          · exact absurd e hb
          · exact s.inj a b p q x h1 h2 h3 h4
def frzS (ep : En) (i : Nat) : En := match ep[i]? with
  | some (.own p) => ep.set i (.val p)
  | _ => ep
theorem Slt.frz (s : Slt K mg sg ep H et W) (c : Cel K mg H et W) (i : Nat) : ∃ W', Ext (Own ep sg) H et W H et W' ∧ Cel K mg H et W' ∧ Slt K mg sg (frzS ep i) H et W' ∧ ∀ a, Own (frzS ep i) sg a → Own ep sg a := by
  unfold frzS
  split
  · rename_i p hp
    have hl : i < sg.length := by rw [← s.len]; exact (List.getElem?_eq_some_iff.mp hp).1
    obtain ⟨a, ev, hv⟩ := s.ok i _ _ hp (List.getElem?_eq_getElem hl)
    have hσ : sg[i]? = some (some (.ref a)) := by rw [List.getElem?_eq_getElem hl, ev]
    have ow : Own ep sg a := ⟨i, p, hp, hσ⟩
    obtain ⟨c2, st, vr⟩ := c.freeze (s.oli a ow) (s.ofz a ow) hv
    have sub : ∀ {b}, Own (ep.set i (.val p)) sg b → Own ep sg b ∧ b ≠ a := fun {b} h => by
      obtain ⟨j, q, h1, h2⟩ := h
      rcases getset h1 with ⟨_, e, _⟩ | ⟨hj, h1⟩
      · cases e
      · refine ⟨⟨j, q, h1, h2⟩, fun e => ?_⟩
        subst e
        exact hj (s.inj j i q p b h1 hp h2 hσ)
    refine ⟨W.add a, ⟨fun b h => .inl h, fun b h => h.imp_right fun e => .inr (by rw [e]; exact ow), ⟨[], by simp⟩, fun b h => .inl h, fun b o h _ _ => h, fun b h => h⟩, c2, ⟨by rw [List.length_set]; exact s.len, fun j t o h1 h2 => ?_, fun x y q r z h1 h2 h3 h4 => ?_, fun b h z => ?_, fun b h => s.oli b (sub h).1⟩, fun b h => (sub h).1⟩
    · rcases getset h1 with ⟨rfl, rfl, _⟩ | ⟨hj, h1⟩
      · rw [hσ] at h2; cases h2; exact ⟨_, rfl, vr⟩
      · have k := s.ok j t o h1 h2
        cases t with
        | no => trivial
        | val q => obtain ⟨v, e, h⟩ := k; exact ⟨v, e, st q v h⟩
        | own q =>
          obtain ⟨b, e, h⟩ := k
          refine ⟨b, e, ?_⟩
          have x : Ext (fun b => b = a) H et W H et (W.add a) := ⟨fun _ h => .inl h, fun b h => h.imp_right fun h => .inr h, ⟨[], by simp⟩, fun _ h => .inl h, fun _ _ h _ _ => h, fun _ h => h⟩
          have sy : Stays (fun b => b = a) H et W := ⟨fun b h => ⟨c.fzl b h, fun e => s.ofz a ow (e ▸ h)⟩, fun b xs h => ⟨(c.stays0.tup b xs h).1, fun e => by
            rcases hv.kind with ⟨_, k⟩ | ⟨_, k⟩ <;> (rw [← e, h] at k; cases k)⟩, fun b o u h => ⟨(c.stays0.frz b o u h).1, fun e => by
            rcases hv.kind with ⟨_, k⟩ | ⟨_, k⟩ <;> (rw [← e, h] at k; cases k)⟩, fun b fs h => ⟨(c.stays0.xd b fs h).1, fun e => by
            rcases hv.kind with ⟨_, k⟩ | ⟨_, k⟩ <;> (rw [← e, h] at k; cases k)⟩⟩
          unfold OwnAt at h ⊢
          split at h
          · obtain ⟨vs, h1, h2⟩ := h; exact ⟨vs, h1, VRs.ext x sy _ _ h2⟩
          · obtain ⟨vs, h1, h2⟩ := h; exact ⟨vs, h1, VRk.ext x sy _ _ h2⟩
          · cases h
    · rcases getset h1 with ⟨_, e, _⟩ | ⟨_, h1⟩
      · cases e
      · rcases getset h2 with ⟨_, e, _⟩ | ⟨_, h2⟩
        · cases e
        · exact s.inj x y q r z h1 h2 h3 h4
    · obtain ⟨o1, o2⟩ := sub h
      rcases z with z | z
      · exact s.ofz b o1 z
      · exact o2 z
  · exact ⟨W, Ext.refl .., c, s, fun a h => h⟩
theorem own_write (c : Cel K mg H et W) (s : Slt K mg sg ep H et W) {i : Nat} {p p' : PV} {a : Addr} {o : HO} (hi : ep[i]? = some (.own p)) (hσ : sg[i]? = some (some (.ref a))) (ho : Cont K mg W H p' o) :
    Ext (Own ep sg) H et W (upd H a o) et W ∧ Cel K mg (upd H a o) et W ∧ Slt K mg sg (ep.set i (.own p')) (upd H a o) et W ∧ (∀ b, Own (ep.set i (.own p')) sg b → Own ep sg b) ∧ (∀ q v, VR K mg W H q v → VR K mg W (upd H a o) q v) := by
  have ow : Own ep sg a := ⟨i, p, hi, hσ⟩
  have x : Ext (Own ep sg) H et W (upd H a o) et W := ⟨fun _ h => h, fun _ h => .inl h, ⟨[], by simp⟩, fun _ h => .inl h, fun b u h _ hO => by
    have ne : b ≠ a := fun e => hO (by rw [e]; exact ow)
    rw [upd_ne ne]; exact h, fun b h => by
      by_cases e : b = a
      · rw [e, upd_same]; simp
      · rw [upd_ne e]; exact h⟩
  have sy : Stays (Own ep sg) H et W := Slt.stays c s
  have hat : OwnAt K mg W (upd H a o) p' a := by
    unfold Cont at ho
    split at ho
    · exact ⟨_, upd_same, VRs.ext x sy _ _ ho⟩
    · exact ⟨_, upd_same, VRk.ext x sy _ _ ho⟩
    · cases ho
  have sub : ∀ b, Own (ep.set i (.own p')) sg b → Own ep sg b := fun b ⟨j, q, h1, h2⟩ => by
    rcases getset h1 with ⟨e, _, _⟩ | ⟨_, h1⟩
    · subst e; rw [hσ] at h2; cases h2; exact ow
    · exact ⟨j, q, h1, h2⟩
  refine ⟨x, ⟨c.len, fun j d b h1 h2 => ?_, c.inj, c.fzl, fun b h => x.there b (c.fzh b h)⟩, ⟨by rw [List.length_set]; exact s.len, fun j t u h1 h2 => ?_, fun j l q r b h1 h2 h3 h4 => ?_, fun b h => s.ofz b (sub b h), fun b h => s.oli b (sub b h)⟩, sub, fun q v h => VR.ext x sy q v h⟩
  · have k := c.ok j d b h1 h2
    have keep : d ≠ .dead → upd H a o b = H b := fun hd => upd_ne fun e => s.oli a ow ⟨j, d, h1, hd, e ▸ h2⟩
    cases d with
    | dead => trivial
    | lst xs => obtain ⟨vs, k1, k2⟩ := k; exact ⟨vs, by rw [keep (by simp)]; exact k1, VRs.ext x sy _ _ k2⟩
    | dic xs => obtain ⟨vs, k1, k2⟩ := k; exact ⟨vs, by rw [keep (by simp)]; exact k1, VRk.ext x sy _ _ k2⟩
    | potO t n => obtain ⟨b', sd, ct, k0, k1, k2⟩ := k; exact ⟨b', sd, ct, k0, by rw [keep (by simp)]; exact k1, k2⟩
    | potI => obtain ⟨is, k1, k2⟩ := k; exact ⟨is, by rw [keep (by simp)]; exact k1, k2⟩
    | inv P => obtain ⟨is, k1, k2⟩ := k; exact ⟨is, by rw [keep (by simp)]; exact k1, k2⟩
    | exc c fs => obtain ⟨C, d', k0, k1, k2⟩ := k; exact ⟨C, d', k0, by rw [keep (by simp)]; exact k1, k2.imp_right fun ⟨dd, e, q⟩ => ⟨dd, e, x.keep dd _ q (sy.xd dd _ q).1 (sy.xd dd _ q).2⟩⟩
    | nd kvs => rcases k with ⟨k0, k1⟩ | ⟨es, k1, k2⟩; exact .inl ⟨k0, by rw [keep (by simp)]; exact k1⟩; exact .inr ⟨es, by rw [keep (by simp)]; exact k1, VRn.ext x sy _ _ k2⟩
    | ins t fs => obtain ⟨C, dx, gs, k0, k1, k2⟩ := k; exact ⟨C, dx, gs, k0, by rw [keep (by simp)]; exact k1, VRf.ext x sy _ _ k2⟩
  · rcases getset h1 with ⟨rfl, rfl, _⟩ | ⟨hj, h1⟩
    · rw [hσ] at h2; cases h2; exact ⟨a, rfl, hat⟩
    · have k := s.ok j t u h1 h2
      cases t with
      | no => trivial
      | val q => obtain ⟨v, e, h⟩ := k; exact ⟨v, e, VR.ext x sy q v h⟩
      | own q =>
        obtain ⟨b, e, h⟩ := k
        subst e
        have ne : b ≠ a := fun e => hj (s.inj j i q p a h1 hi (e ▸ h2) hσ)
        refine ⟨b, rfl, ?_⟩
        unfold OwnAt at h ⊢
        split at h
        · obtain ⟨vs, k1, k2⟩ := h; exact ⟨vs, by rw [upd_ne ne]; exact k1, VRs.ext x sy _ _ k2⟩
        · obtain ⟨vs, k1, k2⟩ := h; exact ⟨vs, by rw [upd_ne ne]; exact k1, VRk.ext x sy _ _ k2⟩
        · cases h
  · rcases getset h1 with ⟨ej, eq, _⟩ | ⟨hj, g1⟩
    · have h3' : sg[i]? = some (some (.ref b)) := by rw [← ej]; exact h3
      rcases getset h2 with ⟨el, _, _⟩ | ⟨hl, g2⟩
      · exact ej.trans el.symm
      · exact ej.trans (s.inj i l p r b hi g2 h3' h4)
    · rcases getset h2 with ⟨el, _, _⟩ | ⟨hl, g2⟩
      · have h4' : sg[i]? = some (some (.ref b)) := by rw [← el]; exact h4
        exact (s.inj j i q p b g1 hi h3 h4').trans el.symm
      · exact s.inj j l q r b g1 g2 h3 h4
def cellP : PV → Option Cell
  | .lst xs => some (.lst xs)
  | .dic ks => some (.dic ks)
  | _ => none
theorem cell_write (c : Cel K mg H et W) {n : Nat} {d d' : Cell} {a : Addr} {o : HO} (hn : et[n]? = some d) (hd : d ≠ .dead) (hd' : d' ≠ .dead) (hm : W.mu[n]? = some a)
    (ho : ∀ H1 et1, Ext NoO H et W H1 et1 W → H1 a = some o → CellOk K mg W H1 d' a) :
    Ext NoO H et W (upd H a o) (et.set n d') W ∧ Cel K mg (upd H a o) (et.set n d') W ∧ (∀ q v, VR K mg W H q v → VR K mg W (upd H a o) q v) := by
  have lv : Live et W a := ⟨n, d, hn, hd, hm⟩
  have hl : ∀ b, Live (et.set n d') W b → Live et W b := fun b ⟨j, u, h1, h2, h3⟩ => by
    rcases getset h1 with ⟨e, _, _⟩ | ⟨_, h1⟩
    · subst e; exact ⟨j, d, hn, hd, h3⟩
    · exact ⟨j, u, h1, h2, h3⟩
  have x : Ext NoO H et W (upd H a o) (et.set n d') W := ⟨fun _ h => h, fun _ h => .inl h, ⟨[], by simp⟩, fun b h => .inl (hl b h), fun b u h hb _ => by
    have ne : b ≠ a := fun e => hb (by rw [e]; exact lv)
    rw [upd_ne ne]; exact h, fun b h => by
      by_cases e : b = a
      · rw [e, upd_same]; simp
      · rw [upd_ne e]; exact h⟩
  refine ⟨x, ⟨by rw [List.length_set]; exact c.len, fun j u b h1 h2 => ?_, fun i j u w b h1 h2 h3 h4 h5 h6 => ?_, fun b h z => c.fzl b h (hl b z), fun b h => x.there b (c.fzh b h)⟩, fun q v h => VR.ext x c.stays0 q v h⟩
  · rcases getset h1 with ⟨rfl, rfl, _⟩ | ⟨hj, h1⟩
    · rw [hm] at h2; cases h2; exact ho _ _ x upd_same
    · refine CellOk.ext x c.stays0 (c.ok j u b h1 h2) fun hu => upd_ne fun e => ?_
      subst e
      exact hj (c.inj j n u d b h1 hn hu hd h2 hm)
  · have g : ∀ {k : Nat} {u : Cell}, (et.set n d')[k]? = some u → u ≠ .dead → ∃ u', et[k]? = some u' ∧ u' ≠ .dead := fun {k u} h hu => by
      rcases getset h with ⟨e, _, _⟩ | ⟨_, h⟩
      · exact ⟨d, e ▸ hn, hd⟩
      · exact ⟨u, h, hu⟩
    obtain ⟨u1, g1, g2⟩ := g h1 h3
    obtain ⟨u2, g3, g4⟩ := g h2 h4
    exact c.inj i j u1 u2 b g1 g3 g2 g4 h5 h6
end
end Mw
namespace Mw
open PySem PySem.Spec L2
section
variable {X : Cx} {st : Stmt} {rest : List Stmt} {m n : SM} {e : Expr} {me : EM PV} {pos : Pos}
theorem Ext.to {O : Addr → Prop} {H H1 : Hp} {et et1 : Hi} {W W1 : Wd} (x : Ext NoO H et W H1 et1 W1) : Ext O H et W H1 et1 W1 := x.mono fun _ h => h.elim
theorem Ext.pre {O : Addr → Prop} {H H1 H2 : Hp} {et et1 et2 : Hi} {W W1 W2 : Wd} (x : Ext NoO H et W H1 et1 W1) (y : Ext O H1 et1 W1 H2 et2 W2) : Ext O H et W H2 et2 W2 := (Ext.to x).trans y fun _ h => .inl h
theorem Ext.back {O : Addr → Prop} {H H1 : Hp} {et et1 : Hi} {W W1 : Wd} (x : Ext O H et W H1 et1 W1) {a : Addr} (h : H1 a = none) : H a = none := by
  cases q : H a with
  | none => rfl
  | some o => exact absurd h (x.there a (by rw [q]; simp))
def mNext : SM := fun ep et R => R .nx ep et
def mSeq (m n : SM) : SM := fun ep et R => m ep et fun f ep1 et1 => match f with
  | .nx => n ep1 et1 R
  | f => R f ep1 et1
theorem FlEnd.pre {K : PySem.W.Frag} {mg : Str → Option Value} {D : Ends} {ep ep0 : En} {sg sg0 : L2.St} {H H0 : Hp} {f : Fl} {ep' : En} {sg' : L2.St} {H' : Hp} {et' : Hi} {W' : Wd} (h : FlEnd K mg D ep0 sg0 H0 f ep' sg' H' et' W')
    (g : ∀ a, Own ep sg a ∨ H a = none → Own ep0 sg0 a ∨ H0 a = none) : FlEnd K mg D ep sg H f ep' sg' H' et' W' := by
  cases f with
  | nx => exact fun s o => h s fun a z => g a (o a z)
  | bk => exact fun s o => h s fun a z => g a (o a z)
  | ct => exact fun s o => h s fun a z => g a (o a z)
  | rt p => exact h
theorem ss_nil : SimSs X [] mNext := weakSs pss_nil fun D σ H ⟨ep, et, W, R, c, s, e, q⟩ => q .nx ep et e σ H W (Ext.refl ..) c s fun a h => .inl h
theorem ss_one (h : SimS X st m) : SimSs X [st] m := pss_one h
theorem ss_cons (h : SimS X st m) (g : SimSs X rest n) : SimSs X (st :: rest) (mSeq m n) := weakSs (pss_cons h g) fun D σ H ⟨ep, et, W, R, c, s, e, q⟩ => by
  refine ⟨ep, et, W, _, c, s, e, fun f ep1 et1 r1 σ1 H1 W1 x1 c1 => ?_⟩
  cases f with
  | nx =>
    intro s1 o1
    refine ⟨ep1, et1, W1, R, c1, s1, r1, fun f2 ep2 et2 r2 σ2 H2 W2 x2 c2 => ?_⟩
    have k := q f2 ep2 et2 r2 σ2 H2 W2 (x1.trans x2 o1) c2
    exact k.pre fun a h => h.elim (o1 a) fun z => .inr (x1.back z)
  | bk => exact q .bk ep1 et1 r1 σ1 H1 W1 x1 c1
  | ct => exact q .ct ep1 et1 r1 σ1 H1 W1 x1 c1
  | rt p => exact q (.rt p) ep1 et1 r1 σ1 H1 W1 x1 c1
def mNever : SM := fun _ _ _ => False
theorem s_never : SimS X st mNever := weakS ps_never fun D σ H ⟨ep, et, W, R, c, s, e, q⟩ => e
def mExpr (me : EM PV) : SM := fun ep et R => me ep et fun _ et1 => R .nx ep et1
def mRet (me : EM PV) : SM := fun ep et R => me ep et fun p et1 => R (.rt p) ep et1
theorem s_ret (h : SimE X e me) : SimS X (.Return (some e) pos) (mRet me) := weakS (ps_ret h) fun D σ H ⟨ep, et, W, R, c, s, e, q⟩ =>
  ⟨ep, et, W, _, c, s, e, fun p et1 r1 v H1 W1 x1 c1 p1 => q (.rt p) ep et1 r1 σ H1 W1 (Ext.to x1) c1 v p1⟩
def mIf (t : EM Bool) (m n : SM) : SM := fun ep et R => t ep et fun b et1 => if b = true then m ep et1 R else n ep et1 R
theorem s_if {a b : List Stmt} {t : EM Bool} (h : SimT X e t) (ha : SimSs X a m) (hb : SimSs X b n) : SimS X (.If e a b pos) (mIf t m n) := weakS (ps_if h ha hb) fun D σ H ⟨ep, et, W, R, c, s, e, q⟩ => by
  refine ⟨ep, et, W, _, c, s, e, fun b et1 r1 H1 W1 x1 c1 => ?_⟩
  have fin : ∀ {m : SM}, m ep et1 R → tS X.K X.mg m D σ H1 := fun {m} r => ⟨ep, et1, W1, R, c1, s.ext c x1, r, fun f ep2 et2 r2 σ2 H2 W2 x2 c2 => by
    have k := q f ep2 et2 r2 σ2 H2 W2 (x1.pre x2) c2
    exact k.pre fun a h => h.imp_right fun z => x1.back z⟩
  cases b with
  | true => exact fin (by simpa using r1)
  | false => exact fin (by simpa using r1)
def mFrz (is : List Nat) (m : SM) : SM := fun ep et R => m (is.foldl frzS ep) et R
def mSet (i : Nat) (me : EM PV) : SM := fun ep et R => me ep et fun p et1 => R .nx (ep.set i (.val p)) et1
def mSetN (i : Nat) (me : EM PV) : SM := fun ep et R => me ep et fun p et1 => R .nx (ep.set i (.own p)) et1
def GOk (K : PySem.W.Frag) (mg : Str → Option Value) (is : List Nat) (g : TG) (tg : PV → En → Option En) : Prop :=
  ∀ (v : V) (p : PV) (σ : L2.St) (H : Hp) (ep ep' : En) (et : Hi) (W : Wd) (Q : L2.St → Hp → Prop), Cel K mg H et W → Slt K mg σ ep H et W → VR K mg W H p v → tg p ep = some ep' →
    (∀ σ', Slt K mg σ' ep' H et W → (∀ a, Own ep' σ' a → Own ep σ a) → (σ'.length = σ.length ∧ ∀ j, j ∉ is → σ'[j]? = σ[j]?) → Q σ' H) → g v σ H Q
def tgN (i : Nat) (p : PV) (ep : En) : Option En := some (ep.set i (.val p))
def tgNs : List (PV → En → Option En) → List PV → En → Option En
  | [], [], ep => some ep
  | t :: ts, p :: ps, ep => (t p ep).bind fun ep1 => tgNs ts ps ep1
  | _, _, _ => none
def tgT (ts : List (PV → En → Option En)) (p : PV) (ep : En) : Option En := match p with
  | .tup ps => tgNs ts ps ep
  | _ => none
def GsOk (K : PySem.W.Frag) (mg : Str → Option Value) (is : List Nat) (g : TGs) (ts : List (PV → En → Option En)) : Prop :=
  ∀ (vs : List V) (ps : List PV) (σ : L2.St) (H : Hp) (ep ep' : En) (et : Hi) (W : Wd) (Q : L2.St → Hp → Prop), Cel K mg H et W → Slt K mg σ ep H et W → VRs K mg W H ps vs → tgNs ts ps ep = some ep' →
    (∀ σ', Slt K mg σ' ep' H et W → (∀ a, Own ep' σ' a → Own ep σ a) → (σ'.length = σ.length ∧ ∀ j, j ∉ is → σ'[j]? = σ[j]?) → Q σ' H) → g vs σ H Q
theorem g_name {K : PySem.W.Frag} {mg : Str → Option Value} (i : Nat) : GOk K mg [i] (gName i) (tgN i) := fun v p σ H ep ep' et W Q c s hv e q => by
  cases e
  exact q _ (s.set_val hv) (fun a h => own_set_sub h) ⟨List.length_set, fun j hj => List.getElem?_set_ne (fun e => hj (by rw [e]; exact List.mem_singleton.mpr rfl))⟩
theorem g_nil {K : PySem.W.Frag} {mg : Str → Option Value} : GsOk K mg [] gNil [] := fun vs ps σ H ep ep' et W Q c s hv e q => by
  cases ps with
  | nil => cases e; unfold VRs at hv; exact ⟨hv, q σ s (fun a h => h) ⟨rfl, fun j hj => rfl⟩⟩
  | cons p ps => cases e
theorem g_cons {K : PySem.W.Frag} {mg : Str → Option Value} {t : TG} {u : TGs} {tg : PV → En → Option En} {ts : List (PV → En → Option En)} {is js : List Nat} (h : GOk K mg is t tg) (hs : GsOk K mg js u ts) : GsOk K mg (is ++ js) (gCons t u) (tg :: ts) := fun vs ps σ H ep ep' et W Q c s hv e q => by
  cases ps with
  | nil => cases e
  | cons p ps =>
    unfold VRs at hv
    obtain ⟨v, r, rfl, h1, h2⟩ := hv
    unfold tgNs at e
    cases e1 : tg p ep with
    | none => rw [e1] at e; cases e
    | some ep1 =>
      rw [e1] at e
      exact ⟨v, r, rfl, h v p σ H ep ep1 et W _ c s h1 e1 fun σ1 s1 o1 k1 => hs r ps σ1 H ep1 ep' et W Q c s1 h2 e fun σ2 s2 o2 k2 => q σ2 s2 (fun a h => o1 a (o2 a h)) ⟨k2.1.trans k1.1, fun j hj => (k2.2 j fun z => hj (List.mem_append_right _ z)).trans (k1.2 j fun z => hj (List.mem_append_left _ z))⟩⟩
theorem tgNs_len : ∀ {ts : List (PV → En → Option En)} {ps : List PV} {ep ep' : En}, tgNs ts ps ep = some ep' → ps.length = ts.length
  | [], [], _, _, _ => rfl
  | t :: ts, p :: ps, ep, ep', h => by
    unfold tgNs at h
    cases e : t p ep with
    | none => rw [e] at h; cases h
    | some ep1 => rw [e] at h; rw [List.length_cons, List.length_cons, tgNs_len h]
  | [], _ :: _, _, _, h => by cases h
  | _ :: _, [], _, _, h => by cases h
theorem g_tup {K : PySem.W.Frag} {mg : Str → Option Value} {u : TGs} {ts : List (PV → En → Option En)} {k : Nat} {is : List Nat} (hk : ts.length = k) (hs : GsOk K mg is u ts) : GOk K mg is (gTup K k u) (tgT ts) := fun v p σ H ep ep' et W Q c s hv e q => by
  unfold tgT at e
  split at e
  · rename_i ps
    unfold VR at hv
    obtain ⟨a, vs, rfl, h1, h2⟩ := hv
    exact ⟨a, vs, rfl, h1, by rw [← h2.len, tgNs_len e, hk], hs vs ps σ H ep ep' et W Q c s h2 e q⟩
  · cases e
def mAsg (tg : PV → En → Option En) (me : EM PV) : SM := fun ep et R => me ep et fun p et1 => ∃ ep', tg p ep = some ep' ∧ R .nx ep' et1
theorem asg_weak {g : TG} {is : List Nat} {tg : PV → En → Option En} (hg : GOk X.K X.mg is g tg) : ∀ D σ H, tS X.K X.mg (mAsg tg me) D σ H → tAsg (tI X.K X.mg (pV X.K X.mg) me) g D σ H := fun D σ H ⟨ep, et, W, R, c, s, e, q⟩ => by
  refine ⟨ep, et, W, _, c, s, e, fun p et1 r1 v H1 W1 x1 c1 p1 => ?_⟩
  obtain ⟨ep', h1, r2⟩ := r1
  exact hg v p σ H1 ep ep' et1 W1 _ c1 (s.ext c x1) p1 h1 fun σ' s' o' _ => q .nx ep' et1 r2 σ' H1 W1 (Ext.to x1) c1 s' fun a h => .inl (o' a h)
theorem s_asg {t : Expr} {g : TG} {is : List Nat} {tg : PV → En → Option En} (h : SimE X e me) (hp : PG X t g) (hg : GOk X.K X.mg is g tg) (hs : swapsWithSole [t] e pos.line X.env = pure false := by rfl) (hw : swappedStores [t] e X.env = pure none := by rfl) (h1 : (assignEach [t] X.env).map (·.2) = [assign t X.env] := by rfl) : SimS X (.Assign [t] e pos) (mAsg tg me) :=
  weakS (ps_asg h hp hs hw h1) (asg_weak hg)
theorem set_weak {i : Nat} : ∀ D σ H, tS X.K X.mg (mSet i me) D σ H → tAsg (tI X.K X.mg (pV X.K X.mg) me) (gName i) D σ H := fun D σ H ⟨ep, et, W, R, c, s, e, q⟩ =>
  ⟨ep, et, W, _, c, s, e, fun p et1 r1 v H1 W1 x1 c1 p1 => q .nx _ et1 r1 _ H1 W1 (Ext.to x1) c1 ((s.ext c x1).set_val p1) fun a h => .inl (own_set_sub h)⟩
theorem setN_weak {i : Nat} : ∀ D σ H, tS X.K X.mg (mSetN i me) D σ H → tAsg (tI X.K X.mg (pN X.K X.mg) me) (gName i) D σ H := fun D σ H ⟨ep, et, W, R, c, s, e, q⟩ => by
  refine ⟨ep, et, W, _, c, s, e, fun p et1 r1 v H1 W1 x1 c1 p1 => ?_⟩
  obtain ⟨b, rfl, h0, hf, hl, ho⟩ := p1
  refine q .nx _ et1 r1 _ H1 W1 (Ext.to x1) c1 ((s.ext c x1).set_own (fun z => s.own_there z h0) hf hl ho) fun a h => ?_
  rcases own_set_own h with h | rfl
  · exact .inl h
  · exact .inr h0
section
variable {i : Nat} {x : Str} {pos' : Pos}
theorem s_set (hN : X.N.Nodup) (hi : X.N[i]? = some x) (hx : Loc X.env.scope x) (he : SimE X e me) (hs : swapsWith e (some (.Name x pos')) pos.line X.env = pure false := by rfl) (hf : X.fn x = true ∨ X.env.scope.names.lookup x = some .local := by first | exact .inl rfl | exact .inr rfl | assumption) :
    SimS X (.Assign [.Name x pos'] e pos) (mSet i me) := weakS (ps_set hN hi hx he hs hf) set_weak
theorem s_setN (hN : X.N.Nodup) (hi : X.N[i]? = some x) (hx : Loc X.env.scope x) (he : SimN X e me) (hs : swapsWith e (some (.Name x pos')) pos.line X.env = pure false := by rfl) (hf : X.fn x = true ∨ X.env.scope.names.lookup x = some .local := by first | exact .inl rfl | exact .inr rfl | assumption) :
    SimS X (.Assign [.Name x pos'] e pos) (mSetN i me) := weakS (ps_set hN hi hx he hs hf) setN_weak
end
def mPar (i j : Nat) (ms : EM (List PV)) : SM := fun ep et R => ms ep et fun ps et1 => ∃ p q, ps = [p, q] ∧ R .nx ((ep.set i (.val p)).set j (.val q)) et1
theorem s_par {i j : Nat} {x y : Str} {a b : Expr} {ms : EM (List PV)} {px py pt : Pos} {kt k2 pt2} (hc : X.calm = true) (hN : X.N.Nodup) (hi : X.N[i]? = some x) (hj : X.N[j]? = some y) (hij : i ≠ j)
    (h : PA X [a, b] (tL X.K X.mg ms)) (hp : ∀ {ta : TA}, PA X [a, b] ta → PS X (.Assign [.Tuple [.Name x px, .Name y py] kt pt] (.Tuple [a, b] k2 pt2) pos) (tPar i j ta)) :
    SimS X (.Assign [.Tuple [.Name x px, .Name y py] kt pt] (.Tuple [a, b] k2 pt2) pos) (mPar i j ms) := weakS (hp h) fun D σ H ⟨ep, et, W, R, c, s, e, q⟩ => by
  refine ⟨ep, et, W, _, c, s, e, fun ps et1 r1 vs H1 W1 x1 c1 p1 => ?_⟩
  obtain ⟨p, r, rfl, r2⟩ := r1
  unfold VRs at p1
  obtain ⟨v, t, rfl, h1, p1⟩ := p1
  unfold VRs at p1
  obtain ⟨w, t', rfl, h2, p1⟩ := p1
  unfold VRs at p1
  subst p1
  exact ⟨v, w, rfl, q .nx _ et1 r2 _ H1 W1 (Ext.to x1) c1 (((s.ext c x1).set_val h1).set_val h2) fun a h => .inl (own_set_sub (own_set_sub h))⟩
def mWhile (t : EM Bool) (m : SM) : SM := fun ep et R => ∃ W : Nat → En → Hi → Prop, (∃ k, W k ep et) ∧ ∀ k ep et, W k ep et → t ep et fun b et1 => if b = true then m ep et1 fun f ep2 et2 => match f with
      | .nx => ∃ j, j < k ∧ W j ep2 et2
      | .ct => ∃ j, j < k ∧ W j ep2 et2
      | .bk => R .nx ep2 et2
      | .rt p => R (.rt p) ep2 et2
    else R .nx ep et1
def Walks (K : PySem.W.Frag) (mg : Str → Option Value) (J : It) (ps src : List PV) (et0 : Hi) (H0 : Hp) (W0 : Wd) : Prop :=
  ∀ (O : Addr → Prop) (H1 : Hp) (et1 : Hi) (W1 : Wd), Ext O H0 et0 W0 H1 et1 W1 → Stays O H0 et0 W0 → Cel K mg H1 et1 W1 → src.map (deref et1) = src.map (deref et0) → ∀ i : Nat,
    (i = ps.length → J.stop i H1) ∧ ∀ p, ps[i]? = some p → J.go i H1 ∧ ∀ v H2, J.yld i H1 v H2 → ∃ W2, Ext NoO H1 et1 W1 H2 et1 W2 ∧ Cel K mg H2 et1 W2 ∧ VR K mg W2 H2 p v
abbrev IM := En → Hi → (List PV → List PV → Hi → Prop) → Prop
def tIt (K : PySem.W.Frag) (mg : Str → Option Value) (m : IM) : TI := fun sg H Q => ∃ ep et W R, Cel K mg H et W ∧ Slt K mg sg ep H et W ∧ m ep et R ∧
  ∀ ps src et', R ps src et' → ∀ J H' W', Ext NoO H et W H' et' W' → Cel K mg H' et' W' → Walks K mg J ps src et' H' W' → Q J H'
abbrev SimI (X : Cx) (tg iter : Expr) (m : IM) : Prop := PI X tg iter (tIt X.K X.mg m)
theorem weakI {X : Cx} {tg iter : Expr} {t u : TI} (h : PI X tg iter t) (w : ∀ σ H Q, u σ H Q → t σ H Q) : PI X tg iter u := ⟨fun pins s σ H Q I q => h.run pins s σ H Q I (w σ H Q q)⟩
def forGo (src : List PV) (want : List PV) (tg : PV → En → Option En) (m : SM) (ps : List PV) : SM := fun ep et R => ∃ V : Nat → En → Hi → Prop, V 0 ep et ∧ ∀ i ep et, V i ep et → src.map (deref et) = want ∧
  (∀ p, ps[i]? = some p → ∃ ep1, tg p ep = some ep1 ∧ m ep1 et fun f ep2 et2 => match f with
      | .nx => V (i + 1) ep2 et2
      | .ct => V (i + 1) ep2 et2
      | .bk => R .nx ep2 et2
      | .rt q => R (.rt q) ep2 et2) ∧ (i = ps.length → R .nx ep et)
def mFor (mi : IM) (tg : PV → En → Option En) (m : SM) : SM := fun ep et R => mi ep et fun ps src et1 => forGo src (src.map (deref et1)) tg m ps ep et1 R
theorem s_for {t iter : Expr} {body : List Stmt} {mi : IM} {g : TG} {is : List Nat} {tg : PV → En → Option En} (hp : PassesOwn (model X.prog X.w) X.A X.env X.xe) (hc : X.calm = true) (hi : SimI X t iter mi) (hg : PG X t g) (gk : GOk X.K X.mg is g tg) (hb : SimSs X body m)
    (hs : ∀ x, foldedSetIterable iter X.env x = pure x := by intro _; rfl) : SimS X (.For t iter body [] pos) (mFor mi tg m) := weakS (ps_for hp hc hi hg hb hs) fun D σ H ⟨ep, et, W, R, c, s, e, q⟩ => by
  refine ⟨ep, et, W, _, c, s, e, fun ps src et0 r0 J H0 W0 x0 c0 wk => ?_⟩
  obtain ⟨V, hV0, hV⟩ := r0
  have s0 := s.ext c x0
  have sy : Stays (Own ep σ) H0 et0 W0 := Slt.stays c0 s0
  refine ⟨fun i k σ' H' => k = ps.length - i ∧ i ≤ ps.length ∧ ∃ ep' et' W', Cel X.K X.mg H' et' W' ∧ Slt X.K X.mg σ' ep' H' et' W' ∧ Ext (Own ep σ) H0 et0 W0 H' et' W' ∧ (∀ a, Own ep' σ' a → Own ep σ a ∨ H0 a = none) ∧ V i ep' et',
    ⟨ps.length, by simp, Nat.zero_le _, ep, et0, W0, c0, s0, Ext.refl .., fun a h => .inl h, hV0⟩, ?_⟩
  rintro i k σ' H' ⟨rfl, hi, ep', et', W', c', s', x', o', r'⟩
  have back : ∀ {f : Fl} {ep2 : En} {et2 : Hi}, R f ep2 et2 → ∀ {σ2 : L2.St} {H2 : Hp} {W2 : Wd}, Ext (Own ep σ) H0 et0 W0 H2 et2 W2 → Cel X.K X.mg H2 et2 W2 → FlEnd X.K X.mg D ep σ H0 f ep2 σ2 H2 et2 W2 := fun {f ep2 et2} r {σ2 H2 W2} x cc => by
    have k := q f ep2 et2 r σ2 H2 W2 (x0.pre x) cc
    exact k.pre fun a h => h.imp_right fun z => x0.back z
  by_cases hlt : i < ps.length
  · obtain ⟨hsrc, r2, _⟩ := hV i ep' et' r'
    obtain ⟨ep1, ht, r1⟩ := r2 ps[i] (List.getElem?_eq_getElem hlt)
    obtain ⟨go, yl⟩ := (wk _ H' et' W' x' sy c' hsrc i).2 ps[i] (List.getElem?_eq_getElem hlt)
    refine .inr ⟨go, fun σ' H' => ∃ ep' et' W', Cel X.K X.mg H' et' W' ∧ Slt X.K X.mg σ' ep' H' et' W' ∧ Ext (Own ep σ) H0 et0 W0 H' et' W' ∧ (∀ a, Own ep' σ' a → Own ep σ a ∨ H0 a = none) ∧ V (i + 1) ep' et',
      fun σ1 H1 h => ⟨ps.length - (i + 1), by omega, rfl, hlt, h⟩, fun v H2 hy => ?_⟩
    obtain ⟨W2, x2, c2, v2⟩ := yl v H2 hy
    refine gk v ps[i] σ' H2 ep' ep1 et' W2 _ c2 (s'.ext c' x2) v2 ht fun σ1 s1 o1 _ => ?_
    have x02 : Ext (Own ep σ) H0 et0 W0 H2 et' W2 := x'.trans x2 fun _ h => h.elim
    refine ⟨ep1, et', W2, _, c2, s1, r1, fun f ep3 et3 r3 σ3 H3 W3 x3 c3 => ?_⟩
    have oo1 : ∀ a, Own ep1 σ1 a → Own ep σ a ∨ H0 a = none := fun a h => o' a (o1 a h)
    have x03 : Ext (Own ep σ) H0 et0 W0 H3 et3 W3 := x02.trans x3 oo1
    have oo : ∀ a, (Own ep1 σ1 a ∨ H2 a = none) → Own ep σ a ∨ H0 a = none := fun a h => h.elim (oo1 a) fun z => .inr (x02.back z)
    cases f with
    | nx => exact fun s3 o3 => ⟨ep3, et3, W3, c3, s3, x03, fun a h => oo a (o3 a h), r3⟩
    | ct => exact fun s3 o3 => ⟨ep3, et3, W3, c3, s3, x03, fun a h => oo a (o3 a h), r3⟩
    | bk => exact fun s3 o3 => back (f := .nx) r3 x03 c3 s3 fun a h => oo a (o3 a h)
    | rt p => exact fun v hv => back (f := .rt p) r3 (σ2 := σ3) x03 c3 v hv
  · obtain ⟨hsrc, _, r1⟩ := hV i ep' et' r'
    exact .inl ⟨(wk _ H' et' W' x' sy c' hsrc i).1 (by omega), back (f := .nx) (r1 (by omega)) x' c' s' o'⟩
end
end Mw
namespace Mw
open PySem PySem.Spec L2
section
variable {X : Cx} {tg e : Expr} {me : EM PV} {ms : EM (List PV)} {pos : Pos}
def signs (x : Str) : List PV := x.cps.toList.map fun c => .str ⟨#[c]⟩
def itemsP : PV → Option (List PV)
  | .lst xs => some xs
  | .tup xs => some xs
  | .scr xs => some (xs.map .int)
  | .str x => some (signs x)
  | _ => none
def mIter (m : EM PV) : IM := fun ep et R => m ep et fun p et1 => ∃ ps, itemsP (deref et1 p) = some ps ∧ R ps [p] et1
theorem pi_any {t : TE} (hl : PE X e t) : PI X tg e (fun σ H R => t σ H fun x H1 => (∃ a, x = .ref a ∧ (∃ xs, SqL X.K H1 a xs) ∧ R (Itl X.K a) H1) ∨ (∃ a, x = .ref a ∧ (∃ xs, SqT X.K H1 a xs) ∧ R (Itt X.K a) H1) ∨ ∃ z, x = .str z ∧ R (Its z) H1) := by
  refine ⟨fun pins s σ H R I h => ?_⟩
  refine thn (hl.run pins s σ H _ I h) fun v s1 ⟨x, H1, I1, r1, q1⟩ => ?_
  rcases q1 with ⟨a, e, ⟨xs, hq⟩, q⟩ | ⟨a, e, ⟨xs, hq⟩, q⟩ | ⟨x, ex, q⟩
  · subst e
    cases r1
    obtain ⟨its, rv, p, hz⟩ := I1.list hq
    refine wpAny_pyIter_list p.isList ?_
    refine ⟨s1.heap.objs.size, [s1.heap.objs.size], _, _, H1, rfl, I1.kept (t' := s1.toks) fun b o e => Heap.get?_push_of_some _ e, turn_list a _, ⟨_, Heap.get?_push_size _ rfl, rfl, rfl⟩, fun b hb => ?_, q⟩
    have e : b = s1.heap.objs.size := by simpa using hb
    subst e
    exact I1.fpOk (Nat.le_refl _) (I1.hok.fresh (Nat.le_refl _))
  · subst e
    cases r1
    obtain ⟨its, rv, p, hz⟩ := I1.tuple hq
    refine wpAny_pyIter_tuple (show s1.heap.IsTuple a its.toArray from p) ?_
    refine ⟨s1.heap.objs.size, [s1.heap.objs.size], _, _, H1, rfl, I1.kept (t' := s1.toks) fun b o e => Heap.get?_push_of_some _ e, turn_tuple a _, ⟨_, Heap.get?_push_size _ rfl, rfl, rfl⟩, fun b hb => ?_, q⟩
    have e : b = s1.heap.objs.size := by simpa using hb
    subst e
    exact I1.fpOk (Nat.le_refl _) (I1.hok.fresh (Nat.le_refl _))
  · subst ex
    obtain ⟨t, rfl⟩ := r1
    cases ha : x.cps.all (· < 128)
    · exact wpAny_pyIter_wide ha (pi_one (tk := s1.toks) I1 _ (turn_str _ x t "str_iterator" (.inr rfl)) ⟨_, Heap.get?_push_size _ rfl, rfl, rfl⟩ q)
    · exact wpAny_pyIter_ascii ha (pi_one (tk := s1.toks) I1 _ (turn_str _ x t "str_ascii_iterator" (.inl rfl)) ⟨_, Heap.get?_push_size _ rfl, rfl, rfl⟩ q)
theorem walks_list {H : Hp} {et : Hi} {W : Wd} {p : PV} {a : Addr} {ps : List PV} (h : VR X.K X.mg W H p (.ref a)) (e : deref et p = .lst ps) : Walks X.K X.mg (Itl X.K a) ps [p] et H W := by
  intro O H1 et1 W1 x sy c hsrc i
  have h1 : VR X.K X.mg W1 H1 p (.ref a) := VR.ext x sy _ _ h
  have e1 : deref et1 p = .lst ps := by
    have := hsrc
    simp only [List.map_cons, List.map_nil, List.cons.injEq, and_true] at this
    rw [this, e]
  obtain ⟨b, vs, eb, k1, k2⟩ := Pk.lst c (.inl h1) e1
  cases eb
  refine ⟨fun hl => ⟨vs, SqL.of k1, by rw [← k2.len]; omega⟩, fun q hq => ?_⟩
  obtain ⟨v, k3, k4⟩ := VRs.get k2 hq
  refine ⟨⟨vs, v, SqL.of k1, k3⟩, fun u H2 hy => ?_⟩
  obtain ⟨rfl, hy⟩ := hy
  have := hy vs (SqL.of k1)
  rw [k3] at this; cases this
  exact ⟨W1, Ext.refl .., c, k4⟩
theorem walks_scr {H : Hp} {et : Hi} {W : Wd} {ns : List Int} {a : Addr} (h : VR X.K X.mg W H (.scr ns) (.ref a)) : Walks X.K X.mg (Itl X.K a) (ns.map .int) [.scr ns] et H W := by
  intro O H1 et1 W1 x sy c hsrc i
  have h1 : VR X.K X.mg W1 H1 (.scr ns) (.ref a) := VR.ext x sy _ _ h
  unfold VR at h1
  obtain ⟨b, eb, k1⟩ := h1
  cases eb
  have k1 := k1.sq
  refine ⟨fun hl => ⟨_, k1, by simp at hl ⊢; omega⟩, fun q hq => ?_⟩
  rw [List.getElem?_map] at hq
  cases hn : ns[i]? with
  | none => rw [hn] at hq; cases hq
  | some n =>
    rw [hn] at hq; cases hq
    have k3 : (ns.map V.int)[i]? = some (.int n) := by rw [List.getElem?_map, hn]; rfl
    refine ⟨⟨_, _, k1, k3⟩, fun u H2 hy => ?_⟩
    obtain ⟨rfl, hy⟩ := hy
    have := hy _ k1
    rw [k3] at this; cases this
    exact ⟨W1, Ext.refl .., c, VR.int⟩
theorem walks_tup {H : Hp} {et : Hi} {W : Wd} {ps : List PV} {a : Addr} (h : VR X.K X.mg W H (.tup ps) (.ref a)) : Walks X.K X.mg (Itt X.K a) ps [.tup ps] et H W := by
  intro O H1 et1 W1 x sy c hsrc i
  have h1 : VR X.K X.mg W1 H1 (.tup ps) (.ref a) := VR.ext x sy _ _ h
  unfold VR at h1
  obtain ⟨b, vs, eb, k1, k2⟩ := h1
  cases eb
  refine ⟨fun hl => ⟨vs, k1, by rw [← k2.len]; omega⟩, fun q hq => ?_⟩
  obtain ⟨v, k3, k4⟩ := VRs.get k2 hq
  refine ⟨⟨vs, v, k1, k3⟩, fun u H2 hy => ?_⟩
  obtain ⟨rfl, hy⟩ := hy
  have := hy vs k1
  rw [k3] at this; cases this
  exact ⟨W1, Ext.refl .., c, k4⟩
theorem walks_str {H : Hp} {et : Hi} {W : Wd} {src : List PV} (x : Str) : Walks X.K X.mg (Its x) (signs x) src et H W := by
  intro O H1 et1 W1 _ sy c hsrc i
  refine ⟨fun hl => ?_, fun q hq => ?_⟩
  · unfold signs at hl; rw [List.length_map, Array.length_toList] at hl; exact Nat.le_of_eq hl.symm
  · unfold signs at hq
    rw [List.getElem?_map] at hq
    cases hn : x.cps.toList[i]? with
    | none => rw [hn] at hq; cases hq
    | some n =>
      rw [hn] at hq; cases hq
      have hi : i < x.cps.size := by
        have := (List.getElem?_eq_some_iff.mp hn).1
        rwa [Array.length_toList] at this
      refine ⟨hi, fun u H2 hy => ?_⟩
      obtain ⟨rfl, d, hd, rfl⟩ := hy
      have : d = n := by
        rw [← Array.getElem?_toList, hn] at hd
        exact (Option.some.inj hd).symm
      subst this
      exact ⟨W1, Ext.refl .., c, VR.str⟩
theorem sI_any (h : SimE X e me) : SimI X tg e (mIter me) := weakI (pi_any h) fun σ H Q ⟨ep, et, W, R, c, s, hm, q⟩ => by
  refine ⟨ep, et, W, _, c, s, hm, fun p et1 r0 v H1 W1 x1 c1 p1 => ?_⟩
  have p1 : VR X.K X.mg W1 H1 p v := p1
  obtain ⟨ps, hp, r1⟩ := r0
  unfold itemsP at hp
  split at hp
  · rename_i xs e1
    cases hp
    obtain ⟨a, vs, rfl, k1, k2⟩ := Pk.lst c1 (.inl p1) e1
    exact .inl ⟨a, rfl, ⟨vs, SqL.of k1⟩, q _ _ et1 r1 _ H1 W1 x1 c1 (walks_list p1 e1)⟩
  · rename_i xs e1
    cases hp
    have e2 := deref_plain e1 rfl
    subst e2
    have p2 := p1
    unfold VR at p2
    obtain ⟨a, vs, rfl, k1, k2⟩ := p2
    exact .inr (.inl ⟨a, rfl, ⟨vs, k1⟩, q _ _ et1 r1 _ H1 W1 x1 c1 (walks_tup p1)⟩)
  · rename_i xs e1
    cases hp
    have e2 := deref_plain e1 rfl
    subst e2
    have p2 := p1
    unfold VR at p2
    obtain ⟨a, rfl, k1⟩ := p2
    exact .inl ⟨a, rfl, ⟨_, k1.sq⟩, q _ _ et1 r1 _ H1 W1 x1 c1 (walks_scr p1)⟩
  · rename_i x e1
    cases hp
    have e2 := deref_plain e1 rfl
    subst e2
    unfold VR at p1
    exact .inr (.inr ⟨x, p1, q _ _ et1 r1 _ H1 W1 x1 c1 (walks_str x)⟩)
  · cases hp
def rng (i : Int) (n : Nat) : List PV := (List.range n).map fun (k : Nat) => .int (i + k)
def mRng1 (ms : EM (List PV)) : IM := fun ep et R => ms ep et fun ps et1 => ∃ j : Int, ps = [.int j] ∧ -(2 ^ 62) ≤ j ∧ j < 2 ^ 62 ∧ R (rng 0 j.toNat) [] et1
def mRng2 (ms : EM (List PV)) : IM := fun ep et R => ms ep et fun ps et1 => ∃ i j : Int, ps = [.int i, .int j] ∧ (-(2 ^ 62) ≤ i ∧ i < 2 ^ 62 ∧ -(2 ^ 62) ≤ j ∧ j < 2 ^ 62) ∧ R (rng i (j - i).toNat) [] et1
theorem walks_rng {H : Hp} {et : Hi} {W : Wd} (i : Int) (n : Nat) : Walks X.K X.mg (Itr i n) (rng i n) [] et H W := by
  intro O H1 et1 W1 _ sy c hsrc j
  refine ⟨fun hl => ?_, fun q hq => ?_⟩
  · unfold rng at hl; rw [List.length_map, List.length_range] at hl; exact Nat.le_of_eq hl.symm
  · unfold rng at hq
    rw [List.getElem?_map] at hq
    by_cases hj : j < n
    · rw [List.getElem?_range hj] at hq
      cases hq
      refine ⟨hj, fun v H2 hy => ?_⟩
      obtain ⟨rfl, rfl⟩ := hy
      exact ⟨W1, Ext.refl .., c, VR.int⟩
    · rw [List.getElem?_eq_none (by simpa using hj)] at hq; cases hq
theorem sI_rng1 {a : Expr} {p : Pos} (hg : Gl X "range") (hm : X.mg "range" = none) (ha : SimA X [a] ms) (hs : starEach [a] X.env = [(false, eval a X.env)] := by rfl) : SimI X tg (.Call (.Name "range" p) [a] [] pos) (mRng1 ms) :=
  weakI (pi_range1 hg hm ha hs) fun σ H Q ⟨ep, et, W, R, c, s, hm, q⟩ => by
  refine ⟨ep, et, W, _, c, s, hm, fun ps et1 r0 vs H1 W1 x1 c1 p1 => ?_⟩
  obtain ⟨j, rfl, h1, h2, r1⟩ := r0
  unfold VRs at p1
  obtain ⟨v, r, rfl, p2, p3⟩ := p1
  unfold VRs at p3; subst p3
  unfold VR at p2; subst p2
  exact ⟨j, rfl, h1, h2, q _ _ et1 r1 _ H1 W1 x1 c1 (walks_rng 0 _)⟩
def SqK (b : Bool) (K : PySem.W.Frag) (H : Hp) (a : Addr) (xs : List V) : Prop := (b = true ∧ SqL K H a xs) ∨ (b = false ∧ SqT K H a xs)
def itK (b : Bool) (h : Heap) (it a : Addr) (i : Nat) : Prop := (b = true ∧ h.IsListIter it a i) ∨ (b = false ∧ h.IsTupleIter it a i)
def srcK (b : Bool) (h : Heap) (a : Addr) (its : Array Value) : Prop := (b = true ∧ h.IsList a its) ∨ (b = false ∧ h.IsTuple a its)
def objK (b : Bool) (a : Addr) : Obj := { cls := .type (if b = true then "list_iterator" else "tuple_iterator"), data := .fields #[.ref a, .int 0 0] }
theorem itK.at {b : Bool} {h h' : Heap} {it a : Addr} {i : Nat} (x : itK b h it a i) (k : ∀ o, h.get? it = some o → h'.get? it = some o) : itK b h' it a i := by
  rcases x with ⟨e, x⟩ | ⟨e, x⟩
  · exact .inl ⟨e, x.at k⟩
  · exact .inr ⟨e, x.at k⟩
theorem itK.obj {b : Bool} {h : Heap} {it a : Addr} {i : Nat} (x : itK b h it a i) : ∃ o, h.get? it = some o ∧ ∀ v, o.data ≠ .cell v := by
  rcases x with ⟨_, o, ho, _, hd⟩ | ⟨_, o, ho, _, hd⟩ <;> exact ⟨o, ho, fun v q => by rw [hd] at q; cases q⟩
theorem itK.new {b : Bool} {h : Heap} {it a : Addr} (e : h.get? it = some (objK b a)) : itK b h it a 0 := by
  cases b
  · exact .inr ⟨rfl, _, e, rfl, rfl⟩
  · exact .inl ⟨rfl, _, e, rfl, rfl⟩
theorem srcK.lt {b : Bool} {h : Heap} {a : Addr} {its : Array Value} (x : srcK b h a its) : a < h.objs.size := by
  rcases x with ⟨_, o, ho, _⟩ | ⟨_, o, ho, _⟩ <;> exact Heap.lt_size ho
theorem drawsK {P : Program} {w : World} {A : Around} (hh : A.handled = none) (b : Bool) (it a : Addr) (hne : a ≠ it) (its : Array Value) :
    Draws P w A it [it, a] its.size (fun i v => its[i]? = some v) (fun i h => itK b h it a i ∧ srcK b h a its) := by
  cases b
  · have e : (fun (i : Nat) (h : Heap) => itK false h it a i ∧ srcK false h a its) = fun i h => h.IsTupleIter it a i ∧ h.IsTuple a its := by
      funext i h; unfold itK srcK; simp
    rw [e]; exact Draws.tuple hh it a hne its
  · have e : (fun (i : Nat) (h : Heap) => itK true h it a i ∧ srcK true h a its) = fun i h => h.IsListIter it a i ∧ h.IsList a its := by
      funext i h; unfold itK srcK; simp
    rw [e]; exact Draws.list hh it a hne its
theorem beginsK (b : Bool) (a : Addr) (its : Array Value) : Begins (.ref a) (objK b a) (fun h => srcK b h a its) := by
  cases b
  · have e : (fun h : Heap => srcK false h a its) = fun h => h.IsTuple a its := by funext h; unfold srcK; simp
    rw [e]; exact begins_tuple a its
  · have e : (fun h : Heap => srcK true h a its) = fun h => h.IsList a its := by funext h; unfold srcK; simp
    rw [e]; exact begins_list a its
section
variable {X : Cx} {pins : List (Addr × Obj)} {σ : L2.St} {H : Hp} {s : Shared} {a : Addr} {xs ys : List V} {b : Bool}
theorem invK (I : Inv X pins σ H s) (h : SqK b X.K H a xs) : ∃ its : List Value, Vals xs its ∧ srcK b s.heap a its.toArray := by
  rcases h with ⟨e, h⟩ | ⟨e, h⟩
  · obtain ⟨its, r, p, _⟩ := I.list h; exact ⟨its, r, .inl ⟨e, p.isList⟩⟩
  · obtain ⟨its, r, p, _⟩ := I.tuple h; exact ⟨its, r, .inr ⟨e, p⟩⟩
theorem invK_inj (I : Inv X pins σ H s) (h : SqK b X.K H a xs) (h' : SqK b X.K H a ys) : xs = ys := by
  rcases h with ⟨e, h⟩ | ⟨e, h⟩ <;> rcases h' with ⟨e', h'⟩ | ⟨e', h'⟩
  · exact I.list_inj h h'
  · rw [e] at e'; cases e'
  · rw [e] at e'; cases e'
  · exact I.tuple_inj h h'
end
theorem enumT_new {v : Value} {o : Obj} {Hh : Heap → Prop} (B : Begins v o Hh) :
    Meets (Builtin.«enumerate.__new__» ⟨[.type "enumerate", v], []⟩) (fun _ R s => Hh s.heap ∧
      R (.ok (.ret (.ref (s.heap.push o).objs.size))) { s with heap := (s.heap.push o).push { cls := .type "enumerate", data := .fields #[.none, .bool false, .ref s.heap.objs.size, rawInt 0, .none, .none] } }) :=
  .of_wp fun prog w A R s hs => by
    obtain ⟨hp, g, d, tk, os⟩ := s
    obtain ⟨h1, h⟩ := hs
    have hsub := sub_enumerate
    have qi : ∀ {A' : Around} {E : Value → Shared → Prop} {Q : Value → Shared → Prop}, Q (.ref hp.objs.size) ⟨hp.push o, g, d, tk, os⟩ → wpAny (model prog w) A' (pyIter v) Q E ⟨hp, g, d, tk, os⟩ :=
      fun q => B.iter prog w _ _ ⟨hp, g, d, tk, os⟩ _ h1 q
    wp_walk using qi
    refine wpAny_stack_any fun st => wpAny_pure ?_
    split
    · rename_i c _ _ _ _ _
      cases (c == Value.type "enumerate") <;> (wp_walk using qi; exact ⟨_, rfl, h⟩)
    · wp_walk using qi; exact ⟨_, rfl, h⟩
theorem enumT_call {P : Program} {w : World} {A : Around} {E : Value → Shared → Prop} {s : Shared} {v : Value} {o : Obj} {Hh : Heap → Prop} {Q : Value → Shared → Prop} (B : Begins v o Hh) (h1 : Hh s.heap)
    (h : ∀ h', IsEnum h' (s.heap.objs.size + 1) s.heap.objs.size 0 .none → h'.get? s.heap.objs.size = some o →
      (∀ b u, s.heap.get? b = some u → h'.get? b = some u) → Q (.ref (s.heap.objs.size + 1)) { s with heap := h' }) :
    wpAny (model P w) A (call (.type "enumerate") [v]) Q E s := by
  refine callType_new F.called_enumerate (by decide) (F.typeCall_enumerate_1 _) (F.newCall_enumerate_1 _) (fun x => F.args_object_init_2 x _) F.entry_enumerate_new (enumT_new B) ⟨h1, ?_⟩
  have z : (s.heap.push o).objs.size = s.heap.objs.size + 1 := Heap.size_push ..
  show _ ∧ _
  rw [z]
  have he := Heap.get?_push_size (s.heap.push o) (o := { cls := .type "enumerate", data := .fields #[.none, .bool false, .ref s.heap.objs.size, rawInt 0, .none, .none] }) rfl
  rw [z] at he
  exact ⟨⟨_, he, rfl⟩, h _ he (Heap.get?_push_of_some _ (Heap.get?_push_size _ B.free)) fun b u x => Heap.get?_push_of_some _ (Heap.get?_push_of_some _ x)⟩
def IteK (b : Bool) (K : PySem.W.Frag) (a : Addr) : It where
  go i H := ∃ (xs : List V) (x : V), SqK b K H a xs ∧ xs[i]? = some x
  yld i H v H' := ∃ T o x, v = .ref T ∧ H T = none ∧ XTup o ∧ H' = upd H T (.frz o (.tup [.int (i : Nat), x])) ∧ ∀ xs, SqK b K H a xs → xs[i]? = some x
  stop i H := ∃ xs : List V, SqK b K H a xs ∧ xs.length = i
def enK (b : Bool) (a e it : Addr) (i : Nat) (h : Heap) : Prop := (∃ old, IsEnum h e it ((i : Nat) : Int) old) ∧ itK b h it a i ∧ e ≠ it ∧ a ≠ it ∧ e ≠ a
theorem turn_enumK {P : Program} {w : World} {K : PySem.W.Frag} {elts : List Expr} {kk : Nat} {tpos : Pos} (b : Bool) (a e it : Addr) : Turn P w K (.Tuple elts kk tpos) (IteK b K a) [e, it] e (enK b a e it) where
  mem := List.mem_cons_self ..
  obj := fun i h ⟨⟨old, he⟩, hi, _⟩ c hb => by
    rcases List.mem_cons.mp hb with z | z
    · rw [z]; exact ⟨_, he, fun v q => nomatch q⟩
    · rw [List.mem_singleton.mp z]; exact hi.obj
  keep := fun i h h' ⟨⟨old, he⟩, hi, n⟩ k => ⟨⟨old, k e (by simp) _ he⟩, hi.at fun o q => k it (by simp) o q, n⟩
  item := by
    intro X hP hw hK hc i pins s σ H E I hf st hg
    subst hP; subst hw; subst hK
    obtain ⟨⟨old, he⟩, hit, n1, n2, n3⟩ := st
    obtain ⟨xs, x, hq, hx⟩ := hg
    obtain ⟨its, rv, p⟩ := invK I hq
    obtain ⟨u, hu, ru⟩ := rv.get hx
    have hu' : its.toArray[i]? = some u := by simpa using hu
    have hlt : i < its.toArray.size := by simpa using (List.getElem?_eq_some_iff.mp hu).1
    have l1 : e < s.heap.objs.size := Heap.lt_size he
    have l2 : it < s.heap.objs.size := by obtain ⟨_, q, _⟩ := hit.obj; exact Heap.lt_size q
    refine PySem.wpAny_pyNext_enum_itemC (drawsK (A := X.A.in1) (I.ok.hd hc) b it a n2 its.toArray) he ⟨hit, p⟩ hlt n1 (by simp [n1, n3]) fun y h' tk hy ho hs' hT hsz hk => ?_
    have ey : y = u := by rw [hu'] at hy; exact (Option.some.inj hy).symm
    subst ey
    refine ⟨_, rfl, wpAny_letOwnedTupleGo_enum (s := { s with heap := h', toks := tk + 1 }) ho fun h2 he2 sb => ?_⟩
    have hT2 := (sb.2 _ (Nat.ne_of_gt l1)).trans hT
    obtain ⟨o, hxo, hg⟩ : ∃ o, XTup o ∧ h2.get? s.heap.objs.size = some o := ⟨{ cls := .type "tuple", data := .seq #[.int i tk, y] }, ⟨rfl, rfl⟩, hT2⟩
    have ok : ObjOk X.prog X.w (upd H s.heap.objs.size (.frz o (.tup [.int (i : Nat), x]))) h2 s.heap.objs.size (.frz o (.tup [.int (i : Nat), x])) :=
      ⟨hg, by show 2 ≤ sizeLine; decide, [.int i tk, y], .cons ⟨tk, rfl⟩ (.cons ru .nil), ⟨_, hT2, rfl, _, rfl⟩⟩
    have I1 : Inv X pins σ (upd H s.heap.objs.size (.frz o (.tup [.int (i : Nat), x]))) { s with heap := h2, toks := tk + 1 } :=
      I.turnedNew (ch := [e, it]) (fun b ob hb q => by
        have nb : b ≠ e ∧ b ≠ it := by simpa [not_or] using hb
        exact (sb.2 b nb.1).trans (hk b ob nb.1 nb.2 q)) hf (Nat.le_refl _) ok
    refine ⟨.ref s.heap.objs.size, _, I1, rfl, ⟨_, o, x, rfl, I.hok.fresh (Nat.le_refl _), hxo, rfl, fun ys hy => by rw [invK_inj I hy hq]; exact hx⟩, ⟨⟨y, ?_⟩, hs'.1.at fun o q => (sb.2 it (Ne.symm n1)).trans q, n1, n2, n3⟩, fun b hb => ?_⟩
    · show IsEnum h2 e it ((i + 1 : Nat) : Int) y
      rw [show ((i + 1 : Nat) : Int) = (i : Int) + 1 by omega]; exact he2
    · have hb' : b < s.heap.objs.size := by
        rcases List.mem_cons.mp hb with z | z
        · rw [z]; exact l1
        · rw [List.mem_singleton.mp z]; exact l2
      rw [upd_ne (Nat.ne_of_lt hb')]; exact (hf b hb).1
  done := by
    intro X hP hw hK hc i pins s σ H E I hf st hg
    subst hP; subst hw; subst hK
    obtain ⟨⟨old, he⟩, hit, n1, n2, n3⟩ := st
    obtain ⟨xs, hq, hx⟩ := hg
    obtain ⟨its, rv, p⟩ := invK I hq
    obtain ⟨f0, f1, f2, f3, f4, f5⟩ := hf it (by simp)
    have hl := rv.length
    have e1 : i = its.toArray.size := by have := List.size_toArray (as := its); omega
    subst e1
    exact PySem.wpAny_pyNext_enum_endD (drawsK (A := X.A.in1) (I.ok.hd hc) b it a n2 its.toArray) he ⟨hit, p⟩ fun h' eb => ⟨rfl, I.turned (t' := s.toks) (fun b o hb q => eb b o hb q) f0 f1 f3 f4 f5⟩
  self := fun A i s Q E st h => let ⟨⟨_, he⟩, _⟩ := st; wpAny_pyIter_enum he h
def iEnumT (K : PySem.W.Frag) (ta : TA) : TI := fun σ H R => ta σ H fun vs H1 => ∃ b a xs, vs = [.ref a] ∧ SqK b K H1 a xs ∧ R (IteK b K a) H1
theorem pi_enumT {X : Cx} {e : Expr} {ta : TA} {p pos tpos : Pos} {elts : List Expr} {kk : Nat} (hg : Gl X "enumerate") (hm : X.mg "enumerate" = none) (ha : PA X [e] ta) (hs : starEach [e] X.env = [(false, eval e X.env)] := by rfl) :
    PI X (.Tuple elts kk tpos) (.Call (.Name "enumerate" p) [e] [] pos) (iEnumT X.K ta) := by
  refine ⟨fun pins s σ H R I h => PyProof.Rows.Call_ (ld_blt I hg hm PyProof.Rows.boot_enumerate (PyProof.Rows.callWith_type1 (thn (ha.run pos pins s σ H _ I h) fun us s1 ⟨vs, H1, I1, r1, q1⟩ => ?_) hs rfl))⟩
  obtain ⟨b, a, xs, ex, hq, q⟩ := q1
  subst ex
  cases r1 with
  | cons r rr =>
    cases rr
    cases r
    have fresh : ∀ c ∈ [s1.heap.objs.size + 1, s1.heap.objs.size], FpOk X pins H1 c := fun c hb => by
      have hle : s1.heap.objs.size ≤ c := by
        rcases List.mem_cons.mp hb with z | z
        · rw [z]; exact Nat.le_add_right _ _
        · rw [List.mem_singleton.mp z]; exact Nat.le_refl _
      exact I1.fpOk hle (I1.hok.fresh hle)
    obtain ⟨its, rv, pt⟩ := invK I1 hq
    have hlt := pt.lt
    refine enumT_call (beginsK b a its.toArray) pt fun h' he hit hk => wpAny_pyIter_enum he ?_
    have eN : ((s1.heap.objs.size : Nat) : Nat) + 1 ≠ s1.heap.objs.size := Nat.succ_ne_self _
    exact ⟨s1.heap.objs.size + 1, _, _, _, H1, rfl, I1.kept (t' := s1.toks) hk, turn_enumK b a (s1.heap.objs.size + 1) s1.heap.objs.size, ⟨⟨.none, he⟩, itK.new hit, eN, Nat.ne_of_lt hlt, Ne.symm (Nat.ne_of_lt (Nat.lt_succ_of_lt hlt))⟩, fresh, q⟩
def SrcP (b : Bool) (et : Hi) (p : PV) (xs : List PV) : Prop := (b = true ∧ deref et p = .lst xs) ∨ (b = false ∧ p = .tup xs)
theorem srcP_sq {K : PySem.W.Frag} {mg : Str → Option Value} {H : Hp} {et : Hi} {W : Wd} {b : Bool} {p : PV} {xs : List PV} {v : V} (c : Cel K mg H et W) (hp : VR K mg W H p v) (h : SrcP b et p xs) : ∃ a vs, v = .ref a ∧ SqK b K H a vs ∧ VRs K mg W H xs vs := by
  rcases h with ⟨e, h⟩ | ⟨e, h⟩
  · obtain ⟨a, vs, ev, k1, k2⟩ := Pk.lst c (.inl hp) h
    exact ⟨a, vs, ev, .inl ⟨e, SqL.of k1⟩, k2⟩
  · subst h
    unfold VR at hp
    obtain ⟨a, vs, ev, k1, k2⟩ := hp
    exact ⟨a, vs, ev, .inr ⟨e, k1.sq⟩, k2⟩
theorem SrcP.at {b : Bool} {et et' : Hi} {p : PV} {xs : List PV} (h : SrcP b et p xs) (e : deref et' p = deref et p) : SrcP b et' p xs := by
  rcases h with ⟨e1, h⟩ | ⟨e1, h⟩
  · exact .inl ⟨e1, e.trans h⟩
  · exact .inr ⟨e1, h⟩
def enumP (xs : List PV) : List PV := (xs.zipIdx).map fun p => .tup [.int p.2, p.1]
def mEnumA (ms : EM (List PV)) : IM := fun ep et R => ms ep et fun ps et1 => ∃ p xs, ps = [p] ∧ (deref et1 p = .lst xs ∨ p = .tup xs) ∧ R (enumP xs) [p] et1
theorem enumP_get {xs : List PV} {i : Nat} {q : PV} (h : (enumP xs)[i]? = some q) : ∃ x, xs[i]? = some x ∧ q = .tup [.int i, x] := by
  unfold enumP at h
  rw [List.getElem?_map, List.getElem?_zipIdx] at h
  cases e : xs[i]? with
  | none => rw [e] at h; cases h
  | some x => rw [e] at h; cases h; exact ⟨x, rfl, by simp⟩
theorem walks_enumK {H : Hp} {et : Hi} {W : Wd} {b : Bool} {p : PV} {a : Addr} {xs : List PV} (h : VR X.K X.mg W H p (.ref a)) (e : SrcP b et p xs) : Walks X.K X.mg (IteK b X.K a) (enumP xs) [p] et H W := by
  intro O H1 et1 W1 x sy c hsrc i
  have h1 : VR X.K X.mg W1 H1 p (.ref a) := VR.ext x sy _ _ h
  simp only [List.map_cons, List.map_nil, List.cons.injEq, and_true] at hsrc
  obtain ⟨a', vs, ea, k1, k2⟩ := srcP_sq c h1 (e.at hsrc)
  cases ea
  have l1 := k2.len
  refine ⟨fun hl => ⟨vs, k1, ?_⟩, fun z hz => ?_⟩
  · unfold enumP at hl
    rw [List.length_map, List.length_zipIdx] at hl
    omega
  · obtain ⟨x, z1, rfl⟩ := enumP_get hz
    obtain ⟨v, k5, k6⟩ := VRs.get k2 z1
    refine ⟨⟨vs, v, k1, k5⟩, fun u H2 ⟨T, o, v', eu, hT, ho, eH, g1⟩ => ?_⟩
    subst eu; subst eH
    have q1 := g1 vs k1
    rw [k5] at q1; cases q1
    obtain ⟨x3, c3, r3⟩ := new_tup c hT ho (VRs.cons VR.int (VRs.cons k6 VRs.nil))
    exact ⟨W1, x3, c3, r3⟩
theorem sI_enumA {a : Expr} {p tpos : Pos} {elts : List Expr} {kk : Nat} (hg : Gl X "enumerate") (hm : X.mg "enumerate" = none) (ha : SimA X [a] ms) (hs : starEach [a] X.env = [(false, eval a X.env)] := by rfl) :
    SimI X (.Tuple elts kk tpos) (.Call (.Name "enumerate" p) [a] [] pos) (mEnumA ms) :=
  weakI (pi_enumT hg hm ha hs) fun σ H Q ⟨ep, et, W, R, c, s, hm, q⟩ => by
  refine ⟨ep, et, W, _, c, s, hm, fun ps et1 r0 vs H1 W1 x1 c1 p1 => ?_⟩
  obtain ⟨p, xs, rfl, d1, r1⟩ := r0
  unfold VRs at p1
  obtain ⟨v, r, rfl, p2, p3⟩ := p1
  unfold VRs at p3; subst p3
  have key : ∃ b : Bool, SrcP b et1 p xs := by
    rcases d1 with d1 | d1
    · exact ⟨true, .inl ⟨rfl, d1⟩⟩
    · exact ⟨false, .inr ⟨rfl, d1⟩⟩
  obtain ⟨b, s1⟩ := key
  obtain ⟨a', vs, rfl, k1, _⟩ := srcP_sq c1 p2 s1
  exact ⟨b, a', vs, rfl, k1, q _ _ et1 r1 _ H1 W1 x1 c1 (walks_enumK p2 s1)⟩
theorem priv_write {K : PySem.W.Frag} {mg : Str → Option Value} {H : Hp} {et : Hi} {W : Wd} (c : Cel K mg H et W) {D : Addr} {vs vs' : List V} (hD : H D = some (.lst vs)) (hf : ¬ W.fz D) (hl : ¬ Live et W D) :
    Cel K mg (upd H D (.lst vs')) et W ∧ (∀ q v, VR K mg W H q v → VR K mg W (upd H D (.lst vs')) q v) ∧ (∀ ps us, VRs K mg W H ps us → VRs K mg W (upd H D (.lst vs')) ps us) := by
  have x : Ext (fun a => a = D) H et W (upd H D (.lst vs')) et W := ⟨fun _ h => h, fun _ h => .inl h, ⟨[], by simp⟩, fun _ h => .inl h, fun b u h _ hO => by rw [upd_ne hO]; exact h, fun b h => by
    by_cases e : b = D
    · rw [e, upd_same]; simp
    · rw [upd_ne e]; exact h⟩
  have sy : Stays (fun a => a = D) H et W := ⟨fun a h => ⟨c.fzl a h, fun e => hf (e ▸ h)⟩, fun a xs h => ⟨(c.stays0.tup a xs h).1, fun e => by rw [e, hD] at h; cases h⟩, fun a o u h => ⟨(c.stays0.frz a o u h).1, fun e => by rw [e, hD] at h; cases h⟩, fun a fs h => ⟨(c.stays0.xd a fs h).1, fun e => by rw [e, hD] at h; cases h⟩⟩
  refine ⟨⟨c.len, fun j d b h1 h2 => ?_, c.inj, c.fzl, fun b h => x.there b (c.fzh b h)⟩, fun q v h => VR.ext x sy q v h, fun q v h => VRs.ext x sy q v h⟩
  have k := c.ok j d b h1 h2
  have keep : d ≠ .dead → upd H D (.lst vs') b = H b := fun hd => upd_ne fun e => hl ⟨j, d, h1, hd, e ▸ h2⟩
  cases d with
  | dead => trivial
  | lst xs => obtain ⟨vs, k1, k2⟩ := k; exact ⟨vs, by rw [keep (by simp)]; exact k1, VRs.ext x sy _ _ k2⟩
  | dic xs => obtain ⟨vs, k1, k2⟩ := k; exact ⟨vs, by rw [keep (by simp)]; exact k1, VRk.ext x sy _ _ k2⟩
  | potO t n => obtain ⟨b', sd, ct, k0, k1, k2⟩ := k; exact ⟨b', sd, ct, k0, by rw [keep (by simp)]; exact k1, k2⟩
  | potI => obtain ⟨is, k1, k2⟩ := k; exact ⟨is, by rw [keep (by simp)]; exact k1, k2⟩
  | inv P => obtain ⟨is, k1, k2⟩ := k; exact ⟨is, by rw [keep (by simp)]; exact k1, k2⟩
  | exc c fs => obtain ⟨C, d', k0, k1, k2⟩ := k; exact ⟨C, d', k0, by rw [keep (by simp)]; exact k1, k2.imp_right fun ⟨dd, e, q⟩ => ⟨dd, e, x.keep dd _ q (sy.xd dd _ q).1 (sy.xd dd _ q).2⟩⟩
  | nd kvs => rcases k with ⟨k0, k1⟩ | ⟨es, k1, k2⟩; exact .inl ⟨k0, by rw [keep (by simp)]; exact k1⟩; exact .inr ⟨es, by rw [keep (by simp)]; exact k1, VRn.ext x sy _ _ k2⟩
  | ins t fs => obtain ⟨C, dx, gs, k0, k1, k2⟩ := k; exact ⟨C, dx, gs, k0, by rw [keep (by simp)]; exact k1, VRf.ext x sy _ _ k2⟩
def wipeE (ep : En) : List Nat → En
  | [] => ep
  | v :: vs => (wipeE ep vs).set v .no
theorem Slt.wipe {K : PySem.W.Frag} {mg : Str → Option Value} {H : Hp} {et : Hi} {W : Wd} {σ : L2.St} {ep : En} (s : Slt K mg σ ep H et W) : ∀ vs : List Nat, Slt K mg (L2.wipe σ vs) (wipeE ep vs) H et W
  | [] => s
  | v :: vs => by
    unfold L2.wipe wipeE
    exact (Slt.wipe s vs).set_no
theorem wipe_get (σ : L2.St) : ∀ (vs : List Nat) (j : Nat), (L2.wipe σ vs)[j]? = if j ∈ vs then (if j < σ.length then some none else none) else σ[j]?
  | [], j => by simp [L2.wipe]
  | v :: vs, j => by
    unfold L2.wipe
    by_cases e : j = v
    · subst e
      by_cases hl : j < σ.length
      · rw [List.getElem?_set_self (by rw [wipe_length]; exact hl)]; simp [hl]
      · rw [List.getElem?_eq_none (by rw [List.length_set, wipe_length]; omega)]; simp [hl]
    · rw [List.getElem?_set_ne (Ne.symm e), wipe_get σ vs j]; simp [e]
theorem wipe_same {σ σ' : L2.St} {vs : List Nat} (hl : σ'.length = σ.length) (h : ∀ j, j ∉ vs → σ'[j]? = σ[j]?) : L2.wipe σ' vs = L2.wipe σ vs := by
  apply List.ext_getElem?
  intro j
  rw [wipe_get, wipe_get, hl]
  by_cases e : j ∈ vs
  · simp [e]
  · simp [e, h j e]
theorem wipe_wipe (σ : L2.St) (vs : List Nat) : L2.wipe (L2.wipe σ vs) vs = L2.wipe σ vs := wipe_same (wipe_length σ vs) fun j hj => by rw [wipe_get]; simp [hj]
def mYes : EM Bool := fun _ et R => R true et
def lcGo (src want : List PV) (tg : PV → En → Option En) (mt : EM Bool) (me : EM PV) (epw : En) (ps : List PV) (et : Hi) (R : PV → Hi → Prop) : Prop := ∃ V : Nat → List PV → Hi → Prop, V 0 [] et ∧ ∀ i acc et, V i acc et → src.map (deref et) = want ∧
  (∀ p, ps[i]? = some p → ∃ ep1, tg p epw = some ep1 ∧ mt ep1 et fun b et1 => if b = true then me ep1 et1 fun y et2 => acc.length < sizeLine ∧ V (i + 1) (acc ++ [y]) et2 else V (i + 1) acc et1) ∧ (i = ps.length → R (.lst acc) et)
def mLc (mi : IM) (vs : List Nat) (tg : PV → En → Option En) (mt : EM Bool) (me : EM PV) : EM PV := fun ep et R => mi ep et fun ps src et1 => lcGo src (src.map (deref et1)) tg mt me (wipeE ep vs) ps et1 R
theorem lc_weak {mi : IM} {g : TG} {is vs : List Nat} {tgP : PV → En → Option En} {mt : EM Bool} {me : EM PV} (gk : GOk X.K X.mg is g tgP) (hsub : ∀ i ∈ is, i ∈ vs) :
    ∀ σ H Q, tI X.K X.mg (pN X.K X.mg) (mLc mi vs tgP mt me) σ H Q → tLc (tIt X.K X.mg mi) g (tT X.K X.mg mt) (tI X.K X.mg (pV X.K X.mg) me) vs σ H Q := fun σ H Q ⟨ep, et, W, R, c, s, e, q⟩ => by
  refine ⟨ep, et, W, _, c, s, e, fun ps src et0 r0 J H0 W0 x0 c0 wk => fun D hD => ?_⟩
  obtain ⟨Vi, hV0, hV⟩ := r0
  have s0 := s.ext c x0
  have sw := Slt.wipe s0 vs
  obtain ⟨x1, c1, r1⟩ := new_own c0 hD (VRs.nil (K := X.K) (mg := X.mg) (W := W0) (H := H0))
  refine ⟨fun i k H' => k = ps.length - i ∧ i ≤ ps.length ∧ ∃ acc us et' W', Cel X.K X.mg H' et' W' ∧ Ext NoO H0 et0 W0 H' et' W' ∧ H' D = some (.lst us) ∧ VRs X.K X.mg W' H' acc us ∧ ¬ W'.fz D ∧ ¬ Live et' W' D ∧ Vi i acc et',
    ⟨ps.length, by simp, Nat.zero_le _, [], [], et0, W0, c1, x1, upd_same, VRs.nil, fun z => c0.fzh D z hD, c0.not_live hD, hV0⟩, ?_⟩
  rintro i k H' ⟨rfl, hi, acc, us, et', W', c', x', hD', va, hf, hl, r'⟩
  have st0 : Stays NoO H0 et0 W0 := c0.stays0
  by_cases hlt : i < ps.length
  · obtain ⟨hsrc, r2, _⟩ := hV i acc et' r'
    obtain ⟨ep1, ht, r2⟩ := r2 ps[i] (List.getElem?_eq_getElem hlt)
    obtain ⟨go, yl⟩ := (wk _ H' et' W' x' st0 c' hsrc i).2 ps[i] (List.getElem?_eq_getElem hlt)
    refine .inr ⟨go, fun H' => ∃ acc us et' W', Cel X.K X.mg H' et' W' ∧ Ext NoO H0 et0 W0 H' et' W' ∧ H' D = some (.lst us) ∧ VRs X.K X.mg W' H' acc us ∧ ¬ W'.fz D ∧ ¬ Live et' W' D ∧ Vi (i + 1) acc et',
      fun H1 h => ⟨ps.length - (i + 1), by omega, rfl, hlt, h⟩, fun v H2 hy => ?_⟩
    obtain ⟨W2, x2, c2, v2⟩ := yl v H2 hy
    have x02 := x'.NoO_trans x2
    have swx : Slt X.K X.mg (L2.wipe σ vs) (wipeE ep vs) H2 et' W2 := sw.ext c0 x02
    -- the new list stands through a step
    have step : ∀ {Ha Hb : Hp} {ea eb : Hi} {Wa Wb : Wd} {us : List V} {acc : List PV}, Cel X.K X.mg Ha ea Wa → Ext NoO Ha ea Wa Hb eb Wb → Ha D = some (.lst us) → VRs X.K X.mg Wa Ha acc us → ¬ Wa.fz D → ¬ Live ea Wa D → Hb D = some (.lst us) ∧ VRs X.K X.mg Wb Hb acc us ∧ ¬ Wb.fz D ∧ ¬ Live eb Wb D :=
      fun {Ha Hb ea eb Wa Wb us acc} cc xx h1 h2 h3 h4 => ⟨xx.keep D _ h1 h4 id, VRs.ext xx cc.stays0 _ _ h2, fun z => by
        rcases xx.nfz D z with z | z | z
        · exact h3 z
        · rw [h1] at z; cases z
        · exact z, fun z => by
        rcases xx.live D z with z | z
        · exact h4 z
        · rw [h1] at z; cases z⟩
    obtain ⟨d2, va2, f2, l2⟩ := step c' x2 hD' va hf hl
    refine gk v ps[i] (L2.wipe σ vs) H2 (wipeE ep vs) ep1 et' W2 _ c2 swx v2 ht fun σ1 s1 _ k1 => ⟨?_, ?_⟩
    · rw [wipe_same (σ := L2.wipe σ vs) k1.1 fun j hj => k1.2 j fun z => hj (hsub j z), wipe_wipe]
    · refine ⟨ep1, et', W2, _, c2, s1, r2, fun b et3 r3 H3 W3 x3 c3 => ?_⟩
      obtain ⟨d3, va3, f3, l3⟩ := step c2 x3 d2 va2 f2 l2
      have x03 := x02.NoO_trans x3
      cases b with
      | false => exact ⟨acc, us, et3, W3, c3, x03, d3, va3, f3, l3, by simpa using r3⟩
      | true =>
        refine ⟨ep1, et3, W3, _, c3, s1.ext c2 x3, (by simpa using r3), fun y et4 r4 u H4 W4 x4 c4 p4 => ?_⟩
        obtain ⟨d4, va4, f4, l4⟩ := step c3 x4 d3 va3 f3 l3
        have x04 := x03.NoO_trans x4
        obtain ⟨c5, vr5, vrs5⟩ := priv_write (vs' := us ++ [u]) c4 d4 f4 l4
        refine ⟨us, d4, by rw [← va4.len]; exact r4.1, acc ++ [y], us ++ [u], et4, W4, c5, ⟨x04.fz, x04.nfz, x04.mu, x04.live, fun a o h h2 h3 => ?_, fun a h => ?_⟩, upd_same, VRs.append (vrs5 _ _ va4) (VRs.cons (vr5 _ _ p4) VRs.nil), f4, l4, r4.2⟩
        · rw [upd_ne (ne_of_none h hD)]; exact x04.keep a o h h2 h3
        · by_cases e : a = D
          · rw [e, upd_same]; simp
          · rw [upd_ne e]; exact x04.there a h
  · obtain ⟨hsrc, _, r2⟩ := hV i acc et' r'
    have r2 := r2 (by omega)
    refine .inl ⟨(wk _ H' et' W' x' st0 c' hsrc i).1 (by omega), ?_⟩
    exact q _ et' r2 _ H' W' (x0.NoO_trans x') c' ⟨D, rfl, x0.back hD, hf, hl, us, hD', va⟩
theorem sN_lc {elt iter : Expr} {ifs : List Expr} {scope : Scope} {own : List (Str × Nat)} {mi : IM} {g : TG} {is : List Nat} {tgP : PV → En → Option En} {mt : EM Bool} (gk : GOk X.K X.mg is g tgP) (hsub : ∀ i ∈ is, i ∈ own.map (·.2))
    (hc : X.calm = true) (hN : X.N.Nodup) (hi : SimI X tg iter mi) (ok : BlkOk X.N X.env.scope scope own)
    (hg : ∀ (s : Shared) (H : Hp) (C : Addr) (cl : List (Str × Addr)) (fp : List Addr), PG (X.blk s H scope (compEnvC scope cl C X.env) fp) tg g) (ht : ∀ (s : Shared) (H : Hp) (C : Addr) (cl : List (Str × Addr)) (fp : List Addr), PTs (X.blk s H scope (compEnvC scope cl C X.env) fp) ifs (tT X.K X.mg mt))
    (he : ∀ (s : Shared) (H : Hp) (C : Addr) (cl : List (Str × Addr)) (fp : List Addr), SimE (X.blk s H scope (compEnvC scope cl C X.env) fp) elt me) (hs : ∀ x, foldedSetIterable iter X.env x = pure x := by intro _; rfl) :
    SimN X (.ListComp elt [⟨tg, iter, ifs, 0⟩] scope pos) (mLc mi (own.map (·.2)) tgP mt me) := weakE (pe_lc hc hN hi ok hg ht he hs) (lc_weak gk hsub)
theorem pts_yes {Y : Cx} : PTs Y [] (tT Y.K Y.mg mYes) := ⟨fun pins s σ H Q I ⟨ep, et, W, R, c, s', e, q⟩ => pts_nil.run pins s σ H Q I (q true et e H W (Ext.refl ..) c)⟩
end
end Mw
namespace Mw
open PySem PySem.Spec L2
abbrev XM := En → Hi → (PV → En → Hi → Prop) → Prop
section
variable (K : PySem.W.Frag) (mg : Str → Option Value)
def tX (m : XM) : TE := fun sg H Q => ∃ ep et W R, Cel K mg H et W ∧ Slt K mg sg ep H et W ∧ m ep et R ∧
  ∀ a ep' et', R a ep' et' → ∀ v H' W', Ext (Own ep sg) H et W H' et' W' → Cel K mg H' et' W' → Slt K mg sg ep' H' et' W' → (∀ b, Own ep' sg b → Own ep sg b) → VR K mg W' H' a v → Q v H'
end
abbrev SimX (X : Cx) (e : Expr) (m : XM) : Prop := PE X e (tX X.K X.mg m)
section
variable {X : Cx} {e : Expr} {m : XM} {pos : Pos}
def mExprX (m : XM) : SM := fun ep et R => m ep et fun _ ep1 et1 => R .nx ep1 et1
theorem s_exprX (h : SimX X e m) (hs : swapsWith e none pos.line X.env = pure false := by rfl) : SimS X (.Expr e pos) (mExprX m) := weakS (ps_expr h hs) fun D σ H ⟨ep, et, W, R, c, s, e, q⟩ =>
  ⟨ep, et, W, _, c, s, e, fun p ep1 et1 r1 v H1 W1 x1 c1 s1 o1 p1 => q .nx ep1 et1 r1 σ H1 W1 x1 c1 s1 fun a h => .inl (o1 a h)⟩
def mSetX (i : Nat) (m : XM) : SM := fun ep et R => m ep et fun p ep1 et1 => R .nx (ep1.set i (.val p)) et1
end
def MutOk (K : PySem.W.Frag) (mg : Str → Option Value) (r : V → List V → Hp → VK → Prop) (g : (PV → PV) → PV → List PV → Option (PV × PV)) : Prop :=
  ∀ (a : Addr) (p p' z : PV) (o : HO) (args : List PV) (xs : List V) (H : Hp) (et : Hi) (W : Wd) (Q : VK), Cel K mg H et W → H a = some o → Cont K mg W H p o → VRs K mg W H args xs → g (deref et) p args = some (p', z) →
    (∀ o' v, Cont K mg W H p' o' → VR K mg W H z v → Q v (upd H a o')) → r (.ref a) xs H Q
def isLst : PV → Bool
  | .lst _ => true
  | _ => false
theorem Cont.lst {K : PySem.W.Frag} {mg : Str → Option Value} {W : Wd} {H : Hp} {p : PV} {o : HO} (h : Cont K mg W H p o) (e : isLst p = true) : ∃ xs vs, p = .lst xs ∧ o = .lst vs ∧ VRs K mg W H xs vs := by
  unfold Cont at h
  split at h
  · exact ⟨_, _, rfl, rfl, h⟩
  · cases e
  · cases h
def mMut (i : Nat) (g : (PV → PV) → PV → List PV → Option (PV × PV)) (ms : EM (List PV)) : XM := fun ep et R => match ep[i]? with
  | some (.own p) => isLst p = true ∧ ms ep et fun as et1 => ∃ p' z, g (deref et1) p as = some (p', z) ∧ R z (ep.set i (.own p')) et1
  | some (.val (.ref n)) => isLst (deref et (.ref n)) = true ∧ ms ep et fun as et1 => ∃ p' z c, g (deref et1) (deref et1 (.ref n)) as = some (p', z) ∧ isLst (deref et1 (.ref n)) = true ∧ cellP p' = some c ∧ R z ep (et1.set n c)
  | _ => False
section
variable {X : Cx} {x name : Str} {apos cpos p0 : Pos} {e : Expr} {es : List Expr} {ms : EM (List PV)} {id : String} {r : V → List V → Hp → VK → Prop} {g : (PV → PV) → PV → List PV → Option (PV × PV)} {i : Nat}
theorem Cont.cell {K : PySem.W.Frag} {mg : Str → Option Value} {W : Wd} {H H1 : Hp} {p : PV} {o : HO} {c : Cell} {a : Addr} (h : Cont K mg W H p o) (e : cellP p = some c) (k : ∀ ps vs, VRs K mg W H ps vs → VRs K mg W H1 ps vs) (k' : ∀ ps vs, VRk K mg W H ps vs → VRk K mg W H1 ps vs) (ha : H1 a = some o) : CellOk K mg W H1 c a := by
  unfold Cont at h
  split at h
  · cases e; exact ⟨_, ha, k _ _ h⟩
  · cases e; exact ⟨_, ha, k' _ _ h⟩
  · cases h
theorem deref_cell {et : Hi} {n : Nat} (h : isLst (deref et (.ref n)) = true) : ∃ xs, et[n]? = some (.lst xs) ∧ deref et (.ref n) = .lst xs := by
  unfold deref at h ⊢
  cases q : et[n]? with
  | none => simp only [q] at h; cases h
  | some d =>
    cases d with
    | lst xs => exact ⟨xs, rfl, by simp only [q]⟩
    | dic xs => simp only [q] at h; cases h
    | dead => simp only [q] at h; cases h
    | potO _ _ => simp only [q] at h; cases h
    | potI => simp only [q] at h; cases h
    | inv _ => simp only [q] at h; cases h
    | nd _ => simp only [q] at h; cases h
    | exc _ _ => simp only [q] at h; cases h
    | ins _ _ => simp only [q] at h; cases h
theorem mut_fin (hg : MutOk X.K X.mg r g) {σ : L2.St} {H : Hp} {Q : VK} {ep : En} {et : Hi} {W : Wd} {R : PV → En → Hi → Prop} (c : Cel X.K X.mg H et W) (s : Slt X.K X.mg σ ep H et W)
    (hm : mMut i g ms ep et R) (q : ∀ a ep' et', R a ep' et' → ∀ v H' W', Ext (Own ep σ) H et W H' et' W' → Cel X.K X.mg H' et' W' → Slt X.K X.mg σ ep' H' et' W' → (∀ b, Own ep' σ b → Own ep σ b) → VR X.K X.mg W' H' a v → Q v H') :
    ∃ v, σ[i]? = some (some v) ∧ tyV X.K "list" v H ∧ ∃ R', ms ep et R' ∧ ∀ as et1, R' as et1 → ∀ vs H1 W1, Ext NoO H et W H1 et1 W1 → Cel X.K X.mg H1 et1 W1 → VRs X.K X.mg W1 H1 as vs → r v vs H1 Q := by
  unfold mMut at hm
  split at hm
  · rename_i p hp
    obtain ⟨hl, hm⟩ := hm
    have hlt : i < σ.length := by rw [← s.len]; exact (List.getElem?_eq_some_iff.mp hp).1
    obtain ⟨a, ev, hv⟩ := s.ok i _ _ hp (List.getElem?_eq_getElem hlt)
    have hσ : σ[i]? = some (some (.ref a)) := by rw [List.getElem?_eq_getElem hlt, ev]
    refine ⟨.ref a, hσ, ?_, _, hm, fun as et1 r1 vs H1 W1 x1 c1 p1 => ?_⟩
    · unfold OwnAt at hv
      split at hv
      · obtain ⟨ws, h1, _⟩ := hv; exact .inl ⟨rfl, ws, SqL.of h1⟩
      · cases hl
      · cases hv
    · obtain ⟨p', z, h1, r2⟩ := r1
      have s1 := s.ext c x1
      obtain ⟨a', ev', hv1⟩ := s1.ok i _ _ hp hσ
      cases ev'
      obtain ⟨o, ho, hc⟩ : ∃ o, H1 a = some o ∧ Cont X.K X.mg W1 H1 p o := by
        unfold OwnAt at hv1
        split at hv1
        · obtain ⟨ws, h1, h2⟩ := hv1; exact ⟨_, h1, h2⟩
        · obtain ⟨ws, h1, h2⟩ := hv1; exact ⟨_, h1, h2⟩
        · cases hv1
      refine hg a p p' z o as vs H1 et1 W1 Q c1 ho hc p1 h1 fun o' v hc' hv' => ?_
      obtain ⟨x2, c2, s2, o2, vr2⟩ := own_write c1 s1 hp hσ hc'
      exact q z _ et1 r2 v _ W1 (x1.pre x2) c2 s2 o2 (vr2 _ _ hv')
  · rename_i n hp
    obtain ⟨hl, hm⟩ := hm
    have hlt : i < σ.length := by rw [← s.len]; exact (List.getElem?_eq_some_iff.mp hp).1
    obtain ⟨v, ev, hv⟩ := s.ok i _ _ hp (List.getElem?_eq_getElem hlt)
    have hσ : σ[i]? = some (some v) := by rw [List.getElem?_eq_getElem hlt, ev]
    obtain ⟨xs, hn, hd⟩ := deref_cell hl
    obtain ⟨a, ws, rfl, k1, k2⟩ := Pk.lst c (.inl hv) hd
    have hma : W.mu[n]? = some a := by unfold VR at hv; obtain ⟨b, e, h⟩ := hv; cases e; exact h
    refine ⟨.ref a, hσ, .inl ⟨rfl, ws, SqL.of k1⟩, _, hm, fun as et1 r1 vs H1 W1 x1 c1 p1 => ?_⟩
    obtain ⟨p', z, cc, h1, h2, h3, r2⟩ := r1
    obtain ⟨xs1, hn1, hd1⟩ := deref_cell h2
    have hv1 := VR.ext x1 c.stays0 _ _ hv
    obtain ⟨a', ws1, ea, k3, k4⟩ := Pk.lst c1 (.inl hv1) hd1
    cases ea
    rw [hd1] at h1
    refine hg a _ p' z _ as vs H1 et1 W1 Q c1 k3 (show Cont X.K X.mg W1 H1 (.lst xs1) (.lst ws1) from k4) p1 h1 fun o' v hc' hv' => ?_
    obtain ⟨x2, c2, vr2⟩ := cell_write (d' := cc) (o := o') c1 hn1 (by simp) (by
      cases p' <;> first | (cases h3; done) | (cases h3; simp)) (x1.mu_get hma) fun H2 et2 xx ha => hc'.cell h3 (fun ps vs h => VRs.ext xx c1.stays0 _ _ h) (fun ps vs h => VRk.ext xx c1.stays0 _ _ h) ha
    exact q z ep _ r2 v _ W1 (Ext.to (x1.NoO_trans x2)) c2 ((s.ext c x1).ext c1 x2) (fun _ h => h) (vr2 _ _ hv')
  · cases hm
theorem sX_mut (slot : PySem.Slot "list" name id) (hty : typeOf (.builtin id) = pure (.type "method_descriptor")) (hm : MtR X id r) (hg : MutOk X.K X.mg r g) (ho : PE X (.Name x p0) (tVar i)) (ha : SimA X (e :: es) ms)
    (h : ∀ {to : TE} {t : TA}, PE X (.Name x p0) to → PA X (e :: es) t → PE X (.Call (.Attribute (.Name x p0) name apos) (e :: es) [] cpos) (tBM X.K "list" r to t)) :
    SimX X (.Call (.Attribute (.Name x p0) name apos) (e :: es) [] cpos) (mMut i g ms) := weakE (h ho ha) fun σ H Q ⟨ep, et, W, R, c, s, e, q⟩ => by
  obtain ⟨v, h1, h2, R', h3, h4⟩ := mut_fin hg c s e q
  exact ⟨v, h1, h2, ep, et, W, R', c, s, h3, h4⟩
end
section
variable {K : PySem.W.Frag} {mg : Str → Option Value}
def gmAppend (_ : PV → PV) : PV → List PV → Option (PV × PV)
  | .lst xs, [y] => if xs.length < sizeLine then some (.lst (xs ++ [y]), .non) else none
  | _, _ => none
def gmExtend (d : PV → PV) : PV → List PV → Option (PV × PV)
  | .lst xs, [y] => match d y with
    | .lst ys => if xs.length + ys.length ≤ sizeLine then some (.lst (xs ++ ys), .non) else none
    | _ => none
  | _, _ => none
def gmPopAt (_ : PV → PV) : PV → List PV → Option (PV × PV)
  | .lst xs, [.int i] => if -(2 ^ 63) ≤ i ∧ i < 2 ^ 63 then (ixN xs.length i).bind fun k => xs[k]?.map fun y => (.lst (xs.eraseIdx k), y) else none
  | _, _ => none
theorem mo_append : MutOk K mg rAppend gmAppend := by
  intro a p p' z o args xs H et W Q c ho hc va h k
  unfold gmAppend at h
  split at h
  · rename_i ys y
    split at h
    · rename_i hl
      cases h
      obtain ⟨_, vs, e, rfl, h2⟩ := hc.lst rfl
      cases e
      unfold VRs at va
      obtain ⟨v, r, rfl, h3, h4⟩ := va
      unfold VRs at h4; subst h4
      exact ⟨a, vs, v, rfl, rfl, ho, by rw [← h2.len]; exact hl, k (.lst (vs ++ [v])) .non (VRs.append h2 (VRs.cons h3 VRs.nil)) VR.non⟩
    · cases h
  · cases h
theorem mo_extend : MutOk K mg rExtend gmExtend := by
  intro a p p' z o args xs H et W Q c ho hc va h k
  unfold gmExtend at h
  split at h
  · rename_i ys y
    split at h
    · rename_i zs hz
      split at h
      · rename_i hl
        cases h
        obtain ⟨_, vs, e, rfl, h2⟩ := hc.lst rfl
        cases e
        unfold VRs at va
        obtain ⟨v, r, rfl, h3, h4⟩ := va
        unfold VRs at h4; subst h4
        obtain ⟨b, ws, rfl, h5, h6⟩ := Pk.lst c (.inl h3) hz
        exact ⟨a, b, vs, ws, rfl, rfl, ho, h5, by rw [← h2.len, ← h6.len]; exact hl, k (.lst (vs ++ ws)) .non (VRs.append h2 h6) VR.non⟩
      · cases h
    · cases h
  · cases h
theorem VRs.dropLast {W : Wd} {H : Hp} {ps : List PV} {vs : List V} (h : VRs K mg W H ps vs) : VRs K mg W H ps.dropLast vs.dropLast := by
  rw [List.dropLast_eq_take, List.dropLast_eq_take, h.len]; exact VRs.take _ h
end
abbrev FSpec := List PV → Hi → (PV → Hi → Prop) → Prop
def FS (K : PySem.W.Frag) (mg : Str → Option Value) (n : Nat) (sp : FSpec) : Sp := fun vs H Q _ => vs.length = n ∧ ∃ et W args R, Cel K mg H et W ∧ VRs K mg W H args vs ∧ sp args et R ∧
  ∀ p et', R p et' → ∀ v H' W', Ext NoO H et W H' et' W' → Cel K mg H' et' W' → VR K mg W' H' p v → Q v H'
def mCall (n : Nat) (sp : FSpec) (ms : EM (List PV)) : EM PV := fun ep et R => ms ep et fun as et1 => as.length = n ∧ sp as et1 R
section
variable {X : Cx} {k n : Nat} {f : Addr} {fd : FuncData} {ps : List Str} {sp : FSpec} {x : Str} {p pos : Pos} {e : Expr} {es : List Expr} {ms : EM (List PV)}
theorem sE_call (F : FnOk X.prog X.w X.K X.mg X.base CX0 k f fd ps (FS X.K X.mg n sp)) (hr : Room k X.A) (hg : Gl X x) (hm : X.mg x = some (.ref f)) (hk : PySem.W.keepIn X.K (.ref f) = true) (hb : Binds X.K fd ps [])
    (ha : SimA X (e :: es) ms) (hdb : (x == ("__debug__" : Str)) = false := by decide) (he : starEach (e :: es) X.env = (false, eval e X.env) :: starEach es X.env := by rfl) (hpl : (backTo pos (starEach es X.env)).any (·.1) = false := by rfl) :
    SimE X (.Call (.Name x p) (e :: es) [] pos) (mCall n sp ms) := weakE (pe_call F hr hg hm hk hb .nil pass0 ha hdb he hpl) fun σ H Q ⟨ep, et, W, R, c, s, e, q⟩ => by
  refine ⟨ep, et, W, _, c, s, e, fun as et1 r1 vs H1 W1 x1 c1 p1 => ?_⟩
  refine ⟨by rw [List.append_nil, ← p1.len]; exact r1.1, et1, W1, as, _, c1, by rw [List.append_nil]; exact p1, r1.2, fun p et2 r2 v H2 W2 x2 c2 p2 => ?_⟩
  exact q p et2 r2 v H2 W2 (x1.NoO_trans x2) c2 p2
def retK (R : PV → Hi → Prop) : Fl → En → Hi → Prop
  | .rt p, _, et => R p et
  | .nx, _, et => R .non et
  | _, _, _ => False
def env0 (N : List Str) (args : List PV) : En := args.map Slot.val ++ List.replicate (N.length - args.length) Slot.no
theorem slt0 {K : PySem.W.Frag} {mg : Str → Option Value} {H : Hp} {et : Hi} {W : Wd} {N : List Str} {args : List PV} {vs : List V} (h : VRs K mg W H args vs) : Slt K mg (L2.start N vs) (env0 N args) H et W := by
  have hl := h.len
  have noOwn : ∀ (i : Nat) (p : PV), (env0 N args)[i]? ≠ some (.own p) := fun i p e => by
    unfold env0 at e
    by_cases hi : i < args.length
    · rw [List.getElem?_append_left (by simpa using hi), List.getElem?_map, List.getElem?_eq_getElem hi] at e; cases e
    · rw [List.getElem?_append_right (by simpa using hi), List.getElem?_replicate] at e
      split at e <;> cases e
  refine ⟨?_, fun i s o e1 e2 => ?_, fun i j p q a e1 => absurd e1 (noOwn i p), fun a ⟨i, p, e, _⟩ => absurd e (noOwn i p), fun a ⟨i, p, e, _⟩ => absurd e (noOwn i p)⟩
  · unfold env0 L2.start
    simp only [List.length_append, List.length_map, List.length_replicate, hl]
  · unfold env0 at e1
    unfold L2.start at e2
    by_cases hi : i < args.length
    · rw [List.getElem?_append_left (by simpa using hi), List.getElem?_map, List.getElem?_eq_getElem hi] at e1
      cases e1
      obtain ⟨v, h1, h2⟩ := VRs.get h (List.getElem?_eq_getElem hi)
      rw [List.getElem?_append_left (by rw [List.length_map, ← hl]; exact hi), List.getElem?_map, h1] at e2
      cases e2
      exact ⟨v, rfl, h2⟩
    · rw [List.getElem?_append_right (by simpa using hi), List.getElem?_replicate] at e1
      split at e1
      · cases e1; trivial
      · cases e1
theorem fn_ok {P : Program} {w : World} {K : PySem.W.Frag} {mg : Str → Option Value} {base : Heap} {x qual : Str} {st : Stmt} {f : Addr} {fd : FuncData} {N ps : List Str} {k : Nat} {sp : FSpec} {m : SM} (F : Fun K x qual st f fd) (S : FnScope N ps (defScope st))
    (body : ∀ (cdv : Value) (A : Around) (outer : List Env) (s : Shared) (H : Hp) (E : XK), Room k (A.deeper (PyProof.Rows.envOfC qual (defScope st) s.heap.objs.size f cdv)) → SimSs (cxOf CX0 P w K mg base N qual (defScope st) f cdv A outer s H E).nox (defBody st) m)
    (h : ∀ args et R, sp args et R → m (env0 N args) et (retK R)) : FnOk P w K mg base CX0 (k + 1) f fd ps (FS K mg ps.length sp) := by
  refine F.ok S (fun vs H Q E q => q.1) fun cdv A outer s H vs Q E hr q => ⟨_, body cdv A outer s H E hr, ?_⟩
  obtain ⟨_, et, W, args, R, c, va, hs, q⟩ := q
  refine ⟨env0 N args, et, W, retK R, c, slt0 va, h args et R hs, fun fl ep' et' r σ' H' W' x' c' => ?_⟩
  have noOwn : ∀ a, ¬ Own (env0 N args) (L2.start N vs) a := fun a ⟨i, p, e, _⟩ => by
    unfold env0 at e
    by_cases hi : i < args.length
    · rw [List.getElem?_append_left (by simpa using hi), List.getElem?_map, List.getElem?_eq_getElem hi] at e; cases e
    · rw [List.getElem?_append_right (by simpa using hi), List.getElem?_replicate] at e
      split at e <;> cases e
  have x1 : Ext NoO H et W H' et' W' := x'.mono fun a h => absurd h (noOwn a)
  cases fl with
  | nx => exact fun _ _ => q .non et' r .non H' W' x1 c' VR.non
  | bk => exact r.elim
  | ct => exact r.elim
  | rt p => exact fun v hv => q p et' r v H' W' x1 c' hv
end
end Mw
namespace Mw
open PySem PySem.Spec L2
section
variable {K : PySem.W.Frag} {mg : Str → Option Value} {H : Hp} {et : Hi} {W : Wd}
def mShare (m : EM PV) : EM PV := fun ep et R => m ep et fun p et1 => ∃ c, cellP p = some c ∧ R (.ref et1.length) (et1 ++ [c])
abbrev Wd.shr (W : Wd) (a : Addr) : Wd := ⟨W.fz, W.mu ++ [a]⟩
theorem Cel.share (c : Cel K mg H et W) {a : Addr} {p : PV} {d : Cell} (hf : ¬ W.fz a) (hl : ¬ Live et W a) (ho : OwnAt K mg W H p a) (hd : cellP p = some d) :
    Cel K mg H (et ++ [d]) (W.shr a) ∧ (∀ b, Live (et ++ [d]) (W.shr a) b → Live et W b ∨ b = a) ∧ VR K mg (W.shr a) H (.ref et.length) (.ref a) ∧ (∀ q v, VR K mg W H q v → VR K mg (W.shr a) H q v) := by
  have hlen := c.len
  have x0 : Ext NoO H et W H et (W.shr a) := ⟨fun _ h => h, fun _ h => .inl h, ⟨[a], rfl⟩, fun b ⟨i, e, g1, g2, g3⟩ => by
    have g3' : (W.mu ++ [a])[i]? = some b := g3
    have : i < et.length := (List.getElem?_eq_some_iff.mp g1).1
    rw [List.getElem?_append_left (by omega)] at g3'
    exact .inl ⟨i, e, g1, g2, g3'⟩, fun _ _ h _ _ => h, fun _ h => h⟩
  have low : ∀ {k : Nat} {u : Cell} {b : Addr}, (et ++ [d])[k]? = some u → (W.mu ++ [a])[k]? = some b → (k < et.length ∧ et[k]? = some u ∧ W.mu[k]? = some b) ∨ (k = et.length ∧ u = d ∧ b = a) := fun {k u b} g1 g3 => by
    by_cases hk : k < et.length
    · rw [List.getElem?_append_left hk] at g1
      rw [List.getElem?_append_left (by omega)] at g3
      exact .inl ⟨hk, g1, g3⟩
    · have hk2 : k = et.length := by
        have := (List.getElem?_eq_some_iff.mp g1).1
        rw [List.length_append, List.length_singleton] at this
        omega
      subst hk2
      rw [List.getElem?_append_right (Nat.le_refl _)] at g1
      rw [hlen, List.getElem?_append_right (Nat.le_refl _)] at g3
      simp at g1 g3
      exact .inr ⟨rfl, g1.symm, g3.symm⟩
  have hlv : ∀ b, Live (et ++ [d]) (W.shr a) b → Live et W b ∨ b = a := fun b ⟨j, u, h1, h2, h3⟩ => by
    rcases low h1 h3 with ⟨_, a2, a3⟩ | ⟨_, _, e⟩
    · exact .inl ⟨j, u, a2, h2, a3⟩
    · exact .inr e
  refine ⟨⟨by show (et ++ [d]).length = (W.mu ++ [a]).length; simp [hlen], fun j u b h1 h2 => ?_, fun i j u w b h1 h2 h3 h4 h5 h6 => ?_, fun b h z => ?_, c.fzh⟩, hlv, ?_, fun q v h => VR.ext x0 c.stays0 q v h⟩
  · rcases low h1 h2 with ⟨_, a2, a3⟩ | ⟨_, rfl, rfl⟩
    · exact CellOk.ext x0 c.stays0 (c.ok j u b a2 a3) fun _ => rfl
    · unfold OwnAt at ho
      split at ho
      · cases hd; obtain ⟨vs, k1, k2⟩ := ho; exact ⟨vs, k1, VRs.ext x0 c.stays0 _ _ k2⟩
      · cases hd; obtain ⟨vs, k1, k2⟩ := ho; exact ⟨vs, k1, VRk.ext x0 c.stays0 _ _ k2⟩
      · cases ho
  · rcases low h1 h5 with ⟨a1, a2, a3⟩ | ⟨a1, _, a4⟩
    · rcases low h2 h6 with ⟨b1, b2, b3⟩ | ⟨b1, _, b4⟩
      · exact c.inj i j u w b a2 b2 h3 h4 a3 b3
      · subst b4; exact absurd ⟨i, u, a2, h3, a3⟩ hl
    · rcases low h2 h6 with ⟨b1, b2, b3⟩ | ⟨b1, _, b4⟩
      · subst a4; exact absurd ⟨j, w, b2, h4, b3⟩ hl
      · omega
  · rcases hlv b z with z | rfl
    · exact c.fzl b h z
    · exact hf h
  · unfold VR
    exact ⟨a, rfl, by show (W.mu ++ [a])[et.length]? = some a; rw [hlen]; simp⟩
end
section
variable {X : Cx} {e o i : Expr} {es : List Expr} {me mo mi : EM PV} {ms : EM (List PV)} {pos : Pos}
theorem sE_share (h : SimN X e me) : SimE X e (mShare me) := weakE h fun σ H Q ⟨ep, et, W, R, c, s, e, q⟩ => ⟨ep, et, W, _, c, s, e, fun p et1 r1 v H1 W1 x1 c1 p1 => by
  obtain ⟨d, hd, r2⟩ := r1
  obtain ⟨a, rfl, h0, hf, hl, ho⟩ := p1
  obtain ⟨c2, hlv, vr, _⟩ := c1.share hf hl ho hd
  refine q _ _ r2 _ H1 (W1.shr a) ⟨x1.fz, x1.nfz, ?_, fun b hb => ?_, x1.keep, x1.there⟩ c2 vr
  · obtain ⟨m, hm⟩ := x1.mu
    exact ⟨m ++ [a], by show W1.mu ++ [a] = _; rw [hm, List.append_assoc]⟩
  · rcases hlv b hb with z | rfl
    · exact x1.live b z
    · exact .inr h0⟩
def mMutR (g : (PV → PV) → PV → List PV → Option (PV × PV)) (mo : EM PV) (ms : EM (List PV)) : EM PV := fun ep et R => mo ep et fun q et1 => ∃ n, q = .ref n ∧ isLst (deref et1 (.ref n)) = true ∧ ms ep et1 fun as et2 =>
  ∃ p' z c, g (deref et2) (deref et2 (.ref n)) as = some (p', z) ∧ isLst (deref et2 (.ref n)) = true ∧ cellP p' = some c ∧ R z (et2.set n c)
section
variable {name : Str} {apos cpos : Pos} {id : String} {r : V → List V → Hp → VK → Prop} {g : (PV → PV) → PV → List PV → Option (PV × PV)}
end
def mSubSet (me mo mi : EM PV) : SM := fun ep et R => me ep et fun v et1 => mo ep et1 fun q et2 => mi ep et2 fun k et3 => ∃ n xs i j, q = .ref n ∧ et3[n]? = some (.lst xs) ∧ k = .int i ∧ ixN xs.length i = some j ∧ R .nx ep (et3.set n (.lst (xs.set j v)))
theorem s_subSet {p2 : Pos} (he : SimE X e me) (ho : SimE X o mo) (hi : SimE X i mi)
    (h : ∀ {te to ti : TE}, PE X e te → PE X o to → PE X i ti → PS X (.Assign [.Subscript o i p2] e pos) (tAsg te (L2.gSub to ti rSetL))) : SimS X (.Assign [.Subscript o i p2] e pos) (mSubSet me mo mi) :=
  weakS (h he ho hi) fun D σ H ⟨ep, et, W, R, c, s, e, q⟩ => by
  refine ⟨ep, et, W, _, c, s, e, fun p et1 r1 v H1 W1 x1 c1 p1 => ⟨ep, et1, W1, _, c1, s.ext c x1, r1, fun p' et2 r2 u H2 W2 x2 c2 p2 => ⟨ep, et2, W2, _, c2, s.ext c (x1.NoO_trans x2), r2, fun p3 et3 r3 w H3 W3 x3 c3 p4 => ?_⟩⟩⟩
  obtain ⟨n, xs, i, j, rfl, hn, rfl, hj, r4⟩ := r3
  have v3 : VR X.K X.mg W3 H3 p v := VR.ext (x2.NoO_trans x3) c1.stays0 _ _ p1
  have u3 : VR X.K X.mg W3 H3 (.ref n) u := VR.ext x3 c2.stays0 _ _ p2
  have w3 : VR X.K X.mg W3 H3 (.int i) w := p4
  unfold VR at u3 w3
  subst w3
  obtain ⟨a, rfl, hm⟩ := u3
  obtain ⟨ws, k1, k2⟩ := c3.ok n _ a hn hm
  refine ⟨a, ws, i, j, rfl, rfl, k1, by rw [← k2.len]; exact hj, ?_⟩
  have x13 := (x1.NoO_trans x2).NoO_trans x3
  obtain ⟨x4, c4, vr4⟩ := cell_write (d' := .lst (xs.set j p)) (o := .lst (ws.set j v)) c3 hn (by simp) (by simp) hm fun H4 et4 xx ha => ⟨_, ha, VRs.ext xx c3.stays0 _ _ (VRs.set j k2 v3)⟩
  exact q .nx ep _ r4 σ _ W3 (Ext.to (x13.NoO_trans x4)) c4 ((s.ext c x13).ext c3 x4) fun a h => .inl h
end
end Mw
namespace Mw
open PySem PySem.Spec L2
section
variable {X : Cx} {m : EM PV} {e : Expr} {pos : Pos}
theorem tN_of_tE {K : PySem.W.Frag} {mg : Str → Option Value} : ∀ σ H Q, tI K mg (pV K mg) m σ H Q → tI K mg (pN K mg) m σ H Q := fun σ H Q ⟨ep, et, W, R, c, s, e, q⟩ => ⟨ep, et, W, R, c, s, e, fun a et' r v H' W' x c' p => by
  obtain ⟨b, e1, h0, hf, h2, h3⟩ := p
  obtain ⟨c2, _, r2⟩ := c'.freeze h2 hf h3
  subst e1
  refine q a et' r _ H' (W'.add b) ⟨fun a h => .inl (x.fz a h), fun a h => ?_, x.mu, x.live, x.keep, x.there⟩ c2 r2
  rcases h with h | h
  · exact x.nfz a h
  · exact .inr (.inl (h ▸ h0))⟩
theorem s_setLcE {i : Nat} {y : Str} {py spos : Pos} {tg elt iter : Expr} {me : EM PV} {ifs : List Expr} {scope : Scope} {own : List (Str × Nat)} {mi : IM} {g : TG} {is : List Nat} {tgP : PV → En → Option En} {mt : EM Bool} (gk : GOk X.K X.mg is g tgP) (hsub : ∀ i ∈ is, i ∈ own.map (·.2))
    (hc : X.calm = true) (hN : X.N.Nodup) (hy : X.N[i]? = some y) (hyl : X.env.scope.names.lookup y = some .local)
    (hsw : swapsWith (.ListComp elt [⟨tg, iter, ifs, 0⟩] scope pos) (some (.Name y py)) spos.line X.env = pure true) (hi : SimI X tg iter mi) (ok : BlkOk X.N X.env.scope scope own)
    (hg : ∀ (s : Shared) (H : Hp) (C : Addr) (cl : List (Str × Addr)) (fp : List Addr), PG (X.blk s H scope (compEnvC scope cl C X.env) fp) tg g) (ht : ∀ (s : Shared) (H : Hp) (C : Addr) (cl : List (Str × Addr)) (fp : List Addr), PTs (X.blk s H scope (compEnvC scope cl C X.env) fp) ifs (tT X.K X.mg mt))
    (he : ∀ (s : Shared) (H : Hp) (C : Addr) (cl : List (Str × Addr)) (fp : List Addr), SimE (X.blk s H scope (compEnvC scope cl C X.env) fp) elt me) (hs : ∀ x, foldedSetIterable iter X.env x = pure x := by intro _; rfl) :
    SimS X (.Assign [.Name y py] (.ListComp elt [⟨tg, iter, ifs, 0⟩] scope pos) spos) (mSet i (mLc mi (own.map (·.2)) tgP mt me)) :=
  weakS (ps_setLc hc hN hy hyl hsw hi ok hg ht he hs) fun D σ H h => lc_weak gk hsub σ H _ (tN_of_tE σ H _ (set_weak D σ H h))
theorem pts_if {Y : Cx} {c : Expr} {t : EM Bool} (h : SimT Y c t) : PTs Y [c] (tT Y.K Y.mg t) := pts_one h
def gSlA (p : PV) (lo hi : Option Int) : Option PV := match p with
  | .tup xs => some (.tup (cutP xs lo hi))
  | .str x => if x.length ≤ sizeLine then some (.str (cutS x lo hi)) else none
  | .lst xs => some (.lst (cutP xs lo hi))
  | .scr xs => some (.lst ((cutP xs lo hi).map .int))
  | _ => none
def rSlAll (K : PySem.W.Frag) : V → Option Int → Option Int → Hp → VK → Prop := fun x lo hi H Q => rSlTS K x lo hi H Q ∨ rSlL K x lo hi H Q
theorem oS_all {K : PySem.W.Frag} {mg : Str → Option Value} : OpSl K mg (rSlAll K) gSlA (pV K mg) := by
  intro x lo hi H et W p z Q c hp hz k
  cases q : deref et p with
  | lst xs =>
    rw [q] at hz; cases hz
    obtain ⟨a, vs, rfl, h1, h2⟩ := hp.lst c q
    refine .inr ⟨a, vs, rfl, SqL.of h1, fun t ht => ?_⟩
    obtain ⟨x1, c1, r1⟩ := new_lst c ht (h2.cut lo hi)
    exact k _ _ _ x1 c1 r1
  | scr xs =>
    rw [q] at hz; cases hz
    obtain ⟨a, rfl, h1⟩ := hp.scr q
    refine .inr ⟨a, _, rfl, h1.sq, fun t ht => ?_⟩
    rw [cutV_map]
    obtain ⟨x1, c1, r1⟩ := new_lst c ht (VRs.ints (cutP xs lo hi))
    exact k _ _ _ x1 c1 r1
  | tup xs => exact .inl (oS_ts x lo hi H et W p z Q c hp (by rw [q] at hz ⊢; exact hz) k)
  | str xs => exact .inl (oS_ts x lo hi H et W p z Q c hp (by rw [q] at hz ⊢; exact hz) k)
  | _ => rw [q] at hz; cases hz
theorem sE_slA {a : Expr} {lo hi : Option Expr} {p2 pos : Pos} {ma : EM PV} {ml mh : EM (Option Int)} (ha : SimP X a ma) (hl : SimO X lo ml) (hh : SimO X hi mh) : SimE X (.Subscript a (.Slice lo hi none p2) pos) (mSl gSlA ma ml mh) :=
  sl_weak early_V ((sl_tupX.or sl_str).or sl_list) oS_all ha hl hh
end
theorem _root_.L2.Room.h64 {k : Nat} {A : Around} (r : Room k A) : A.units + 64 < cLine := by have := r.un; omega
theorem _root_.L2.Room.h1 {k : Nat} {A : Around} (r : Room k A) : A.units + 1 < cLine := by have := r.un; omega
theorem two_par {X : Cx} {i j : Nat} {x y : Str} {a b : Expr} {px py pt pos : Pos} {kt k2 pt2} (hc : X.calm = true) (hN : X.N.Nodup) (hi : X.N[i]? = some x) (hj : X.N[j]? = some y) (hij : i ≠ j)
    (h : ∀ {ta : TA}, PA X [a, b] ta → PS X (.Assign [.Tuple [.Name x px, .Name y py] kt pt] (.Tuple [a, b] k2 pt2) pos) (tPar i j ta)) {ms : EM (List PV)} (ha : SimA X [a, b] ms) :
    SimS X (.Assign [.Tuple [.Name x px, .Name y py] kt pt] (.Tuple [a, b] k2 pt2) pos) (mPar i j ms) := s_par hc hN hi hj hij ha h
end Mw
namespace Mw
open PySem PySem.Spec L2
structure Glob (K : PySem.W.Frag) (mg : Str → Option Value) (x : Str) (p : PV) : Prop where
  at_ : ∃ u v, mg x = some u ∧ RelV v u ∧ ∀ W H, VR K mg W H p v
theorem Glob.e {X : Cx} {x : Str} {p : PV} {pos : Pos} (g : Glob X.K X.mg x p) (hg : Gl X x) (hd : (x == ("__debug__" : Str)) = false := by decide) : SimE X (.Name x pos) (mC p) := by
  obtain ⟨u, v, h1, h2, h3⟩ := g.at_
  exact sE_glob hg h1 h2 h3 hd
section
variable {K : PySem.W.Frag} {mg : Str → Option Value}
theorem Glob.int {x : Str} {i : Int} {t : Tok} (h : mg x = some (.int i t)) : Glob K mg x (.int i) := ⟨_, .int i, h, ⟨t, rfl⟩, fun _ _ => VR.int⟩
theorem Glob.str {x : Str} {i : Str} {t : Tok} (h : mg x = some (.str i t)) : Glob K mg x (.str i) := ⟨_, .str i, h, ⟨t, rfl⟩, fun _ _ => VR.str⟩
def flatC : PV → Option V
  | .non => some .non
  | .bl b => some (.bl b)
  | .int i => some (.int i)
  | .str x => some (.str x)
  | _ => none
def flatCs : List PV → Option (List V)
  | [] => some []
  | p :: ps => (flatC p).bind fun v => (flatCs ps).map fun vs => v :: vs
theorem flatC_ok {p : PV} {v : V} (h : flatC p = some v) (W : Wd) (H : Hp) : VR K mg W H p v := by
  cases p <;> first | (cases h; done) | (cases h; unfold VR; rfl)
theorem flatCs_ok (W : Wd) (H : Hp) : ∀ {ps : List PV} {vs : List V}, flatCs ps = some vs → VRs K mg W H ps vs
  | [], vs, h => by cases h; exact VRs.nil
  | p :: ps, vs, h => by
    unfold flatCs at h
    cases e : flatC p with
    | none => rw [e] at h; cases h
    | some v =>
      rw [e] at h
      simp only [Option.bind_some] at h
      cases e2 : flatCs ps with
      | none => rw [e2] at h; cases h
      | some r => rw [e2] at h; cases h; exact VRs.cons (flatC_ok e W H) (flatCs_ok W H e2)
theorem Glob.tup {x : Str} {ps : List PV} {vs : List V} {a : Addr} {us : List Value} {n : Nat} {sl : Array (Option Value)} (h : mg x = some (.ref a)) (hk : K.lookup a = some ⟨.type "tuple", none, .seq us.toArray n, sl⟩)
    (hz : us.length ≤ 1000) (hf : flatCs ps = some vs) (hv : us.map absV = vs.map some) (hr : Vals vs us) : Glob K mg x (.tup ps) := ⟨_, .ref a, h, rfl, fun W H => by
  unfold VR
  refine ⟨a, vs, rfl, .inr ⟨_, us.toArray, n, hk, rfl, rfl, rfl, ?_, hr⟩, flatCs_ok W H hf⟩
  have : us.length ≤ sizeLine := Nat.le_of_lt (small1000 hz)
  simpa using this⟩
def gNeg : PV → Option PV
  | .int i => some (.int (-i))
  | _ => none
section
variable {X : Cx} {o e : Expr} {es : List Expr} {mo : EM PV} {ms : EM (List PV)} {name : Str} {apos cpos : Pos} {t : Ty} {R : V → List V → Hp → VK → Prop} {g : PV → List PV → Option PV}
end
def strsP : List PV → Option (List Str)
  | [] => some []
  | .str x :: r => (strsP r).map (x :: ·)
  | _ => none
theorem VRs.strsP {H : Hp} {W : Wd} : ∀ {ps : List PV} {vs : List V} {bs : List Str}, VRs K mg W H ps vs → strsP ps = some bs → vs = bs.map V.str
  | [], vs, bs, h, e => by unfold VRs at h; cases e; exact h
  | p :: ps, vs, bs, h, e => by
    unfold VRs at h
    obtain ⟨v, r, rfl, h1, h2⟩ := h
    cases p <;> first | (cases e; done) | (
      unfold Mw.strsP at e
      cases q : Mw.strsP ps with
      | none => rw [q] at e; cases e
      | some bs' =>
        rw [q] at e; cases e
        unfold VR at h1
        rw [h1, VRs.strsP h2 q]; rfl)
end
section
variable {X : Cx} {e a b : Expr} {me ma mb mi : EM PV} {pos : Pos}
end
end Mw
namespace Mw
open PySem PySem.Spec L2
mutual
def dok : PV → Bool
  | .non => true
  | .bl _ => true
  | .int _ => true
  | .str x => PyData.strOk x
  | .tup xs => doks xs
  | .lst xs => doks xs
  | _ => false
def doks : List PV → Bool
  | [] => true
  | x :: xs => dok x && doks xs
end
mutual
def dpt : PV → Nat
  | .tup xs => dpts xs + 1
  | .lst xs => dpts xs + 1
  | _ => 0
def dpts : List PV → Nat
  | [] => 0
  | x :: xs => max (dpt x) (dpts xs)
end
mutual
def peq : PV → PV → Bool
  | .non, .non => true
  | .bl a, .bl b => a == b
  | .bl a, .int j => (if a then 1 else 0) == j
  | .int i, .bl b => i == (if b then 1 else 0)
  | .int i, .int j => i == j
  | .str x, .str y => x == y
  | .lst xs, .lst ys => peqs xs ys
  | .tup xs, .tup ys => peqs xs ys
  | _, _ => false
def peqs : List PV → List PV → Bool
  | [], [] => true
  | x :: xs, y :: ys => peq x y && peqs xs ys
  | _, _ => false
end
mutual
theorem dok_dat : ∀ (p : PV), dok p = true → ∃ d, dat p = some d ∧ PyData.canLay0 d = true ∧ PyData.depth d = dpt p
  | .non, h => ⟨_, rfl, rfl, rfl⟩
  | .bl b, h => ⟨_, rfl, rfl, rfl⟩
  | .int i, h => ⟨_, rfl, rfl, rfl⟩
  | .str x, h => ⟨_, rfl, by simpa [dok, PyData.canLay0] using h, rfl⟩
  | .tup xs, h => by
    obtain ⟨ds, h1, h2, h3⟩ := doks_dats xs (by simpa [dok] using h)
    exact ⟨.tuple ds, by simp [dat, h1], by simpa [PyData.canLay0] using h2, by simp [PyData.depth, dpt, h3]⟩
  | .lst xs, h => by
    obtain ⟨ds, h1, h2, h3⟩ := doks_dats xs (by simpa [dok] using h)
    exact ⟨.list ds, by simp [dat, h1], by simpa [PyData.canLay0] using h2, by simp [PyData.depth, dpt, h3]⟩
  | .dic _, h => by simp [dok] at h
  | .scr _, h => by simp [dok] at h
  | .ref _, h => by simp [dok] at h
  | .glo _, h => by simp [dok] at h
  | .ty _, h => by simp [dok] at h
  | .dik _, h => by simp [dok] at h
theorem doks_dats : ∀ (ps : List PV), doks ps = true → ∃ ds, dats ps = some ds ∧ PyData.canLayAll0 ds = true ∧ PyData.depthAll ds = dpts ps
  | [], h => ⟨[], rfl, rfl, rfl⟩
  | p :: ps, h => by
    simp only [doks, Bool.and_eq_true] at h
    obtain ⟨d, h1, h2, h3⟩ := dok_dat p h.1
    obtain ⟨ds, h4, h5, h6⟩ := doks_dats ps h.2
    exact ⟨d :: ds, by simp [dats, h1, h4], by simp [PyData.canLayAll0, h2, h5], by simp [PyData.depthAll, dpts, h3, h6]⟩
end
mutual
theorem peq_dat : ∀ (p q : PV) (d e : PyData), dat p = some d → dat q = some e → PyData.eqv d e = peq p q
  | p, q, d, e, h, h' => by
    cases p <;> simp only [dat, Option.some.injEq, Option.map_eq_some_iff, reduceCtorEq] at h
    all_goals (cases q <;> simp only [dat, Option.some.injEq, Option.map_eq_some_iff, reduceCtorEq] at h')
    all_goals first
      | (subst h; subst h'; simp [PyData.eqv, peq]; done)
      | (obtain ⟨ds, h1, rfl⟩ := h; subst h'; simp [PyData.eqv, peq]; done)
      | (subst h; obtain ⟨es, h2, rfl⟩ := h'; simp [PyData.eqv, peq]; done)
      | (obtain ⟨ds, h1, rfl⟩ := h; obtain ⟨es, h2, rfl⟩ := h'; first | (simp [PyData.eqv, peq]; done) | (simp only [PyData.eqv, peq]; exact peqs_dats _ _ _ _ h1 h2))
theorem peqs_dats : ∀ (ps qs : List PV) (ds es : List PyData), dats ps = some ds → dats qs = some es → PyData.eqvAll ds es = peqs ps qs
  | [], [], ds, es, h, h' => by simp only [dats, Option.some.injEq] at h h'; subst h; subst h'; simp [PyData.eqvAll, peqs]
  | [], q :: qs, ds, es, h, h' => by
    simp only [dats, Option.some.injEq] at h; subst h
    simp only [dats, Option.bind_eq_some_iff, Option.map_eq_some_iff] at h'
    obtain ⟨d, h1, ds', h2, rfl⟩ := h'
    simp [PyData.eqvAll, peqs]
  | p :: ps, [], ds, es, h, h' => by
    simp only [dats, Option.some.injEq] at h'; subst h'
    simp only [dats, Option.bind_eq_some_iff, Option.map_eq_some_iff] at h
    obtain ⟨d, h1, ds', h2, rfl⟩ := h
    simp [PyData.eqvAll, peqs]
  | p :: ps, q :: qs, ds, es, h, h' => by
    simp only [dats, Option.bind_eq_some_iff, Option.map_eq_some_iff] at h h'
    obtain ⟨d, h1, ds', h2, rfl⟩ := h
    obtain ⟨e, h3, es', h4, rfl⟩ := h'
    simp only [PyData.eqvAll, peqs]
    rw [peq_dat p q d e h1 h3, peqs_dats ps qs ds' es' h2 h4]
end
theorem eqB_peq {p q : PV} (hp : dok p = true) (hq : dok q = true) (h1 : dpt p ≤ 64) (h2 : dpt q ≤ 64) : eqB p q = some (peq p q) := by
  obtain ⟨d, e1, e2, e3⟩ := dok_dat p hp
  obtain ⟨e, f1, f2, f3⟩ := dok_dat q hq
  have sd : SeqAt.shaped d = true := by simp [SeqAt.shaped, e2, e3, h1]
  have se : SeqAt.shaped e = true := by simp [SeqAt.shaped, f2, f3, h2]
  have hv := peq_dat p q d e e1 f1
  unfold eqB
  split <;> first | (simp [peq, Bool.beq_eq_decide_eq]; done) | (rw [e1, f1]; simp only [sd, se, and_self, if_true, hv])
theorem peqs_nil (xs : List PV) : peqs xs [] = xs.isEmpty := by cases xs <;> simp [peqs]
theorem gNe_nil {xs : List PV} (h : doks xs = true) (h1 : dpts xs ≤ 63) : gNe (.lst xs) (.lst []) = some (.bl (!xs.isEmpty)) := by
  unfold gNe
  rw [eqB_peq (by simpa [dok] using h) (by simp [dok, doks]) (by simp [dpt]; omega) (by simp [dpt, dpts])]
  simp [peq, peqs_nil]
theorem doks_ints (is : List Int) : doks (is.map .int) = true ∧ dpts (is.map .int) = 0 := by
  induction is with
  | nil => simp [doks, dpts]
  | cons i is ih => simp [doks, dpts, dok, dpt, ih]
theorem Live.set {et : Hi} {W : Wd} {i : Nat} {c d : Cell} (h : et[i]? = some c) (hc : c ≠ .dead) (hd : d ≠ .dead) (a : Addr) : Live (et.set i d) W a ↔ Live et W a := by
  constructor
  · rintro ⟨j, u, h1, h2, h3⟩
    rcases getset h1 with ⟨e, _, _⟩ | ⟨_, h1⟩
    · exact ⟨i, c, h, hc, e ▸ h3⟩
    · exact ⟨j, u, h1, h2, h3⟩
  · rintro ⟨j, u, h1, h2, h3⟩
    by_cases e : j = i
    · subst e
      exact ⟨j, d, by rw [List.getElem?_set_self (List.getElem?_eq_some_iff.mp h).1], hd, h3⟩
    · exact ⟨j, u, by rw [List.getElem?_set_ne (Ne.symm e)]; exact h1, h2, h3⟩
theorem Cel.recell {K : PySem.W.Frag} {mg : Str → Option Value} {H : Hp} {et : Hi} {W : Wd} (c : Cel K mg H et W) {i : Nat} {d d' : Cell} (h : et[i]? = some d) (hd : d ≠ .dead) (hd' : d' ≠ .dead) (ho : ∀ a, W.mu[i]? = some a → CellOk K mg W H d a → CellOk K mg W H d' a) : Cel K mg H (et.set i d') W := by
  refine ⟨by rw [List.length_set]; exact c.len, fun j u b h1 h2 => ?_, fun j k u w b h1 h2 h3 h4 h5 h6 => ?_, fun b hb z => c.fzl b hb ((Live.set h hd hd' b).mp z), c.fzh⟩
  · rcases getset h1 with ⟨rfl, rfl, _⟩ | ⟨_, h1⟩
    · exact ho b h2 (c.ok _ d b h h2)
    · exact c.ok j u b h1 h2
  · have g : ∀ {k : Nat} {u : Cell}, (et.set i d')[k]? = some u → u ≠ .dead → ∃ u', et[k]? = some u' ∧ u' ≠ .dead := fun {k u} h0 hu => by
      rcases getset h0 with ⟨e, _, _⟩ | ⟨_, h0⟩
      · exact ⟨d, e ▸ h, hd⟩
      · exact ⟨u, h0, hu⟩
    obtain ⟨u1, g1, g2⟩ := g h1 h3
    obtain ⟨u2, g3, g4⟩ := g h2 h4
    exact c.inj j k u1 u2 b g1 g3 g2 g4 h5 h6
theorem Ext.live_iff {O : Addr → Prop} {H H' : Hp} {et et' e2 e2' : Hi} {W W' : Wd} (x : Ext O H et W H' et' W') (h : ∀ a, Live e2 W a ↔ Live et W a) (h' : ∀ a, Live e2' W' a ↔ Live et' W' a) : Ext O H e2 W H' e2' W' :=
  ⟨x.fz, x.nfz, x.mu, fun a z => (x.live a ((h' a).mp z)).imp_left (h a).mpr, fun a o e hl hO => x.keep a o e (fun z => hl ((h a).mpr z)) hO, x.there⟩
section
variable {K : PySem.W.Frag} {mg : Str → Option Value}
def spTakeC : FSpec := fun args et R => ∃ (r k : Nat) (m sd ct : Int) (is : List Int), args = [.ref r, .int m] ∧ r ≠ k ∧ et[r]? = some (.lst [.ref k, .int sd, .int ct]) ∧ et[k]? = some (.lst (is.map .int)) ∧ (∀ i ∈ is, 0 ≤ i) ∧
  0 ≤ sd ∧ sd < 2305843009213693951 ∧ 0 ≤ ct ∧ ct < 1099511627776 ∧ 0 < m ∧ m < 1073741824 ∧
  ∀ (d ct' : Int) (is' : List Int), 0 ≤ d → d < m → 0 ≤ ct' → ct' ≤ ct + 1 → (∀ i ∈ is', 0 ≤ i) → R (.int d) ((et.set k (.lst (is'.map .int))).set r (.lst [.ref k, .int sd, .int ct']))
def spTake : FSpec := fun args et R => ∃ (r k n : Nat) (m : Int), args = [.ref r, .int m] ∧ r ≠ k ∧ et[r]? = some (.potO k (n + 1)) ∧ et[k]? = some .potI ∧ 0 < m ∧ m < 1073741824 ∧
  ∀ d : Int, 0 ≤ d → d < m → R (.int d) (et.set r (.potO k n))
theorem VRs.ints_eq {W : Wd} {H : Hp} : ∀ {is : List Int} {vs : List V}, VRs K mg W H (is.map .int) vs → vs = is.map V.int
  | [], vs, h => by unfold List.map at h; unfold VRs at h; exact h
  | i :: is, vs, h => by
    rw [List.map_cons] at h
    unfold VRs at h
    obtain ⟨v, t, rfl, h1, h2⟩ := h
    unfold VR at h1
    subst h1
    rw [List.map_cons, VRs.ints_eq h2]
theorem take_imp {vs : List V} {H : Hp} {Q : VK} {E : XK} (h : FS K mg 2 spTake vs H Q E) : FS K mg 2 spTakeC vs H Q E := by
  obtain ⟨hl, et, W, args, R, c, va, ⟨r, k, n, m, rfl, hrk, hr, hk, hm, hm2, hR⟩, q⟩ := h
  have hlr : r < W.mu.length := by rw [← c.len]; exact (List.getElem?_eq_some_iff.mp hr).1
  have hlk : k < W.mu.length := by rw [← c.len]; exact (List.getElem?_eq_some_iff.mp hk).1
  obtain ⟨b, sd, ct, k1, k2, k3, k4, k5, k6⟩ := c.ok r _ _ hr (List.getElem?_eq_getElem hlr)
  obtain ⟨is, k7, k8⟩ := c.ok k _ _ hk (List.getElem?_eq_getElem hlk)
  have bk : W.mu[k] = b := by rw [List.getElem?_eq_getElem hlk] at k1; exact Option.some.inj k1
  have c1 : Cel K mg H (et.set k (.lst (is.map .int))) W := c.recell hk (by simp) (by simp) fun a ha _ => by
    rw [List.getElem?_eq_getElem hlk] at ha; cases ha
    exact ⟨_, k7, VRs.ints is⟩
  have hr1 : (et.set k (.lst (is.map .int)))[r]? = some (.potO k (n + 1)) := by rw [List.getElem?_set_ne (Ne.symm hrk)]; exact hr
  have c2 : Cel K mg H ((et.set k (.lst (is.map .int))).set r (.lst [.ref k, .int sd, .int ct])) W := c1.recell hr1 (by simp) (by simp) fun a ha _ => by
    rw [List.getElem?_eq_getElem hlr] at ha; cases ha
    exact ⟨_, k2, VRs.cons (by unfold VR; exact ⟨b, rfl, k1⟩) (VRs.cons VR.int (VRs.cons VR.int VRs.nil))⟩
  refine ⟨hl, _, W, [.ref r, .int m], fun p et2 => ∃ (d ct' : Int) (is' : List Int), p = .int d ∧ 0 ≤ d ∧ d < m ∧ 0 ≤ ct' ∧ ct' ≤ ct + 1 ∧ (∀ i ∈ is', 0 ≤ i) ∧ et2 = ((((et.set k (.lst (is.map .int))).set r (.lst [.ref k, .int sd, .int ct])).set k (.lst (is'.map .int))).set r (.lst [.ref k, .int sd, .int ct'])), c2, va, ?_, ?_⟩
  · refine ⟨r, k, m, sd, ct, is, rfl, hrk, ?_, ?_, k8, k3, k4, k5, by omega, hm, hm2, fun d ct' is' d1 d2 d3 d4 d5 => ⟨d, ct', is', rfl, d1, d2, d3, d4, d5, rfl⟩⟩
    · rw [List.getElem?_set_self (by rw [List.length_set]; exact (List.getElem?_eq_some_iff.mp hr).1)]
    · rw [List.getElem?_set_ne hrk, List.getElem?_set_self (List.getElem?_eq_some_iff.mp hk).1]
  · rintro p et2 ⟨d, ct', is', rfl, d1, d2, d3, d4, d5, he2⟩ v H' W' x' c' v'
    have hrl := (List.getElem?_eq_some_iff.mp hr).1
    have hkl := (List.getElem?_eq_some_iff.mp hk).1
    have er : et2[r]? = some (.lst [.ref k, .int sd, .int ct']) := by rw [he2, List.getElem?_set_self (by simpa using hrl)]
    have ek : et2[k]? = some (.lst (is'.map .int)) := by rw [he2, List.getElem?_set_ne hrk, List.getElem?_set_self (by simpa using hkl)]
    have eo : ∀ j, j ≠ r → j ≠ k → et2[j]? = et[j]? := fun j h1 h2 => by
      rw [he2, List.getElem?_set_ne (Ne.symm h1), List.getElem?_set_ne (Ne.symm h2), List.getElem?_set_ne (Ne.symm h1), List.getElem?_set_ne (Ne.symm h2)]
    have c3 := c'.recell ek (d' := .potI) (by simp) (by simp) fun a ha ho => by
      obtain ⟨vs, g1, g2⟩ := ho
      rw [VRs.ints_eq g2] at g1
      exact ⟨is', g1, d5⟩
    have er2 : (et2.set k .potI)[r]? = some (.lst [.ref k, .int sd, .int ct']) := by rw [List.getElem?_set_ne (Ne.symm hrk)]; exact er
    have c4 := c3.recell er2 (d' := .potO k n) (by simp) (by simp) fun a ha ho => by
      obtain ⟨vs, g1, g2⟩ := ho
      unfold VRs at g2
      obtain ⟨v1, t1, rfl, g3, g4⟩ := g2
      unfold VRs at g4
      obtain ⟨v2, t2, rfl, g5, g6⟩ := g4
      unfold VRs at g6
      obtain ⟨v3, t3, rfl, g7, g8⟩ := g6
      unfold VRs at g8
      subst g8
      unfold VR at g3 g5 g7
      obtain ⟨b', rfl, g9⟩ := g3
      subst g5 g7
      exact ⟨b', sd, ct', g9, g1, k3, k4, d3, by omega⟩
    have e3 : (et2.set k .potI).set r (.potO k n) = et.set r (.potO k n) := by
      apply List.ext_getElem?
      intro j
      by_cases h1 : j = r
      · subst h1
        rw [List.getElem?_set_self (by rw [List.length_set]; exact (List.getElem?_eq_some_iff.mp er).1), List.getElem?_set_self hrl]
      · rw [List.getElem?_set_ne (Ne.symm h1), List.getElem?_set_ne (Ne.symm h1)]
        by_cases h2 : j = k
        · subst h2
          rw [List.getElem?_set_self (List.getElem?_eq_some_iff.mp ek).1, hk]
        · rw [List.getElem?_set_ne (Ne.symm h2), eo j h1 h2]
    refine q (.int d) _ (hR d d1 d2) v H' W' ?_ (e3 ▸ c4) v'
    refine x'.live_iff (fun a => ?_) fun a => ?_
    · rw [Live.set hr1 (by simp) (by simp), Live.set hk (by simp) (by simp)]
    · rw [← e3, Live.set er2 (by simp) (by simp), Live.set ek (by simp) (by simp)]
end
end Mw
namespace Mw
open PySem PySem.Spec L2
section
variable {et : Hi}
theorem deref_int (i : Int) : deref et (.int i) = .int i := rfl
theorem deref_str (i : Str) : deref et (.str i) = .str i := rfl
theorem deref_bl (i : Bool) : deref et (.bl i) = .bl i := rfl
theorem deref_non : deref et .non = .non := rfl
theorem deref_tup (i : List PV) : deref et (.tup i) = .tup i := rfl
theorem deref_lst (i : List PV) : deref et (.lst i) = .lst i := rfl
theorem deref_scr (i : List Int) : deref et (.scr i) = .scr i := rfl
theorem deref_dic (i : List (Key × PV)) : deref et (.dic i) = .dic i := rfl
theorem deref_ty (i : Ty) : deref et (.ty i) = .ty i := rfl
theorem eqB_int (i j : Int) : eqB (.int i) (.int j) = some (decide (i = j)) := rfl
theorem gEq_int (i j : Int) : gEq (.int i) (.int j) = some (.bl (decide (i = j))) := rfl
theorem gNe_int (i j : Int) : gNe (.int i) (.int j) = some (.bl (!decide (i = j))) := rfl
theorem gEq_str (i j : Str) : gEq (.str i) (.str j) = some (.bl (decide (i = j))) := rfl
theorem gNe_str (i j : Str) : gNe (.str i) (.str j) = some (.bl (!decide (i = j))) := rfl
end
end Mw
namespace Mw
open PySem PySem.Spec L2
theorem deref_ref {et : Hi} {n : Nat} {xs : List PV} (h : et[n]? = some (.lst xs)) : deref et (.ref n) = .lst xs := by unfold deref; simp only [h]
theorem atI_c0 {α : Type} (x : α) (xs : List α) : atI (x :: xs) 0 = some x := by simp [atI, ixN]
theorem atI_c1 {α : Type} (x y : α) (xs : List α) : atI (x :: y :: xs) 1 = some y := by
  have : (1 : Int) < ((xs.length + 1 + 1 : Nat) : Int) := by omega
  simp only [atI, ixN, List.length_cons]
  rw [if_pos (by decide), if_pos this]; rfl
theorem atI_c2 {α : Type} (x y z : α) (xs : List α) : atI (x :: y :: z :: xs) 2 = some z := by
  have : (2 : Int) < ((xs.length + 1 + 1 + 1 : Nat) : Int) := by omega
  simp only [atI, ixN, List.length_cons]
  rw [if_pos (by decide), if_pos this]; rfl
theorem ixN_0 {n : Nat} (h : 0 < n) : ixN n 0 = some 0 := by simp [ixN, h]
end Mw
namespace Mw
open PySem PySem.Spec L2
def spLaw : FSpec := fun args et R => ∃ ns : List Int, args = [.scr ns] ∧ ns.length ≤ 63 ∧ et = [] ∧ ∀ et', R (.bl true) et'
def spTop (K : PySem.W.Frag) : Sp := fun vs H Q _ => ∃ (a : Addr) (ns : List Int), vs = [.ref a] ∧ ns.length ≤ 63 ∧ Only H ∧ SqL K H a (ns.map V.int) ∧ ∀ H', Q (.bl true) H'
theorem top_imp {K : PySem.W.Frag} {mg : Str → Option Value} {vs : List V} {H : Hp} {Q : VK} {E : XK} (h : spTop K vs H Q E) : FS K mg 1 spLaw vs H Q E := by
  obtain ⟨a, ns, rfl, hl, hO, hS, q⟩ := h
  refine ⟨rfl, [], ⟨fun _ => False, []⟩, [.scr ns], fun p _ => p = .bl true, ⟨rfl, fun _ _ _ h => by simp at h, fun _ _ _ _ _ h => by simp at h, fun _ h => h.elim, fun _ h => h.elim⟩, VRs.cons ?_ VRs.nil, ⟨ns, rfl, hl, rfl, fun _ => rfl⟩, ?_⟩
  · unfold VR
    refine ⟨a, rfl, ?_⟩
    rcases hS with (h | ⟨o, h⟩) | h
    · rcases hO a with z | ⟨o, xs, z⟩
      · rw [z] at h; cases h
      · rw [z] at h; cases h
    · exact .inl ⟨o, h⟩
    · exact .inr h
  · rintro p et' rfl v H' W' _ _ hv
    unfold VR at hv
    subst hv
    exact q H'
theorem fs_none {P : Program} {w : World} {K : PySem.W.Frag} {mg : Str → Option Value} {base : Heap} {k n : Nat} {f : Addr} {fd : FuncData} {ps : List Str} {sp : FSpec} (h : ∀ args et R, ¬ sp args et R) : FnOk P w K mg base CX0 k f fd ps (FS K mg n sp) := by
  have no : ∀ vs H Q E, ¬ FS K mg n sp vs H Q E := fun vs H Q E ⟨_, _, _, _, _, _, _, q, _⟩ => h _ _ _ q
  exact ⟨fun vs H Q E h => absurd h (no vs H Q E), fun A outer s H args us vs Q E _ _ _ _ h => absurd h (no vs H Q E)⟩
end Mw
namespace Mw
open PySem PySem.Spec L2
section
variable {X : Cx} {K : PySem.W.Frag} {mg : Str → Option Value}
end
end Mw
namespace Mw
open PySem PySem.Spec L2
section
variable {X : Cx} {pins : List (Addr × Obj)} {σ : L2.St} {H : Hp} {s : Shared}
theorem Vals.at_of {xs : List V} {us : List Value} (r : Vals xs us) {j : Nat} (h : j < us.length) : ∃ x, xs[j]? = some x ∧ RelV x us[j] := by
  have hl := Vals.length r
  have hx : xs[j]? = some xs[j] := List.getElem?_eq_getElem (by omega)
  obtain ⟨u, e, q⟩ := Vals.get r hx
  rw [List.getElem?_eq_getElem h] at e
  cases e
  exact ⟨_, hx, q⟩
end
def allB : List (Option Bool) → Option (List Bool)
  | [] => some []
  | o :: r => o.bind fun b => (allB r).map (b :: ·)
section
variable {K : PySem.W.Frag} {mg : Str → Option Value} {W : Wd} {H : Hp}
theorem VRs.back : ∀ {ps : List PV} {vs : List V} {i : Nat} {v : V}, VRs K mg W H ps vs → vs[i]? = some v → ∃ p, ps[i]? = some p ∧ VR K mg W H p v := fun {ps vs i v} h e => by
  have hl := (List.getElem?_eq_some_iff.mp e).1
  have hp : ps[i]? = some (ps[i]'(by rw [h.len]; exact hl)) := List.getElem?_eq_getElem _
  obtain ⟨u, e1, r⟩ := h.get hp
  rw [e] at e1; cases e1
  exact ⟨_, hp, r⟩
end
end Mw
namespace TS2
open PySem PySem.Spec PyProof.Rows L2
abbrev kd (P : Program) (w : World) : PySem.KeyKind P w Str := PySem.strKind P w
def keyS (e : Int × Value) : Str := match e.2 with
  | .str x _ => x
  | _ => Str.empty
def GoodS (P : Program) (w : World) (e : Int × Value) : Prop := ∃ k tk, e.2 = Value.str k tk ∧ e.1 = (kd P w).hash k
def SetX (P : Program) (w : World) (h : Heap) (a : Addr) (S : Str → Bool) (n : Nat) : Prop :=
  ∃ o es ep t, h.get? a = some o ∧ o.ExactSet ∧ o.data = .set es ep t ∧ ((∀ e ∈ es.toList, GoodS P w e) ∧ (es.toList.map keyS).Nodup ∧ ∀ k, S k = true ↔ k ∈ es.toList.map keyS) ∧
    es.size ≤ n ∧ es.size < scanBound ∧ t.fits es.size = true ∧ Ris t.place.toList ∧ (w.params.followText "set-order" = true ∨ t.led = true)
section
variable {P : Program} {w : World} {h h' : Heap} {a : Addr} {S S' : Str → Bool}
theorem SetX.keep {n : Nat} (R : SetX P w h a S n) (k : ∀ o, h.get? a = some o → h'.get? a = some o) : SetX P w h' a S n := by
  obtain ⟨o, es, ep, t, ho, r⟩ := R
  exact ⟨o, es, ep, t, k o ho, r⟩
theorem SetX.to {n : Nat} (R : SetX P w h a S n) (e : ∀ k, S' k = S k) : SetX P w h a S' n := funext e ▸ R
end
section
variable {P : Program} {w : World} {A : Around} {E : Value → Shared → Prop} {s : Shared} {a : Addr} {S : Str → Bool}
def Elt (P : Program) (w : World) (es : Array (Int × Value)) (S : Str → Bool) : Prop := (∀ e ∈ es.toList, GoodS P w e) ∧ (es.toList.map keyS).Nodup ∧ ∀ k, S k = true ↔ k ∈ es.toList.map keyS
theorem Elt.perm {es es' : Array (Int × Value)} {S : Str → Bool} (g : Elt P w es S) (pm : es'.toList.Perm es.toList) : Elt P w es' S :=
  ⟨fun e he => g.1 e (pm.mem_iff.mp he), (pm.map keyS).nodup_iff.mpr g.2.1, fun k => (g.2.2 k).trans (pm.map keyS).mem_iff.symm⟩
end
section
variable {P : Program} {w : World} {A : Around} {R : Result → Shared → Prop} {I : Addr} {fp wr : List Addr} {G : Array GenState → Array GenState → Prop} {n : Nat} {Pv : Nat → Value → Prop} {St : Nat → Shared → Prop}
end
section
variable {P : Program} {w : World} {A : Around} {E : Value → Shared → Prop} {s : Shared}
end
end TS2
namespace Mw
open PySem PySem.Spec PyProof.Rows L2
def leS (a b : Str) : Prop := ¬ b.cps.toList < a.cps.toList
instance (a b : Str) : Decidable (leS a b) := by unfold leS; exact inferInstance
theorem leS_trans {a b c : Str} (h : leS a b) (h' : leS b c) : leS a c := fun z => by
  unfold leS at h h'
  rw [List.not_lt] at h h'
  exact (List.not_lt.mpr (List.le_trans h h')) z
theorem leS_total (a b : Str) : leS a b ∨ leS b a := by
  unfold leS
  rw [List.not_lt, List.not_lt]
  exact List.le_total _ _
theorem leS_anti {a b : Str} (h : leS a b) (h' : leS b a) : a = b := by
  unfold leS at h h'
  rw [List.not_lt] at h h'
  have e := List.le_antisymm h h'
  cases a; cases b
  have := Array.ext' e
  simp at this
  rw [this]
def insS (x : Str) : List Str → List Str
  | [] => [x]
  | y :: r => if leS x y then x :: y :: r else y :: insS x r
def srtS : List Str → List Str
  | [] => []
  | x :: r => insS x (srtS r)
theorem ins_perm (x : Str) : ∀ l, (insS x l).Perm (x :: l)
  | [] => List.Perm.refl _
  | y :: r => by
    unfold insS
    split
    · exact List.Perm.refl _
    · exact ((ins_perm x r).cons y).trans (List.Perm.swap x y r)
theorem srt_perm : ∀ l, (srtS l).Perm l
  | [] => List.Perm.refl _
  | x :: r => (ins_perm x (srtS r)).trans ((srt_perm r).cons x)
theorem ins_pw (x : Str) : ∀ l : List Str, l.Pairwise leS → (insS x l).Pairwise leS
  | [], _ => List.pairwise_singleton _ _
  | y :: r, h => by
    obtain ⟨h1, h2⟩ := List.pairwise_cons.mp h
    unfold insS
    split
    · rename_i e
      refine List.pairwise_cons.mpr ⟨fun z hz => ?_, h⟩
      rcases List.mem_cons.mp hz with rfl | hz
      · exact e
      · exact leS_trans e (h1 z hz)
    · rename_i e
      refine List.pairwise_cons.mpr ⟨fun z hz => ?_, ins_pw x r h2⟩
      rcases List.mem_cons.mp ((ins_perm x r).mem_iff.mp hz) with rfl | hz
      · exact (leS_total z y).resolve_left e
      · exact h1 z hz
theorem srt_pw : ∀ l, (srtS l).Pairwise leS
  | [] => List.Pairwise.nil
  | x :: r => ins_pw x _ (srt_pw r)
theorem pw_uniq : ∀ {l l' : List Str}, l.Pairwise leS → l'.Pairwise leS → l.Perm l' → l = l'
  | [], l', _, _, p => (List.nil_perm.mp p).symm
  | x :: r, [], _, _, p => (List.perm_nil.mp p)
  | x :: r, y :: t, h, h', p => by
    obtain ⟨h1, h2⟩ := List.pairwise_cons.mp h
    obtain ⟨h3, h4⟩ := List.pairwise_cons.mp h'
    have e : x = y := by
      have hx : leS y x := by
        rcases List.mem_cons.mp (p.mem_iff.mp List.mem_cons_self) with e | e
        · rw [e]; exact (leS_total y y).elim id id
        · exact h3 x e
      have hy : leS x y := by
        rcases List.mem_cons.mp (p.mem_iff.mpr List.mem_cons_self) with e | e
        · rw [e]; exact (leS_total x x).elim id id
        · exact h1 y e
      exact leS_anti hy hx
    subst e
    rw [pw_uniq h2 h4 (List.perm_cons x |>.mp p)]
theorem rising_pw : ∀ (r : List Str) (p : Str), risingS p r = true → (p :: r).Pairwise leS
  | [], p, _ => List.pairwise_singleton _ _
  | x :: r, p, h => by
    unfold risingS at h
    rw [Bool.and_eq_true] at h
    have h2 := rising_pw r x h.2
    have hx : leS p x := by
      have := h.1
      rw [PyProof.Rows.ltCps_eq] at this
      simpa [leS] using this
    refine List.pairwise_cons.mpr ⟨fun z hz => ?_, h2⟩
    rcases List.mem_cons.mp hz with rfl | hz
    · exact hx
    · exact leS_trans hx ((List.pairwise_cons.mp h2).1 z hz)
theorem sorted_pw {l : List Str} (h : sortedS l = true) : l.Pairwise leS := by
  cases l with
  | nil => exact List.Pairwise.nil
  | cons x r => exact rising_pw r x h
theorem srt_of {l l' : List Str} (h : sortedS l = true) (p : l.Perm l') : l = srtS l' := pw_uniq (sorted_pw h) (srt_pw l') (p.trans (srt_perm l').symm)
section
variable {X : Cx} {K : PySem.W.Frag} {mg : Str → Option Value}
theorem VRs.texts {W : Wd} {H : Hp} : ∀ ss : List Str, VRs K mg W H (ss.map PV.str) (ss.map V.str)
  | [] => VRs.nil
  | x :: r => VRs.cons VR.str (VRs.texts r)
def gSorted : List PV → Option PV
  | [.lst xs] => (strsP xs).bind fun ss => if ss.length < 64 then some (.lst ((srtS ss).map .str)) else none
  | _ => none
theorem cr_sortedA : CallR X (.builtin "sorted") (rSortedS X.K) := cr_sortedS
theorem oA_sorted : OpA K mg (rSortedS K) gSorted (pN K mg) := by
  intro xs H et W ps z Q c hp hz k
  unfold gSorted at hz
  split at hz
  · rename_i ys e
    obtain ⟨p, rfl, e'⟩ := map1 e
    obtain ⟨v, rfl, h⟩ := hp.one
    cases es : strsP ys with
    | none => rw [es] at hz; cases hz
    | some ss =>
      rw [es, Option.bind_some] at hz
      split at hz
      · rename_i h64
        cases hz
        obtain ⟨a, vs, rfl, h1, h2⟩ := h.lst c e'
        have := h2.strsP es
        subst this
        refine ⟨a, ss, rfl, SqL.of h1, h64, fun zs t pm hs ht => ?_⟩
        have := srt_of hs pm
        subst this
        obtain ⟨x1, c1, r1⟩ := new_own c ht (VRs.texts (K := K) (mg := mg) (W := W) (H := H) (srtS ss))
        exact k _ _ _ x1 c1 r1
      · cases hz
  · cases hz
end
end Mw
namespace Mw
open PySem PySem.Spec L2
section
variable {X : Cx}
end
end Mw
namespace Mw
open PySem PySem.Spec L2
section
variable {K : PySem.W.Frag} {mg : Str → Option Value}
def potP (P : List Int → Prop) : Cell := .inv fun vs => ∃ is : List Int, vs = is.map V.int ∧ P is
def spDrawC (P : List Int → Prop) : FSpec := fun args et R => ∃ (r : Nat) (m : Int) (is : List Int), args = [.ref r, .int m] ∧ et[r]? = some (.lst (is.map .int)) ∧ P is ∧ 0 < m ∧ m < 1073741824 ∧
  ∀ (d : Int) (is' : List Int), 0 ≤ d → d < m → P is' → R (.int d) (et.set r (.lst (is'.map .int)))
def spDraw (P : List Int → Prop) : FSpec := fun args et R => ∃ (r : Nat) (m : Int), args = [.ref r, .int m] ∧ et[r]? = some (potP P) ∧ 0 < m ∧ m < 1073741824 ∧ ∀ d : Int, 0 ≤ d → d < m → R (.int d) et
def spNewC (n : Nat) (P : List Int → Prop) (A : List PV → Prop) : FSpec := fun args et R => A args ∧ args.length = n ∧ ∀ is : List Int, P is → R (.ref et.length) (et ++ [.lst (is.map .int)])
def spNew (n : Nat) (P : List Int → Prop) (A : List PV → Prop) : FSpec := fun args et R => A args ∧ args.length = n ∧ R (.ref et.length) (et ++ [potP P])
theorem new_imp {n : Nat} {P : List Int → Prop} {A : List PV → Prop} {vs : List V} {H : Hp} {Q : VK} {E : XK} (h : FS K mg n (spNew n P A) vs H Q E) : FS K mg n (spNewC n P A) vs H Q E := by
  obtain ⟨hl, et, W, args, R, c, va, ⟨hA, hn, hR⟩, q⟩ := h
  refine ⟨hl, et, W, args, fun p et2 => ∃ is : List Int, P is ∧ p = .ref et.length ∧ et2 = et ++ [.lst (is.map .int)], c, va, ⟨hA, hn, fun is h => ⟨is, h, rfl, rfl⟩⟩, ?_⟩
  rintro p et2 ⟨is, hP, rfl, he⟩ v H' W' x' c' v'
  have er : et2[et.length]? = some (.lst (is.map .int)) := by rw [he, List.getElem?_append_right (by omega)]; simp
  have c3 := c'.recell er (d' := potP P) (by simp) (by simp [potP]) fun a ha ho => by
    obtain ⟨vs, g1, g2⟩ := ho
    rw [VRs.ints_eq g2] at g1
    exact ⟨_, g1, is, rfl, hP⟩
  have e3 : et2.set et.length (potP P) = et ++ [potP P] := by
    rw [he, List.set_append_right _ _ (by omega)]; simp
  refine q _ _ hR v H' W' ?_ (e3 ▸ c3) v'
  refine x'.live_iff (fun a => Iff.rfl) fun a => ?_
  rw [← e3, Live.set er (by simp) (by simp [potP])]
mutual
def bel (n : Nat) : PV → Bool
  | .ref k => decide (k < n)
  | .tup xs => bels n xs
  | .lst xs => bels n xs
  | .dic ks => belk n ks
  | .dik ks => belk n ks
  | _ => true
def bels (n : Nat) : List PV → Bool
  | [] => true
  | x :: xs => bel n x && bels n xs
def belk (n : Nat) : List (Key × PV) → Bool
  | [] => true
  | (_, x) :: xs => bel n x && belk n xs
end
def belf (n : Nat) : List (Str × PV) → Bool
  | [] => true
  | (_, x) :: xs => bel n x && belf n xs
def beln (n : Nat) : List (PV × PV) → Bool
  | [] => true
  | (x, y) :: xs => bel n x && bel n y && beln n xs
def belC (n : Nat) : Cell → Prop
  | .lst xs => bels n xs = true
  | .dic ks => belk n ks = true
  | .ins _ fs => belf n fs = true
  | .potO k _ => k < n
  | .nd kvs => beln n kvs = true
  | _ => True
section
variable {H : Hp} {W : Wd} {mu m : List Addr}
mutual
theorem VR.cut (hm : W.mu = mu ++ m) : ∀ (p : PV) (v : V), bel mu.length p = true → VR K mg W H p v → VR K mg ⟨W.fz, mu⟩ H p v
  | .non, v, _, h => by unfold VR at *; exact h
  | .bl b, v, _, h => by unfold VR at *; exact h
  | .int i, v, _, h => by unfold VR at *; exact h
  | .str z, v, _, h => by unfold VR at *; exact h
  | .tup xs, v, b, h => by
    unfold VR at *
    obtain ⟨a, vs, e, h1, h2⟩ := h
    exact ⟨a, vs, e, h1, VRs.cut_mu hm xs vs (by simpa [bel] using b) h2⟩
  | .lst xs, v, b, h => by
    unfold VR at *
    obtain ⟨a, vs, e, h1, h2, h3⟩ := h
    exact ⟨a, vs, e, h1, h2, VRs.cut_mu hm xs vs (by simpa [bel] using b) h3⟩
  | .dic ks, v, b, h => by
    unfold VR at *
    obtain ⟨a, vs, e, h1, h2, h3⟩ := h
    exact ⟨a, vs, e, h1, h2, VRk.cut_mu hm ks vs (by simpa [bel] using b) h3⟩
  | .scr ns, v, _, h => by unfold VR at *; exact h
  | .ref n, v, b, h => by
    unfold VR at *
    obtain ⟨a, e, h⟩ := h
    have hb : n < mu.length := by simpa [bel] using b
    refine ⟨a, e, ?_⟩
    rw [hm, List.getElem?_append_left hb] at h
    exact h
  | .glo z, v, _, h => by unfold VR at *; exact h
  | .ty t, v, _, h => by unfold VR at *; exact h
  | .dik ks, v, b, h => by
    unfold VR at *
    obtain ⟨a, o, vs, e, h2, h3⟩ := h
    exact ⟨a, o, vs, e, h2, VRk.cut_mu hm ks vs (by simpa [bel] using b) h3⟩
theorem VRs.cut_mu (hm : W.mu = mu ++ m) : ∀ (p : List PV) (v : List V), bels mu.length p = true → VRs K mg W H p v → VRs K mg ⟨W.fz, mu⟩ H p v
  | [], v, _, h => by unfold VRs at *; exact h
  | p :: ps, vs, b, h => by
    unfold VRs at *
    obtain ⟨v, r, e, h1, h2⟩ := h
    simp only [bels, Bool.and_eq_true] at b
    exact ⟨v, r, e, VR.cut hm p v b.1 h1, VRs.cut_mu hm ps r b.2 h2⟩
theorem VRk.cut_mu (hm : W.mu = mu ++ m) : ∀ (p : List (Key × PV)) (v : List (Key × V)), belk mu.length p = true → VRk K mg W H p v → VRk K mg ⟨W.fz, mu⟩ H p v
  | [], v, _, h => by unfold VRk at *; exact h
  | (k, p) :: ps, vs, b, h => by
    unfold VRk at *
    obtain ⟨v, r, e, h1, h2⟩ := h
    simp only [belk, Bool.and_eq_true] at b
    exact ⟨v, r, e, VR.cut hm p v b.1 h1, VRk.cut_mu hm ps r b.2 h2⟩
end
theorem VRf.cut_mu (hm : W.mu = mu ++ m) : ∀ (p : List (Str × PV)) (v : List (Str × V)), belf mu.length p = true → VRf K mg W H p v → VRf K mg ⟨W.fz, mu⟩ H p v
  | [], v, _, h => by unfold VRf at *; exact h
  | (k, p) :: ps, vs, b, h => by
    unfold VRf at *
    obtain ⟨v, r, e, h1, h2⟩ := h
    simp only [belf, Bool.and_eq_true] at b
    exact ⟨v, r, e, VR.cut hm p v b.1 h1, VRf.cut_mu hm ps r b.2 h2⟩
end
theorem VRn.cut_mu {H : Hp} {W : Wd} {mu m : List Addr} (hm : W.mu = mu ++ m) : ∀ (p : List (PV × PV)) (v : List (NestedKey × Addr × V)), beln mu.length p = true → VRn K mg W H p v → VRn K mg ⟨W.fz, mu⟩ H p v
  | [], v, _, h => by unfold VRn at *; exact h
  | (p, q) :: ps, vs, b, h => by
    unfold VRn at *
    obtain ⟨k, a, v, r, e, h1, h2, h3, h4, h5, h6⟩ := h
    simp only [beln, Bool.and_eq_true] at b
    exact ⟨k, a, v, r, e, h1, h2, h3, VR.cut hm p _ b.1.1 h4, VR.cut hm q v b.1.2 h5, VRn.cut_mu hm ps r b.2 h6⟩
theorem gc {H H' : Hp} {et junk : Hi} {W W' : Wd} (x : Ext NoO H et W H' (et ++ junk) W') (c : Cel K mg H et W) (c' : Cel K mg H' (et ++ junk) W') (hb : ∀ d ∈ et, belC et.length d) :
    ∃ W'', Ext NoO H et W H' et W'' ∧ Cel K mg H' et W'' ∧ ∀ p v, bel et.length p = true → VR K mg W' H' p v → VR K mg W'' H' p v := by
  obtain ⟨m, hm⟩ := x.mu
  have hlen := c.len
  have up : ∀ a, Live et ⟨W'.fz, W.mu⟩ a → Live (et ++ junk) W' a := fun a ⟨i, d, h1, h2, h3⟩ => by
    have hi := (List.getElem?_eq_some_iff.mp h1).1
    exact ⟨i, d, by rw [List.getElem?_append_left hi]; exact h1, h2, by rw [hm, List.getElem?_append_left (by omega)]; exact h3⟩
  refine ⟨⟨W'.fz, W.mu⟩, ⟨x.fz, x.nfz, ⟨[], by simp⟩, fun a h => x.live a (up a h), x.keep, x.there⟩, ⟨hlen, fun i d a h1 h2 => ?_, fun i j d e a h1 h2 h3 h4 h5 h6 => ?_, fun a h z => c'.fzl a h (up a z), c'.fzh⟩, fun p v b h => VR.cut hm p v (by rw [← hlen]; exact b) h⟩
  · have hi := (List.getElem?_eq_some_iff.mp h1).1
    have k := c'.ok i d a (by rw [List.getElem?_append_left hi]; exact h1) (by rw [hm, List.getElem?_append_left (by omega)]; exact h2)
    have b := hb d (List.mem_of_getElem? h1)
    cases d with
    | dead => trivial
    | lst xs => obtain ⟨vs, k1, k2⟩ := k; exact ⟨vs, k1, VRs.cut_mu hm _ _ (by rw [← hlen]; exact b) k2⟩
    | dic xs => obtain ⟨vs, k1, k2⟩ := k; exact ⟨vs, k1, VRk.cut_mu hm _ _ (by rw [← hlen]; exact b) k2⟩
    | ins n fs => obtain ⟨C, dx, gs, k0, k1, k2⟩ := k; exact ⟨C, dx, gs, k0, k1, VRf.cut_mu hm _ _ (by rw [← hlen]; exact b) k2⟩
    | potO k' n =>
      obtain ⟨b', sd, ct, k0, k1⟩ := k
      have hk : k' < et.length := b
      exact ⟨b', sd, ct, by rw [hm, List.getElem?_append_left (by omega)] at k0; exact k0, k1⟩
    | potI => exact k
    | inv P => exact k
    | exc _ _ => exact k
    | nd kvs => exact k.imp_right fun ⟨es, k1, k2⟩ => ⟨es, k1, VRn.cut_mu hm _ _ (by rw [← hlen]; exact b) k2⟩
  · have hi := (List.getElem?_eq_some_iff.mp h1).1
    have hj := (List.getElem?_eq_some_iff.mp h2).1
    exact c'.inj i j d e a (by rw [List.getElem?_append_left hi]; exact h1) (by rw [List.getElem?_append_left hj]; exact h2) h3 h4 (by rw [hm, List.getElem?_append_left (by omega)]; exact h5) (by rw [hm, List.getElem?_append_left (by omega)]; exact h6)
theorem gc_imp {n : Nat} {sp sp' : FSpec} {vs : List V} {H : Hp} {Q : VK} {E : XK} (h : FS K mg n sp' vs H Q E)
    (g : ∀ args et R, sp' args et R → (∀ d ∈ et, belC et.length d) ∧ sp args et fun p et' => ∃ junk, et' = et ++ junk ∧ bel et.length p = true ∧ R p et) : FS K mg n sp vs H Q E := by
  obtain ⟨hl, et, W, args, R, c, va, h, q⟩ := h
  obtain ⟨hb, h⟩ := g args et R h
  refine ⟨hl, et, W, args, _, c, va, h, ?_⟩
  rintro p et' ⟨junk, rfl, hp, hR⟩ v H' W' x' c' v'
  obtain ⟨W2, x2, c2, r2⟩ := gc x' c c' hb
  exact q p et hR v H' W2 x2 c2 (r2 p v hp v')
end
end Mw
namespace Mw
open PySem PySem.Spec L2
def putFP (f : Str) (p : PV) : List (Str × PV) → List (Str × PV)
  | [] => [(f, p)]
  | (g, x) :: r => if g = f then (g, p) :: r else (g, x) :: putFP f p r
section
variable {K : PySem.W.Frag} {mg : Str → Option Value} {H : Hp} {et : Hi} {W : Wd}
theorem VRf.len : ∀ {fs : List (Str × PV)} {gs : List (Str × V)}, VRf K mg W H fs gs → fs.length = gs.length
  | [], gs, h => by unfold VRf at h; rw [h]; rfl
  | (k, p) :: fs, gs, h => by
    unfold VRf at h
    obtain ⟨v, r, rfl, _, h2⟩ := h
    rw [List.length_cons, List.length_cons, VRf.len h2]
theorem VRf.get {f : Str} {p : PV} : ∀ {fs : List (Str × PV)} {gs : List (Str × V)}, VRf K mg W H fs gs → fs.lookup f = some p → ∃ v, gs.lookup f = some v ∧ VR K mg W H p v
  | [], gs, h, e => by cases e
  | (k, q) :: fs, gs, h, e => by
    unfold VRf at h
    obtain ⟨v, r, rfl, h1, h2⟩ := h
    by_cases hk : (f == k) = true
    · simp only [List.lookup, hk] at e ⊢
      cases e
      exact ⟨v, rfl, h1⟩
    · have hk' : (f == k) = false := by simpa using hk
      simp only [List.lookup, hk'] at e ⊢
      exact VRf.get h2 e
theorem VRf.put {f : Str} {p : PV} {v : V} (hv : VR K mg W H p v) : ∀ {fs : List (Str × PV)} {gs : List (Str × V)}, VRf K mg W H fs gs → VRf K mg W H (putFP f p fs) (putF f v gs)
  | [], gs, h => by
    unfold VRf at h; subst h
    unfold putFP putF VRf
    exact ⟨v, [], rfl, hv, by unfold VRf; rfl⟩
  | (k, q) :: fs, gs, h => by
    unfold VRf at h
    obtain ⟨u, r, rfl, h1, h2⟩ := h
    unfold putFP putF
    by_cases hk : k = f
    · rw [if_pos hk, if_pos hk]; unfold VRf; exact ⟨v, r, rfl, hv, h2⟩
    · rw [if_neg hk, if_neg hk]; unfold VRf; exact ⟨u, _, rfl, h1, VRf.put hv h2⟩
theorem Cel.push (c : Cel K mg H et W) {a : Addr} {d : Cell} (hf : ¬ W.fz a) (hl : ¬ Live et W a) (ho : CellOk K mg ⟨W.fz, W.mu ++ [a]⟩ H d a) :
    Cel K mg H (et ++ [d]) ⟨W.fz, W.mu ++ [a]⟩ ∧ (∀ b, Live (et ++ [d]) ⟨W.fz, W.mu ++ [a]⟩ b → Live et W b ∨ b = a) ∧ VR K mg ⟨W.fz, W.mu ++ [a]⟩ H (.ref et.length) (.ref a) ∧ (∀ q v, VR K mg W H q v → VR K mg ⟨W.fz, W.mu ++ [a]⟩ H q v) := by
  have hlen := c.len
  have x0 : Ext NoO H et W H et ⟨W.fz, W.mu ++ [a]⟩ := ⟨fun _ h => h, fun _ h => .inl h, ⟨[a], rfl⟩, fun b ⟨i, e, g1, g2, g3⟩ => by
    have g3' : (W.mu ++ [a])[i]? = some b := g3
    have : i < et.length := (List.getElem?_eq_some_iff.mp g1).1
    rw [List.getElem?_append_left (by omega)] at g3'
    exact .inl ⟨i, e, g1, g2, g3'⟩, fun _ _ h _ _ => h, fun _ h => h⟩
  have low : ∀ {k : Nat} {u : Cell} {b : Addr}, (et ++ [d])[k]? = some u → (W.mu ++ [a])[k]? = some b → (k < et.length ∧ et[k]? = some u ∧ W.mu[k]? = some b) ∨ (k = et.length ∧ u = d ∧ b = a) := fun {k u b} g1 g3 => by
    by_cases hk : k < et.length
    · rw [List.getElem?_append_left hk] at g1
      rw [List.getElem?_append_left (by omega)] at g3
      exact .inl ⟨hk, g1, g3⟩
    · have hk2 : k = et.length := by
        have := (List.getElem?_eq_some_iff.mp g1).1
        rw [List.length_append, List.length_singleton] at this
        omega
      subst hk2
      rw [List.getElem?_append_right (Nat.le_refl _)] at g1
      rw [hlen, List.getElem?_append_right (Nat.le_refl _)] at g3
      simp at g1 g3
      exact .inr ⟨rfl, g1.symm, g3.symm⟩
  have hlv : ∀ b, Live (et ++ [d]) ⟨W.fz, W.mu ++ [a]⟩ b → Live et W b ∨ b = a := fun b ⟨j, u, h1, h2, h3⟩ => by
    rcases low h1 h3 with ⟨_, a2, a3⟩ | ⟨_, _, e⟩
    · exact .inl ⟨j, u, a2, h2, a3⟩
    · exact .inr e
  refine ⟨⟨by show (et ++ [d]).length = (W.mu ++ [a]).length; simp [hlen], fun j u b h1 h2 => ?_, fun i j u w b h1 h2 h3 h4 h5 h6 => ?_, fun b h z => ?_, c.fzh⟩, hlv, ?_, fun q v h => VR.ext x0 c.stays0 q v h⟩
  · rcases low h1 h2 with ⟨_, a2, a3⟩ | ⟨_, rfl, rfl⟩
    · exact CellOk.ext x0 c.stays0 (c.ok j u b a2 a3) fun _ => rfl
    · exact ho
  · rcases low h1 h5 with ⟨a1, a2, a3⟩ | ⟨a1, _, a4⟩
    · rcases low h2 h6 with ⟨b1, b2, b3⟩ | ⟨b1, _, b4⟩
      · exact c.inj i j u w b a2 b2 h3 h4 a3 b3
      · subst b4; exact absurd ⟨i, u, a2, h3, a3⟩ hl
    · rcases low h2 h6 with ⟨b1, b2, b3⟩ | ⟨b1, _, b4⟩
      · subst a4; exact absurd ⟨j, w, b2, h4, b3⟩ hl
      · omega
  · rcases hlv b z with z | rfl
    · exact c.fzl b h z
    · exact hf h
  · unfold VR
    exact ⟨a, rfl, by show (W.mu ++ [a])[et.length]? = some a; rw [hlen]; simp⟩
end
section
variable {K : PySem.W.Frag} {mg : Str → Option Value} {c f : Str} {C : Addr} {cs : List Str}
end
section
variable {X : Cx} {o e : Expr} {es : List Expr} {mo mv : EM PV} {ms : EM (List PV)} {pos pos' apos : Pos} {f : Str} {cs : List Str}
section
variable {c m : Str} {C fa : Addr} {fd : FuncData} {ps : List Str} {k n : Nat} {sp : FSpec}
end
end
end Mw
namespace TS3
open PySem PySem.Spec PyProof.Rows L2 SrtO Srt Mw
def headS (h : Heap) (v : Value) : Str := match v with
  | .ref a => match h.get? a with
    | some o => match o.data with
      | .seq its _ => match its[0]? with
        | some (Value.str x _) => x
        | _ => Str.empty
      | _ => Str.empty
    | none => Str.empty
  | _ => Str.empty
def IsTS (h : Heap) (v : Value) : Prop := ∃ a o x t r n, v = .ref a ∧ h.get? a = some o ∧ o.cls = .type "tuple" ∧ o.data = .seq (List.toArray (Value.str x t :: r)) n
theorem head_of {h : Heap} {a : Addr} {o : Obj} {x : Str} {t : Tok} {r : List Value} {n : Nat} (ho : h.get? a = some o) (hd : o.data = .seq (List.toArray (Value.str x t :: r)) n) : headS h (.ref a) = x := by
  unfold headS
  simp only [ho, hd]
  rfl
theorem IsTS.keeps {h h' : Heap} {v : Value} (p : IsTS h v) (k : ∀ b o, h.get? b = some o → o.cls = .type "tuple" → h'.get? b = some o) : IsTS h' v ∧ headS h' v = headS h v := by
  obtain ⟨a, o, x, t, r, n, rfl, ho, hc, hd⟩ := p
  have ho' := k _ _ ho hc
  exact ⟨⟨a, o, x, t, r, n, rfl, ho', hc, hd⟩, by rw [head_of ho' hd, head_of ho hd]⟩
def ltS (x y : Str) : Bool := decide (x.cps.toList < y.cps.toList)
theorem ltS_swo {α : Type} (k : α → Str) : Swo fun v u => ltS (k v) (k u) := by
  refine ⟨fun x y h => ?_, fun x y z h1 h2 => ?_⟩
  · unfold ltS at h ⊢
    rw [decide_eq_true_eq] at h
    exact decide_eq_false (List.lt_asymm h)
  · unfold ltS at h1 h2 ⊢
    rw [decide_eq_false_iff_not] at h1 h2 ⊢
    exact leS_trans (a := k x) (b := k y) (c := k z) h1 h2
section
variable {prog : Program} {w : World} {A : Around} {E : Value → Shared → Prop} {s : Shared}
theorem lex_same {b : Bool} {Q : Bool → Shared → Prop} : ∀ (l : List Value) (i : Nat), Q false s → PySem.W.KatLex prog w A b false Q (l.zip l) i s
  | [], i, h => PySem.W.kat_nil h
  | v :: l, i, h => PySem.W.kat_cons (SeqAt.EqAt.same v prog w _ _ (PySem.W.kat_go (fun _ => PySem.W.kat_yes (lex_same l (i + 1) h)) fun e => nomatch e))
theorem ts_cmp {vs : List Value} (hp : ∀ v ∈ vs, IsTS s.heap v) (hd : ∀ v ∈ vs, ∀ u ∈ vs, headS s.heap v = headS s.heap u → v = u) : Cmp prog w A s (tuples' true) (fun p => p.1 ∈ vs) (lt2 fun v u => ltS (headS s.heap v) (headS s.heap u)) := by
  intro p q hm hm'
  show wpAny (model prog w) A (keyLt' (tuples' true) p.1 q.1) (fun r s' => s' = s ∧ r = ltS (headS s.heap p.1) (headS s.heap q.1)) (fun _ _ => False) s
  by_cases e : headS s.heap p.1 = headS s.heap q.1
  · have e2 := hd _ hm _ hm' e
    rw [← e2]
    obtain ⟨a, o, x, t, r, n, e3, ho, hc, hda⟩ := hp _ hm
    rw [e3]
    refine PySem.W.kat_lt ho hda ho hda ?_
    rw [show decide ((List.toArray (Value.str x t :: r)).size < (List.toArray (Value.str x t :: r)).size) = false from decide_eq_false (Nat.lt_irrefl _)]
    refine lex_same _ 0 ⟨rfl, ?_⟩
    unfold ltS
    exact (decide_eq_false (List.lt_irrefl _)).symm
  · obtain ⟨a, o, x, t, r, n, e3, ho, hc, hda⟩ := hp _ hm
    obtain ⟨a', o', x', t', r', n', e3', ho', hc', hda'⟩ := hp _ hm'
    rw [e3, e3'] at e ⊢
    rw [head_of ho hda, head_of ho' hda'] at e ⊢
    refine PySem.W.kat_lt ho hda ho' hda' ?_
    show PySem.W.KatLex prog w A true _ _ ((.str x t, .str x' t') :: r.zip r') 0 s
    refine PySem.W.kat_cons (SeqAt.EqAt.str_str x t x' t' prog w _ _ ?_)
    refine PySem.W.kat_go (fun e1 => absurd (by simpa using e1) e) (fun e1 => ?_)
    exact PySem.W.kat_no (oneLt_str ⟨rfl, rfl⟩)
theorem firsts_ts {h : Heap} : ∀ {vs : List Value}, (∀ v ∈ vs, IsTS h v) → ∃ fs : List Value, PySem.W.KatTups h vs fs ∧ fs.length = vs.length ∧ ∀ f ∈ fs, ∃ x t, f = Value.str x t
  | [], _ => ⟨[], PySem.W.KatTups.nil, rfl, fun _ hm => by simp at hm⟩
  | v :: vs, hp => by
    obtain ⟨fs, h1, h2, h3⟩ := firsts_ts (vs := vs) fun v' hm => hp v' (List.mem_cons_of_mem _ hm)
    obtain ⟨a, o, x, t, r, n, e, ho, hc, hd⟩ := hp v (List.mem_cons_self ..)
    subst e
    refine ⟨.str x t :: fs, PySem.W.KatTups.cons ho hc hd rfl h1, by rw [List.length_cons, List.length_cons, h2], fun f hm => ?_⟩
    rcases List.mem_cons.mp hm with rfl | hm
    · exact ⟨x, t, rfl⟩
    · exact h3 f hm
theorem ts_sortable {a : Addr} {vs : List Value} {k : Value → Str} (hk : ∀ v ∈ vs, headS s.heap v = k v) (h0 : 0 < vs.length) (hp : ∀ v ∈ vs, IsTS s.heap v) (hd : ∀ v ∈ vs, ∀ u ∈ vs, k v = k u → v = u) (ha : ∀ o, s.heap.get? a = some o → o.cls ≠ .type "tuple") : SortableO prog w A s a vs fun v u => ltS (k v) (k u) := by
  intro h' keep
  have kp : ∀ v ∈ vs, IsTS h' v ∧ headS h' v = headS s.heap v := fun v hm => (hp v hm).keeps fun b o e c => keep b o (fun z => by subst z; exact ha o e c) e
  obtain ⟨fs, h1, h2, h3⟩ := firsts_ts fun v hm => (kp v hm).1
  refine ⟨tuples' true, fun Q E hq => ?_, ?_⟩
  · refine PySem.W.kat_kind (T := .type "str") h1 (by omega) (fun f hm => ?_) (by rfl) ?_
    · obtain ⟨x, t, rfl⟩ := h3 f hm
      exact PySem.W.Looks.now
    · have e : (Value.type "str" != Value.type "tuple") = true := by first | decide +kernel | rfl | decide
      rw [e]
      exact hq
  · intro p q hm hm'
    have := ts_cmp (prog := prog) (w := w) (A := A) (s := { s with heap := h' }) (vs := vs) (fun v hm => (kp v hm).1) (fun v hm u hm' e => hd v hm u hm' (by rw [← hk v hm, ← hk u hm', ← (kp v hm).2, ← (kp u hm').2]; exact e)) p q hm hm'
    have e1 : headS h' p.1 = k p.1 := by rw [(kp _ hm).2, hk _ hm]
    have e2 : headS h' q.1 = k q.1 := by rw [(kp _ hm').2, hk _ hm']
    show wpAny (model prog w) A (keyLt' (tuples' true) p.1 q.1) (fun r s' => s' = { s with heap := h' } ∧ r = ltS (k p.1) (k q.1)) (fun _ _ => False) { s with heap := h' }
    rw [← e1, ← e2]
    exact this
theorem sorted_ts {l : Addr} {vs : List Value} {Q : Value → Shared → Prop} (hl : s.heap.IsList l vs.toArray) (hz : vs.length ≤ sizeLine) (hp : ∀ v ∈ vs, IsTS s.heap v) (hd : ∀ v ∈ vs, ∀ u ∈ vs, headS s.heap v = headS s.heap u → v = u)
    (h : ∀ (h' : Heap) (d : Addr) (out : List Value), Srtd (fun v u => ltS (headS s.heap v) (headS s.heap u)) out → out.Perm vs → (∀ b o, s.heap.get? b = some o → h'.get? b = some o) → s.heap.objs.size ≤ d → (∃ n, h'.get? d = some (seqObj "list" out.toArray n)) → Q (.ref d) { s with heap := h' }) :
    wpAny (model prog w) A (call (.builtin "sorted") [.ref l]) Q E s := by
  refine sorted_ord (ltS_swo (headS s.heap)) hl hz (fun h2 h₁ a ha kk => ?_) fun out hs hb => ?_
  · have kp : ∀ v ∈ vs, IsTS h₁ v ∧ headS h₁ v = headS s.heap v := fun v hm => (hp v hm).keeps fun b o e _ => (kk b o e).2
    refine ts_sortable (s := { s with heap := h₁ }) (fun v hm => (kp v hm).2) (by omega) (fun v hm => (kp v hm).1) hd fun o e => ?_
    have e' : some o = some (seqObj "list" vs.toArray 0) := e.symm.trans ha
    cases e'
    intro c
    exact absurd (Value.type.inj c) (by decide)
  · exact h _ _ out hs hb.perm (fun b o e => sortedAll_old e) (Nat.le_succ _) (sortedAll_at s.heap vs out.toArray)
end
def KeyOf (K : PySem.W.Frag) (H : Hp) (x : V) (z : Str) : Prop := ∃ t r, x = .ref t ∧ SqT K H t (.str z :: r)
def rSortedT (K : PySem.W.Frag) : List V → Hp → VK → Prop := fun vs H Q => ∃ (a : Addr) (xs : List V), vs = [V.ref a] ∧ SqL K H a xs ∧ (∃ ks : List Str, ks.Nodup ∧ xs.length = ks.length ∧ ∀ (i : Nat) (x : V) (z : Str), xs[i]? = some x → ks[i]? = some z → KeyOf K H x z) ∧
  ∀ ys p, ys.Perm xs → ys.Pairwise (fun x y => ∀ z u, KeyOf K H x z → KeyOf K H y u → leS z u) → H p = none → Q (.ref p) (upd H p (.lst ys))
section
variable {X : Cx}
theorem key_head {pins : List (Addr × Obj)} {σ : L2.St} {H : Hp} {s : Shared} (I : Inv X pins σ H s) {t : Addr} {z : Str} (h : KeyOf X.K H (.ref t) z) : IsTS s.heap (.ref t) ∧ headS s.heap (.ref t) = z := by
  obtain ⟨t', r, e, h⟩ := h
  cases e
  obtain ⟨its, rv, ⟨o, ho, hc, n, hd⟩, _⟩ := I.tuple h
  cases rv with
  | cons hx hr =>
    rename_i u us
    obtain ⟨tk, rfl⟩ := (show ∃ tk, u = Value.str z tk from hx)
    exact ⟨⟨t, o, z, tk, us, n, rfl, ho, hc, hd⟩, head_of ho hd⟩
theorem cr_sortedT : CallR X (.builtin "sorted") (rSortedT X.K) := by
  intro pins s σ H vs us Q I r h
  obtain ⟨a, xs, rfl, hs, ⟨ks, knd, klen, kat⟩, q⟩ := h
  have uq : ∀ x z z', KeyOf X.K H x z → KeyOf X.K H x z' → z = z' := fun x z z' ⟨t, r, e, h1⟩ ⟨t', r', e', h2⟩ => by
    subst e; cases e'
    have := I.tuple_inj h1 h2
    cases this; rfl
  have hx : ∀ x ∈ xs, ∃ z, KeyOf X.K H x z := fun x m => by
    obtain ⟨i, hi, e⟩ := List.mem_iff_getElem.mp m
    exact ⟨ks[i], kat i x _ (by rw [List.getElem?_eq_getElem hi, e]) (List.getElem?_eq_getElem (by omega))⟩
  have hu : ∀ x ∈ xs, ∀ y ∈ xs, ∀ z, KeyOf X.K H x z → KeyOf X.K H y z → x = y := fun x mx y my z kx ky => by
    obtain ⟨i, hi, e⟩ := List.mem_iff_getElem.mp mx
    obtain ⟨j, hj, e'⟩ := List.mem_iff_getElem.mp my
    have h1 := uq _ _ _ kx (kat i x _ (by rw [List.getElem?_eq_getElem hi, e]) (List.getElem?_eq_getElem (by omega)))
    have h2 := uq _ _ _ ky (kat j y _ (by rw [List.getElem?_eq_getElem hj, e']) (List.getElem?_eq_getElem (by omega)))
    have : i = j := (List.getElem_inj knd).mp (h1.symm.trans h2)
    subst this
    rw [← e, ← e']
  obtain ⟨its, rv, hl, hz⟩ := I.list hs
  obtain ⟨u, rfl, ru⟩ := vals1 r
  obtain rfl : u = Value.ref a := ru
  obtain ⟨e1, e2⟩ := refs_back rv fun x m => by
    obtain ⟨z, t, r, e, _⟩ := hx x m
    exact ⟨t, e⟩
  have key : ∀ t, Value.ref t ∈ its → ∃ z, KeyOf X.K H (.ref t) z ∧ V.ref t ∈ xs := fun t hv => by
    have hm : V.ref t ∈ xs := by rw [e1]; exact List.mem_map.mpr ⟨_, hv, rfl⟩
    obtain ⟨z, hk⟩ := hx _ hm
    exact ⟨z, hk, hm⟩
  refine sorted_ts hl.isList (by rw [← rv.length]; exact hz) (fun v hv => ?_) (fun v hv u hu' e => ?_) fun h' d out h1 h2 kp hd hn => ?_
  · obtain ⟨t, rfl⟩ := e2 v hv
    obtain ⟨z, hk, _⟩ := key t hv
    exact (key_head I hk).1
  · obtain ⟨t, rfl⟩ := e2 v hv
    obtain ⟨t', rfl⟩ := e2 u hu'
    obtain ⟨z, hk, m1⟩ := key t hv
    obtain ⟨z', hk', m2⟩ := key t' hu'
    rw [(key_head I hk).2, (key_head I hk').2] at e
    subst e
    have := hu _ m1 _ m2 z hk hk'
    cases this; rfl
  · have h3 : ∀ u ∈ out, ∃ a, u = Value.ref a := fun u hu => e2 u (h2.mem_iff.mp hu)
    obtain ⟨n, hn⟩ := hn
    have hb : (out.map backV).Perm xs := by
      rw [e1]
      exact h2.map backV
    refine ⟨.ref d, upd H d (.lst (out.map backV)), I.laid (t' := s.toks) kp hd ⟨?_, out, n, vals_back h3, hn⟩, rfl, q _ d hb ?_ (I.hok.fresh hd)⟩
    · rw [hb.length_eq]
      exact hz
    · rw [List.pairwise_map]
      refine h1.imp_of_mem fun {v u} hv hu' hlt => ?_
      obtain ⟨t, rfl⟩ := h3 v hv
      obtain ⟨t', rfl⟩ := h3 u hu'
      intro z z' hk hk'
      have k1 : headS s.heap (.ref t) = z := (key_head I hk).2
      have k2 : headS s.heap (.ref t') = z' := (key_head I hk').2
      have hlt' : ltS (headS s.heap (.ref t')) (headS s.heap (.ref t)) = false := hlt
      rw [k1, k2] at hlt'
      unfold ltS at hlt'
      rw [decide_eq_false_iff_not] at hlt'
      exact hlt'
end
end TS3
namespace Mw
open PySem PySem.Spec L2
section
variable {X : Cx} {K : PySem.W.Frag} {mg : Str → Option Value}
def keyT : PV → Option Str
  | .tup (.str x :: _) => some x
  | _ => none
def mSortedT (m : EM PV) : EM PV := fun ep et R => m ep et fun p et1 => ∃ (ps : List PV) (ks : List Str), deref et1 p = .lst ps ∧ ps.map keyT = ks.map some ∧ ks.Nodup ∧
  ∀ (qs : List PV) (ks' : List Str), qs.Perm ps → qs.map keyT = ks'.map some → ks'.Pairwise leS → R (.lst qs) et1
theorem VRs.perm {W : Wd} {H : Hp} {vs ws : List V} (h : ws.Perm vs) : ∀ {ps : List PV}, VRs K mg W H ps vs → ∃ qs, qs.Perm ps ∧ VRs K mg W H qs ws := by
  induction h with
  | nil => exact fun {ps} h => ⟨ps, .refl _, h⟩
  | cons x _ ih =>
    intro ps hp
    cases ps with
    | nil => unfold VRs at hp; cases hp
    | cons p ps =>
      unfold VRs at hp
      obtain ⟨v, r, e, h1, h2⟩ := hp
      cases e
      obtain ⟨qs, g1, g2⟩ := ih h2
      exact ⟨p :: qs, g1.cons p, VRs.cons h1 g2⟩
  | swap x y l =>
    intro ps hp
    cases ps with
    | nil => unfold VRs at hp; cases hp
    | cons p ps =>
      unfold VRs at hp
      obtain ⟨v, r, e, h1, h2⟩ := hp
      cases e
      cases ps with
      | nil => unfold VRs at h2; cases h2
      | cons q ps =>
        unfold VRs at h2
        obtain ⟨v, r, e, h3, h4⟩ := h2
        cases e
        exact ⟨q :: p :: ps, .swap p q ps, VRs.cons h3 (VRs.cons h1 h4)⟩
  | trans _ _ ih1 ih2 =>
    intro ps hp
    obtain ⟨qs, g1, g2⟩ := ih2 hp
    obtain ⟨rs, g3, g4⟩ := ih1 g2
    exact ⟨rs, g3.trans g1, g4⟩
theorem VR.keyT {W : Wd} {H : Hp} {p : PV} {v : V} {z : Str} (h : VR K mg W H p v) (e : Mw.keyT p = some z) : TS3.KeyOf K H v z := by
  cases p with
  | tup xs =>
    cases xs with
    | nil => cases e
    | cons x xs =>
      cases x with
      | str s =>
        cases e
        unfold VR at h
        obtain ⟨a, vs, rfl, h1, h2⟩ := h
        unfold VRs at h2
        obtain ⟨v, r, rfl, h3, h4⟩ := h2
        unfold VR at h3; subst h3
        exact ⟨a, r, rfl, h1⟩
      | _ => cases e
  | _ => cases e
end
section
variable {X : Cx}
theorem keys_at {ps : List PV} {ks : List Str} (h : ps.map keyT = ks.map some) {i : Nat} {p : PV} (hp : ps[i]? = some p) : ∃ z, ks[i]? = some z ∧ keyT p = some z := by
  have e : (ps.map keyT)[i]? = (ks.map some)[i]? := by rw [h]
  rw [List.getElem?_map, List.getElem?_map, hp] at e
  cases q : ks[i]? with
  | none => rw [q] at e; cases e
  | some z => rw [q] at e; exact ⟨z, rfl, by simpa using e⟩
theorem all_keys {ps : List PV} {ks : List Str} (h : ps.map keyT = ks.map some) : ∀ p ∈ ps, ∃ z, keyT p = some z := fun p hp => by
  have : keyT p ∈ ks.map some := by rw [← h]; exact List.mem_map_of_mem hp
  obtain ⟨z, _, e⟩ := List.mem_map.mp this
  exact ⟨z, e.symm⟩
theorem keys_of : ∀ {ps : List PV}, (∀ p ∈ ps, ∃ z, keyT p = some z) → ∃ ks : List Str, ps.map keyT = ks.map some
  | [], _ => ⟨[], rfl⟩
  | p :: ps, h => by
    obtain ⟨z, e⟩ := h p (by simp)
    obtain ⟨ks, e2⟩ := keys_of (ps := ps) fun q hq => h q (by simp [hq])
    exact ⟨z :: ks, by rw [List.map_cons, List.map_cons, e, e2]⟩
theorem sN_sortedT {e : Expr} {m : EM PV} {p pos : Pos} (hg : Gl X "sorted") (hm : X.mg "sorted" = none) (ha : SimP X e m) (hs : starEach [e] X.env = (false, eval e X.env) :: starEach [] X.env := by rfl) (hpl : (backTo pos (starEach [] X.env)).any (·.1) = false := by rfl) :
    SimN X (.Call (.Name "sorted" p) [e] [] pos) (mSortedT m) := by
  have h : SimAP X [e] (mCons m mNil) := sAP_cons ha sAP_nil hs
  refine weakE (pe_callB TS3.cr_sortedT hg hm PyProof.Rows.boot_sorted h (by decide) (by decide) hs hpl) fun σ H Q ⟨ep, et, W, R, c, s, e, q⟩ => ?_
  refine ⟨ep, et, W, fun as et1 => (match as with | [p] => ∃ (ps : List PV) (ks : List Str), deref et1 p = .lst ps ∧ ps.map keyT = ks.map some ∧ ks.Nodup ∧ ∀ (qs : List PV) (ks' : List Str), qs.Perm ps → qs.map keyT = ks'.map some → ks'.Pairwise leS → R (.lst qs) et1 | _ => False), c, s, ?_, fun as et1 r1 vs H1 W1 x1 c1 p1 => ?_⟩
  · unfold mCons mNil
    unfold mSortedT at e
    exact e
  · have r2 : ∃ p, as = [p] ∧ ∃ (ps : List PV) (ks : List Str), deref et1 p = .lst ps ∧ ps.map keyT = ks.map some ∧ ks.Nodup ∧ ∀ (qs : List PV) (ks' : List Str), qs.Perm ps → qs.map keyT = ks'.map some → ks'.Pairwise leS → R (.lst qs) et1 := by
      match as, r1 with
      | [p], r1 => exact ⟨p, rfl, r1⟩
    obtain ⟨p, rfl, ps, ks, hp, hk, hn, hR⟩ := r2
    obtain ⟨v, rfl, hv⟩ := Pks.one p1
    obtain ⟨a, us, rfl, h1, h2⟩ := hv.lst c1 hp
    have hlen : ps.length = ks.length := by
      have := congrArg List.length hk
      simpa using this
    refine ⟨a, us, rfl, SqL.of h1, ⟨ks, hn, by rw [← h2.len]; exact hlen, fun i x z hx hz => ?_⟩, fun ys t hperm hpw ht => ?_⟩
    · have hi : i < ps.length := by rw [h2.len]; exact (List.getElem?_eq_some_iff.mp hx).1
      obtain ⟨x', g1, g2⟩ := h2.get (List.getElem?_eq_getElem hi)
      rw [hx] at g1; cases g1
      obtain ⟨z', g3, g4⟩ := keys_at hk (List.getElem?_eq_getElem hi)
      rw [hz] at g3; cases g3
      exact g2.keyT g4
    · obtain ⟨qs, g1, g2⟩ := VRs.perm hperm h2
      obtain ⟨ks', g3⟩ := keys_of (ps := qs) fun q hq => all_keys hk q (g1.mem_iff.mp hq)
      obtain ⟨x2, c2, r2⟩ := new_own c1 ht g2
      refine q (.lst qs) et1 (hR qs ks' g1 g3 ?_) (.ref t) _ _ (x1.NoO_trans x2) c2 (early_N _ _ _ _ _ _ _ _ _ _ _ x1 r2)
      have hl' : qs.length = ks'.length := by simpa using congrArg List.length g3
      refine List.pairwise_iff_getElem.mpr fun i j hi hj hij => ?_
      have e1 : qs[i]? = some qs[i] := List.getElem?_eq_getElem (by omega)
      have e2 : qs[j]? = some qs[j] := List.getElem?_eq_getElem (by omega)
      obtain ⟨y1, f1, f2⟩ := g2.get e1
      obtain ⟨y2, f3, f4⟩ := g2.get e2
      obtain ⟨z1, f5, f6⟩ := keys_at g3 e1
      obtain ⟨z2, f7, f8⟩ := keys_at g3 e2
      obtain ⟨l1, l2⟩ := List.getElem?_eq_some_iff.mp f1
      obtain ⟨l3, l4⟩ := List.getElem?_eq_some_iff.mp f3
      obtain ⟨_, l5⟩ := List.getElem?_eq_some_iff.mp f5
      obtain ⟨_, l6⟩ := List.getElem?_eq_some_iff.mp f7
      rw [l5, l6]
      exact List.pairwise_iff_getElem.mp hpw i j l1 l3 hij z1 z2 (l2 ▸ f2.keyT f6) (l4 ▸ f4.keyT f8)
end
end Mw
namespace Mw
open PySem PySem.Spec PyProof.Rows L2
section
variable {X : Cx}
def mAugSub (g : Int → Int → Int) (mo mi me : EM PV) : SM := fun ep et R => mo ep et fun q et1 => mi ep et1 fun k et2 => ∃ n xs i a, q = .ref n ∧ et2[n]? = some (.lst xs) ∧ k = .int i ∧ atI xs i = some (.int a) ∧
  me ep et2 fun p et3 => ∃ b ys j, p = .int b ∧ et3[n]? = some (.lst ys) ∧ ixN ys.length i = some j ∧ R .nx ep (et3.set n (.lst (ys.set j (.int (g a b)))))
end
def gRepT : PV → PV → Option PV
  | .tup xs, .int k => if xs.isEmpty = false ∧ 0 ≤ k ∧ k ≤ 1000 ∧ xs.length ≤ 1000 then some (.tup (List.replicate k.toNat xs).flatten) else none
  | _, _ => none
section
variable {K : PySem.W.Frag} {mg : Str → Option Value}
end
theorem atI_c3 {α : Type} (x y z u : α) (xs : List α) : atI (x :: y :: z :: u :: xs) 3 = some u := by
  unfold atI ixN; simp
  rw [if_pos (by omega)]; rfl
theorem atI_c4 {α : Type} (x y z u v : α) (xs : List α) : atI (x :: y :: z :: u :: v :: xs) 4 = some v := by
  unfold atI ixN; simp
  rw [if_pos (by omega)]; rfl
end Mw
namespace HT
open PySem PySem.Spec PyProof.Rows L2
section
variable {prog : Program} {w : World} {A : Around} {E : Value → Shared → Prop} {s : Shared}
end
end HT
namespace Mw
open PySem PySem.Spec PyProof.Rows L2
end Mw
namespace Mw
open PySem PySem.Spec PyProof.Rows L2
section
variable {X : Cx}
end
section
variable {K : PySem.W.Frag} {mg : Str → Option Value} {W : Wd} {H : Hp}
end
section
variable {X : Cx}
end
section
variable {K : PySem.W.Frag} {mg : Str → Option Value} {W : Wd} {H : Hp}
end
section
variable {X : Cx}
end
section
variable {X : Cx} {e : Expr} {es : List Expr} {ms : EM (List PV)} {x : Str} {p pos : Pos} {i k n : Nat} {S : Str → FSpec}
end
structure DefT (K : PySem.W.Frag) (mg : Str → Option Value) (x : Str) (st : Stmt) (ps : List Str) where
  a : Addr
  f : FuncData
  F : Fun K x x st a f
  b : Binds K f ps []
  m : mg x = some (.ref a)
end Mw
namespace Mw
open PySem PySem.Spec PyProof.Rows L2
theorem lookup_mem {s n : Str} : ∀ {tab : List (Str × Str)}, tab.lookup s = some n → (s, n) ∈ tab
  | [], h => by cases h
  | (k, v) :: r, h => by
    by_cases hk : (s == k) = true
    · simp only [List.lookup, hk] at h
      cases h
      rw [eq_of_beq hk]
      exact List.mem_cons_self ..
    · have hk' : (s == k) = false := by simpa using hk
      simp only [List.lookup, hk'] at h
      exact List.mem_cons_of_mem _ (lookup_mem h)
end Mw
namespace Mw
open PySem PySem.Spec PyProof.Rows L2
section
variable {X : Cx} {ms : EM (List PV)} {pos : Pos}
end
end Mw
namespace Mw
open PySem PySem.Spec L2
section
variable {K : PySem.W.Frag} {mg : Str → Option Value}
end
theorem doks_map {α : Type} {f : α → PV} {n : Nat} : ∀ (l : List α), (∀ a ∈ l, dok (f a) = true ∧ dpt (f a) ≤ n) → doks (l.map f) = true ∧ dpts (l.map f) ≤ n
  | [], _ => ⟨rfl, Nat.zero_le _⟩
  | a :: l, h => by
    obtain ⟨h1, h2⟩ := h a (List.mem_cons_self ..)
    obtain ⟨h3, h4⟩ := doks_map l fun b hb => h b (List.mem_cons_of_mem _ hb)
    refine ⟨by simp [doks, h1, h3], ?_⟩
    simp only [List.map_cons, dpts]; omega
end Mw
namespace L2
open PySem PySem.Spec PyProof.Rows
section
variable {X : Cx}
end
end L2
namespace Mw
open PySem PySem.Spec L2
section
variable {K : PySem.W.Frag} {mg : Str → Option Value}
end
end Mw
namespace Mw
open PySem PySem.Spec L2
section
variable {X : Cx} {st : Stmt} {rest : List Stmt} {m n : SM} {e : Expr} {me : EM PV} {pos : Pos}
end
section
variable {X : Cx} {tg e : Expr} {me : EM PV} {ms : EM (List PV)} {pos : Pos}
end
section
variable {X : Cx} {pos : Pos}
end
end Mw
namespace Mw
open PySem PySem.Spec L2
section
variable {X : Cx} {a b : Expr} {ma mb : EM PV} {pos : Pos}
end
end Mw
namespace Mw
open PySem PySem.Spec L2
section
variable {X : Cx}
end
section
variable {K : PySem.W.Frag} {mg : Str → Option Value} {H : Hp} {et : Hi} {W : Wd}
end
section
variable {X : Cx} {e tg : Expr} {me : EM PV} {m : SM} {st : Stmt}
end
end Mw
namespace Mw
open PySem PySem.Spec L2
section
variable {K : PySem.W.Frag} {mg : Str → Option Value} {W : Wd} {H : Hp}
end
end Mw
namespace Mw
open PySem PySem.Spec L2
section
variable {X : Cx} {m : EM PV} {pos : Pos}
end
end Mw
namespace Mw
open PySem PySem.Spec L2
def NkV (X : Cx) (H : Hp) (k : NestedKey) (y : V) : Prop := ∀ (pins : List (Addr × Obj)) (σ : L2.St) (s : Shared) (u : Value), Inv X pins σ H s → RelV y u → NestedIs s.heap k u
mutual
theorem VR.nkv {X : Cx} {W : Wd} {H : Hp} : ∀ (p : PV) (v : V) (k : NestedKey), VR X.K X.mg W H p v → nkP p = some k → NkV X H k v
  | .non, v, k, h, e => fun pins σ s u I r => by
    unfold VR at h; unfold nkP at e; cases e; subst h
    have r : u = Value.none := r
    subst r; exact .none
  | .bl b, v, k, h, e => fun pins σ s u I r => by
    unfold VR at h; unfold nkP at e; cases e; subst h
    have r : u = Value.bool b := r
    subst r; exact .bool rfl
  | .int i, v, k, h, e => fun pins σ s u I r => by
    unfold VR at h; unfold nkP at e; cases e; subst h
    obtain ⟨t, rfl⟩ : ∃ t, u = Value.int i t := r
    exact .int i t
  | .str x, v, k, h, e => fun pins σ s u I r => by
    unfold VR at h; unfold nkP at e; cases e; subst h
    obtain ⟨t, rfl⟩ : ∃ t, u = Value.str x t := r
    exact .text x t
  | .tup xs, v, k, h, e => fun pins σ s u I r => by
    unfold VR at h; unfold nkP at e
    obtain ⟨a, vs, rfl, hs, hv⟩ := h
    obtain ⟨ks, e1, rfl⟩ := Option.map_eq_some_iff.mp e
    have r : u = Value.ref a := r
    subst r
    obtain ⟨its, rel, ⟨o, ho, hc, n, hd⟩, _⟩ := I.tuple hs.sq
    exact .tup ho hc hd (by simpa using VRs.nkv xs vs ks hv e1 pins σ s its I rel)
  | .lst _, v, k, h, e => by unfold nkP at e; cases e
  | .dic _, v, k, h, e => by unfold nkP at e; cases e
  | .scr _, v, k, h, e => by unfold nkP at e; cases e
  | .ref _, v, k, h, e => by unfold nkP at e; cases e
  | .glo _, v, k, h, e => by unfold nkP at e; cases e
  | .ty _, v, k, h, e => by unfold nkP at e; cases e
  | .dik _, v, k, h, e => by unfold nkP at e; cases e
theorem VRs.nkv {X : Cx} {W : Wd} {H : Hp} : ∀ (ps : List PV) (vs : List V) (ks : List NestedKey), VRs X.K X.mg W H ps vs → nkPs ps = some ks → ∀ (pins : List (Addr × Obj)) (σ : L2.St) (s : Shared) (us : List Value), Inv X pins σ H s → Vals vs us → NestedAll s.heap ks us
  | [], vs, ks, h, e => fun pins σ s us I r => by
    unfold VRs at h; unfold nkPs at e; cases e; subst h; cases r; exact .nil
  | p :: ps, vs, ks, h, e => fun pins σ s us I r => by
    unfold VRs at h; unfold nkPs at e
    obtain ⟨v, t, rfl, h1, h2⟩ := h
    obtain ⟨k, e1, e2⟩ := Option.bind_eq_some_iff.mp e
    obtain ⟨kt, e3, rfl⟩ := Option.map_eq_some_iff.mp e2
    cases r with
    | cons r1 r2 => exact .cons (VR.nkv p v k h1 e1 pins σ s _ I r1) (VRs.nkv ps t kt h2 e3 pins σ s _ I r2)
end
abbrev PrE : List (NestedKey × Addr × V) → List (NestedKey × Addr × Value) → Prop := Paired fun p q => p.1 = q.1 ∧ p.2.1 = q.2.1 ∧ RelV p.2.2 q.2.2
def atE (es : List (NestedKey × Addr × V)) (k : NestedKey) : Option V := (es.find? fun e => decide (e.1 = k)).map (·.2.2)
def putE (es : List (NestedKey × Addr × V)) (k : NestedKey) (b : Addr) (v : V) : List (NestedKey × Addr × V) :=
  if (atE es k).isSome = true then es.map (fun x => if x.1 = k then (x.1, x.2.1, v) else x) else es ++ [(k, b, v)]
theorem PrE.at {k : NestedKey} : ∀ {es : List (NestedKey × Addr × V)} {xs : List (NestedKey × Addr × Value)}, PrE es xs → RelO (atE es k) ((atKey xs k).map (·.2))
  | _, _, .nil => trivial
  | _, _, @Paired.cons _ _ _ p q es xs h t => by
    by_cases e : p.1 = k
    · have e' : q.1 = k := by rw [← h.1]; exact e
      simp [atE, atKey, List.find?, e, e', RelO]
      exact h.2.2
    · have e' : ¬ q.1 = k := by rw [← h.1]; exact e
      have := PrE.at (k := k) t
      simpa [atE, atKey, List.find?, e, e'] using this
theorem PrE.length {es : List (NestedKey × Addr × V)} {xs : List (NestedKey × Addr × Value)} (h : PrE es xs) : es.length = xs.length := Paired.length h
theorem PrE.map {k : NestedKey} {v : V} {u : Value} (r : RelV v u) : ∀ {es : List (NestedKey × Addr × V)} {xs : List (NestedKey × Addr × Value)}, PrE es xs → PrE (es.map fun x => if x.1 = k then (x.1, x.2.1, v) else x) (xs.map (putAt k u))
  | _, _, .nil => .nil
  | _, _, @Paired.cons _ _ _ p q es xs h t => by
    refine .cons ?_ (PrE.map r t)
    by_cases e : p.1 = k
    · have e' : q.1 = k := by rw [← h.1]; exact e
      simp only [if_pos e, putAt, if_pos e']
      exact ⟨h.1, h.2.1, r⟩
    · have e' : ¬ q.1 = k := by rw [← h.1]; exact e
      simp only [if_neg e, putAt, if_neg e']
      exact h
theorem Paired.snoc {α β : Type} {F : α → β → Prop} {x : α} {y : β} (h : F x y) : ∀ {l : List α} {m : List β}, Paired F l m → Paired F (l ++ [x]) (m ++ [y])
  | _, _, .nil => .cons h .nil
  | _, _, .cons a t => .cons a (Paired.snoc h t)
theorem PrE.put {es : List (NestedKey × Addr × V)} {xs : List (NestedKey × Addr × Value)} (h : PrE es xs) (k : NestedKey) (b : Addr) {v : V} {u : Value} (r : RelV v u) : PrE (putE es k b v) (storedH xs k b u) := by
  have ha := PrE.at (k := k) h
  unfold putE storedH
  cases e1 : atE es k with
  | some x =>
    cases e2 : atKey xs k with
    | none => rw [e1, e2] at ha; exact ha.elim
    | some y => exact PrE.map r h
  | none =>
    cases e2 : atKey xs k with
    | some y => rw [e1, e2] at ha; exact ha.elim
    | none => exact Paired.snoc ⟨rfl, rfl, r⟩ h
section
variable {X : Cx} {pins : List (Addr × Obj)} {σ : L2.St} {H : Hp} {s : Shared} {a b : Addr} {es : List (NestedKey × Addr × V)} {k : NestedKey} {v : V} {u : Value} {A : Around} {E : Value → Shared → Prop}
end
section
variable {X : Cx} {o i e value : Expr} {pos pos' tpos : Pos} {td ty tv : TE}
end
def ndAt (kvs : List (PV × PV)) (p : PV) : Option PV := (kvs.find? fun kv => decide (nkP kv.1 = nkP p)).map (·.2)
def ndPut (kvs : List (PV × PV)) (p v : PV) : List (PV × PV) := if (ndAt kvs p).isSome = true then kvs.map (fun kv => if nkP kv.1 = nkP p then (kv.1, v) else kv) else kvs ++ [(p, v)]
section
variable {K : PySem.W.Frag} {mg : Str → Option Value} {W : Wd} {H : Hp}
theorem VRn.at {p : PV} {k : NestedKey} (hk : nkP p = some k) : ∀ {kvs : List (PV × PV)} {es : List (NestedKey × Addr × V)}, VRn K mg W H kvs es → (∀ q, ndAt kvs p = some q → ∃ v, atE es k = some v ∧ VR K mg W H q v) ∧ (ndAt kvs p = none → atE es k = none)
  | [], es, h => by unfold VRn at h; subst h; exact ⟨(fun q e => nomatch e), fun _ => rfl⟩
  | (x, y) :: kvs, es, h => by
    unfold VRn at h
    obtain ⟨k', b, v, r, rfl, h1, _, _, h4, h5, h6⟩ := h
    have ih := VRn.at hk h6
    by_cases e : k' = k
    · have e' : nkP x = nkP p := by rw [h1, hk, e]
      refine ⟨fun q hq => ⟨v, by simp [atE, List.find?, e], ?_⟩, fun hn => by simp [ndAt, List.find?, e'] at hn⟩
      have : y = q := by simpa [ndAt, List.find?, e'] using hq
      rw [← this]; exact h5
    · have e' : ¬ nkP x = nkP p := by rw [h1, hk]; exact fun z => e (Option.some.inj z)
      have e1 : atE ((k', b, v) :: r) k = atE r k := by simp [atE, List.find?, e]
      have e2 : ndAt ((x, y) :: kvs) p = ndAt kvs p := by simp [ndAt, List.find?, e']
      rw [e1, e2]; exact ih
theorem VRn.at_some {p : PV} {k : NestedKey} (hk : nkP p = some k) {kvs : List (PV × PV)} {es : List (NestedKey × Addr × V)} (h : VRn K mg W H kvs es) : (atE es k).isSome = (ndAt kvs p).isSome := by
  cases e : ndAt kvs p with
  | none => rw [(VRn.at hk h).2 e]; rfl
  | some q => obtain ⟨v, e1, _⟩ := (VRn.at hk h).1 q e; rw [e1]; rfl
theorem VRn.len : ∀ {kvs : List (PV × PV)} {es : List (NestedKey × Addr × V)}, VRn K mg W H kvs es → kvs.length = es.length
  | [], es, h => by unfold VRn at h; subst h; rfl
  | (x, y) :: kvs, es, h => by
    unfold VRn at h
    obtain ⟨k', b, v, r, rfl, _, _, _, _, _, h6⟩ := h
    rw [List.length_cons, List.length_cons, VRn.len h6]
theorem VRn.snoc {p q : PV} {k : NestedKey} {b : Addr} {v : V} (hk : nkP p = some k) (hl : nlow k = true) (h8 : k.depth ≤ 8) (hp : VR K mg W H p (.ref b)) (hq : VR K mg W H q v) : ∀ {kvs : List (PV × PV)} {es : List (NestedKey × Addr × V)}, VRn K mg W H kvs es → VRn K mg W H (kvs ++ [(p, q)]) (es ++ [(k, b, v)])
  | [], es, h => by unfold VRn at h; subst h; unfold VRn; exact ⟨k, b, v, [], rfl, hk, hl, h8, hp, hq, by unfold VRn; rfl⟩
  | (x, y) :: kvs, es, h => by
    unfold VRn at h
    obtain ⟨k', b', v', r, rfl, h1, h2, h3, h4, h5, h6⟩ := h
    show VRn K mg W H ((x, y) :: (kvs ++ [(p, q)])) _
    unfold VRn
    exact ⟨k', b', v', r ++ [(k, b, v)], rfl, h1, h2, h3, h4, h5, VRn.snoc hk hl h8 hp hq h6⟩
theorem VRn.map {p q : PV} {k : NestedKey} {v : V} (hk : nkP p = some k) (hq : VR K mg W H q v) : ∀ {kvs : List (PV × PV)} {es : List (NestedKey × Addr × V)}, VRn K mg W H kvs es → VRn K mg W H (kvs.map fun kv => if nkP kv.1 = nkP p then (kv.1, q) else kv) (es.map fun x => if x.1 = k then (x.1, x.2.1, v) else x)
  | [], es, h => by unfold VRn at h; subst h; unfold List.map; unfold VRn; rfl
  | (x, y) :: kvs, es, h => by
    unfold VRn at h
    obtain ⟨k', b', v', r, rfl, h1, h2, h3, h4, h5, h6⟩ := h
    have ih := VRn.map hk hq h6
    rw [List.map_cons, List.map_cons]
    by_cases e : k' = k
    · have e' : nkP x = nkP p := by rw [h1, hk, e]
      simp only [if_pos e, if_pos e']
      unfold VRn
      exact ⟨k', b', v, _, rfl, h1, h2, h3, h4, hq, ih⟩
    · have e' : ¬ nkP x = nkP p := by rw [h1, hk]; exact fun z => e (Option.some.inj z)
      simp only [if_neg e, if_neg e']
      unfold VRn
      exact ⟨k', b', v', _, rfl, h1, h2, h3, h4, h5, ih⟩
theorem VRn.put {p q : PV} {k : NestedKey} {b : Addr} {v : V} (hk : nkP p = some k) (hl : nlow k = true) (h8 : k.depth ≤ 8) (hp : VR K mg W H p (.ref b)) (hq : VR K mg W H q v) {kvs : List (PV × PV)} {es : List (NestedKey × Addr × V)} (h : VRn K mg W H kvs es) : VRn K mg W H (ndPut kvs p q) (putE es k b v) := by
  unfold ndPut putE
  rw [VRn.at_some hk h]
  split
  · exact VRn.map hk hq h
  · exact VRn.snoc hk hl h8 hp hq h
end
section
variable {X : Cx} {W : Wd} {H : Hp}
theorem VRn.mem : ∀ {kvs : List (PV × PV)} {es : List (NestedKey × Addr × V)}, VRn X.K X.mg W H kvs es → ∀ e ∈ es, NkV X H e.1 (.ref e.2.1) ∧ nlow e.1 = true ∧ e.1.depth ≤ 8
  | [], es, h => by unfold VRn at h; subst h; intro e he; cases he
  | (x, y) :: kvs, es, h => by
    unfold VRn at h
    obtain ⟨k', b', v', r, rfl, h1, h2, h3, h4, h5, h6⟩ := h
    intro e he
    rcases List.mem_cons.mp he with rfl | he
    · exact ⟨VR.nkv _ _ _ h4 h1, h2, h3⟩
    · exact VRn.mem h6 e he
end
section
variable {X : Cx} {a b o i e : Expr} {ma mb mo mk mv : EM PV} {pos pos' : Pos}
theorem set_last {et : Hi} {c d : Cell} : (et ++ [c]).set et.length d = et ++ [d] := by
  apply List.ext_getElem?
  intro i
  by_cases h : i < et.length
  · rw [List.getElem?_set_ne (by omega), List.getElem?_append_left h, List.getElem?_append_left h]
  · by_cases h2 : i = et.length
    · subst h2
      rw [List.getElem?_set_self (by simp)]
      simp
    · rw [List.getElem?_set_ne (by omega), List.getElem?_eq_none (by simp; omega), List.getElem?_eq_none (by simp; omega)]
end
end Mw
namespace Mw
open PySem PySem.Spec L2
section
variable {K : PySem.W.Frag} {mg : Str → Option Value}
end
end Mw
namespace Mw
open PySem PySem.Spec L2
section
variable {X : Cx} {e o : Expr} {mo : EM PV} {pos p : Pos}
end
end Mw
namespace Mw
open PySem PySem.Spec L2 PyProof.Rows RT
section
variable {X : Cx}
end
end Mw
namespace Mw
open PySem PySem.Spec L2
section
variable {X : Cx} {a b : Expr} {ma mb : EM PV} {pos : Pos}
end
end Mw
namespace Mw
open PySem PySem.Spec L2
section
variable {prog : Program} {w : World} {A : Around} {E : Value → Shared → Prop} {s : Shared}
end
section
variable {X : Cx}
end
end Mw
namespace Mw
open PySem PySem.Spec L2 PyProof.Rows
section
variable {K : PySem.W.Frag} {mg : Str → Option Value}
end
end Mw
namespace Mw
open PySem PySem.Spec L2 PyProof.Rows
mutual
def VD (K : PySem.W.Frag) (H : Hp) : PyData → V → Prop
  | .int i, v => v = .int i
  | .str x, v => v = .str x
  | .bool b, v => v = .bl b
  | .none, v => v = .non
  | .tuple xs, v => ∃ a vs, v = .ref a ∧ SqT K H a vs ∧ VDs K H xs vs
  | .list _, _ => False
  | .dict _, _ => False
def VDs (K : PySem.W.Frag) (H : Hp) : List PyData → List V → Prop
  | [], vs => vs = []
  | d :: ds, vs => ∃ v r, vs = v :: r ∧ VD K H d v ∧ VDs K H ds r
end
section
variable {X : Cx} {pins : List (Addr × Obj)} {σ : L2.St} {H : Hp} {s : Shared} {W : Wd} {K : PySem.W.Frag} {mg : Str → Option Value}
mutual
theorem VD.reads (I : Inv X pins σ H s) : ∀ (d : PyData) (v : V) (u : Value), VD X.K H d v → L2.RelV v u → ∃ as, Reads s.heap u d as
  | .int i, v, u, h, r => by unfold VD at h; subst h; obtain ⟨t, rfl⟩ := r; exact ⟨_, .int i t⟩
  | .str x, v, u, h, r => by unfold VD at h; subst h; obtain ⟨t, rfl⟩ := r; exact ⟨_, .str x t⟩
  | .bool b, v, u, h, r => by unfold VD at h; subst h; unfold L2.RelV at r; subst r; exact ⟨_, .bool b⟩
  | .none, v, u, h, r => by unfold VD at h; subst h; unfold L2.RelV at r; subst r; exact ⟨_, .none⟩
  | .tuple xs, v, u, h, r => by
    unfold VD at h
    obtain ⟨a, vs, rfl, h1, h2⟩ := h
    obtain rfl : u = Value.ref a := r
    obtain ⟨its, rv, ⟨o, ho, hc, n, hd⟩, _⟩ := I.tuple h1
    obtain ⟨as, q⟩ := VDs.reads I xs vs its h2 rv
    exact ⟨as, .tuple ho hc hd q⟩
  | .list xs, v, u, h, r => by unfold VD at h; exact h.elim
  | .dict xs, v, u, h, r => by unfold VD at h; exact h.elim
theorem VDs.reads (I : Inv X pins σ H s) : ∀ (ds : List PyData) (vs : List V) (us : List Value), VDs X.K H ds vs → Vals vs us → ∃ as, ReadsAll s.heap us ds as
  | [], vs, us, h, r => by unfold VDs at h; subst h; cases r; exact ⟨_, .nil⟩
  | d :: ds, vs, us, h, r => by
    unfold VDs at h
    obtain ⟨v, vr, rfl, h1, h2⟩ := h
    cases r with
    | cons r1 r2 =>
      obtain ⟨as, q1⟩ := VD.reads I d v _ h1 r1
      obtain ⟨bs, q2⟩ := VDs.reads I ds vr _ h2 r2
      exact ⟨_, .cons q1 q2⟩
end
end
open PySem.W (minD AllAlike AlikeAll Sortable dataLe dataLt alike)
section
variable {X : Cx}
end
theorem VDs.at {K : PySem.W.Frag} {H : Hp} : ∀ {ds : List PyData} {vs : List V} {i : Nat} {v : V}, VDs K H ds vs → vs[i]? = some v → ∃ d, ds[i]? = some d ∧ VD K H d v
  | [], vs, i, v, h, e => by unfold VDs at h; subst h; cases e
  | d :: ds, vs, i, v, h, e => by
    unfold VDs at h
    obtain ⟨u, r, rfl, h1, h2⟩ := h
    cases i with
    | zero => cases e; exact ⟨d, rfl, h1⟩
    | succ i =>
      obtain ⟨d', e1, e2⟩ := VDs.at (ds := ds) (vs := r) (i := i) h2 (by simpa using e)
      exact ⟨d', by simpa using e1, e2⟩
theorem vals_back {xs : List V} {us : List Value} (r : Vals xs us) {i : Nat} {u : Value} (h : us[i]? = some u) : ∃ x, xs[i]? = some x ∧ L2.RelV x u := by
  have hlt := (List.getElem?_eq_some_iff.mp h).1
  obtain ⟨x, h1, h2⟩ := Vals.at_of r hlt
  have e := (List.getElem?_eq_some_iff.mp h).2
  exact ⟨x, h1, e ▸ h2⟩
section
variable {X : Cx}
end
section
variable {X : Cx}
end
end Mw
namespace Mw
open PySem PySem.Spec L2
section
variable {K : PySem.W.Frag} {mg : Str → Option Value}
end
end Mw
namespace Mw
open PySem PySem.Spec PyProof.Rows L2
open PySem.Sem (wp)
theorem srcK.at {b : Bool} {h h' : Heap} {a : Addr} {its : Array Value} (x : srcK b h a its) (k : ∀ o, h.get? a = some o → h'.get? a = some o) : srcK b h' a its := by
  rcases x with ⟨e, x⟩ | ⟨e, x⟩
  · exact .inl ⟨e, x.at k⟩
  · exact .inr ⟨e, x.at k⟩
section
variable {prog : Program} {w : World} {A : Around} {E : Value → Shared → Prop} {s : Shared} {z TI TO T i1 i2 : Addr} {fp1 fp2 : List Addr} {n1 n2 i : Nat} {P1 P2 : Nat → Value → Prop} {St1 St2 : Nat → Heap → Prop} {f : Bool} {oT : Obj}
end
section
variable {prog : Program} {w : World}
end
section
variable {X : Cx}
end
section
variable {X : Cx}
end
end Mw
namespace Mw
open PySem PySem.Spec PyProof.Rows L2
section
variable {K : PySem.W.Frag} {mg : Str → Option Value}
end
end Mw
namespace Mw
open PySem PySem.Spec L2
section
variable {X : Cx} {tg : Expr} {me : EM PV} {pos : Pos}
def mLcO (i : Nat) (vs : List Nat) (tg : PV → En → Option En) (mt : EM Bool) (me : EM PV) : EM PV := fun ep et R => ∃ xs, ep[i]? = some (.own (.lst xs)) ∧ lcGo [] [] tg mt me (wipeE ep vs) xs et R
def tItO (K : PySem.W.Frag) (i : Nat) : TI := fun σ H R => tVar i σ H fun x H1 => (∃ a, x = .ref a ∧ (∃ xs, SqL K H1 a xs) ∧ R (Itl K a) H1) ∨ (∃ a, x = .ref a ∧ (∃ xs, SqT K H1 a xs) ∧ R (Itt K a) H1) ∨ ∃ z, x = .str z ∧ R (Its z) H1
theorem lc_weakO {j : Nat} {g : TG} {is vs : List Nat} {tgP : PV → En → Option En} {mt : EM Bool} {me : EM PV} (gk : GOk X.K X.mg is g tgP) (hsub : ∀ i ∈ is, i ∈ vs) :
    ∀ σ H Q, tI X.K X.mg (pN X.K X.mg) (mLcO j vs tgP mt me) σ H Q → tLc (tItO X.K j) g (tT X.K X.mg mt) (tI X.K X.mg (pV X.K X.mg) me) vs σ H Q := fun σ H Q ⟨ep, et0, W0, R, c0, s0, ⟨ps, hown, Vi, hV0, hV⟩, q⟩ => by
  have hjl : j < σ.length := by rw [← s0.len]; exact (List.getElem?_eq_some_iff.mp hown).1
  obtain ⟨A, eA, vs0, hA, hvs0⟩ := s0.ok j _ _ hown (List.getElem?_eq_getElem hjl)
  have hgA : σ[j]? = some (some (V.ref A)) := by rw [List.getElem?_eq_getElem hjl, eA]
  have hliveA : ¬ Live et0 W0 A := s0.oli A ⟨j, _, hown, hgA⟩
  have wk : ∀ (H1 : Hp) (et1 : Hi) (W1 : Wd), Ext NoO H et0 W0 H1 et1 W1 → Cel X.K X.mg H1 et1 W1 → ∀ i : Nat,
      (i = ps.length → (Itl X.K A).stop i H1) ∧ ∀ p, ps[i]? = some p → (Itl X.K A).go i H1 ∧ ∀ v H2, (Itl X.K A).yld i H1 v H2 → ∃ W2, Ext NoO H1 et1 W1 H2 et1 W2 ∧ Cel X.K X.mg H2 et1 W2 ∧ VR X.K X.mg W2 H2 p v := fun H1 et1 W1 x c i => by
    have k1 : H1 A = some (.lst vs0) := x.keep A _ hA hliveA id
    have k2 : VRs X.K X.mg W1 H1 ps vs0 := VRs.ext x c0.stays0 _ _ hvs0
    refine ⟨fun hl => ⟨vs0, SqL.of k1, by rw [← k2.len]; omega⟩, fun q hq => ?_⟩
    obtain ⟨v, k3, k4⟩ := VRs.get k2 hq
    refine ⟨⟨vs0, v, SqL.of k1, k3⟩, fun u H2 hy => ?_⟩
    obtain ⟨rfl, hy⟩ := hy
    have := hy vs0 (SqL.of k1)
    rw [k3] at this; cases this
    exact ⟨W1, Ext.refl .., c, k4⟩
  refine ⟨_, hgA, .inl ⟨A, rfl, ⟨vs0, SqL.of hA⟩, fun D hD => ?_⟩⟩
  have sw := Slt.wipe s0 vs
  obtain ⟨x1, c1, r1⟩ := new_own c0 hD (VRs.nil (K := X.K) (mg := X.mg) (W := W0) (H := H))
  refine ⟨fun i k H' => k = ps.length - i ∧ i ≤ ps.length ∧ ∃ acc us et' W', Cel X.K X.mg H' et' W' ∧ Ext NoO H et0 W0 H' et' W' ∧ H' D = some (.lst us) ∧ VRs X.K X.mg W' H' acc us ∧ ¬ W'.fz D ∧ ¬ Live et' W' D ∧ Vi i acc et',
    ⟨ps.length, by simp, Nat.zero_le _, [], [], et0, W0, c1, x1, upd_same, VRs.nil, fun z => c0.fzh D z hD, c0.not_live hD, hV0⟩, ?_⟩
  rintro i k H' ⟨rfl, hi, acc, us, et', W', c', x', hD', va, hf, hl, r'⟩
  by_cases hlt : i < ps.length
  · obtain ⟨hsrc, r2, _⟩ := hV i acc et' r'
    obtain ⟨ep1, ht, r2⟩ := r2 ps[i] (List.getElem?_eq_getElem hlt)
    obtain ⟨go, yl⟩ := (wk H' et' W' x' c' i).2 ps[i] (List.getElem?_eq_getElem hlt)
    refine .inr ⟨go, fun H' => ∃ acc us et' W', Cel X.K X.mg H' et' W' ∧ Ext NoO H et0 W0 H' et' W' ∧ H' D = some (.lst us) ∧ VRs X.K X.mg W' H' acc us ∧ ¬ W'.fz D ∧ ¬ Live et' W' D ∧ Vi (i + 1) acc et',
      fun H1 h => ⟨ps.length - (i + 1), by omega, rfl, hlt, h⟩, fun v H2 hy => ?_⟩
    obtain ⟨W2, x2, c2, v2⟩ := yl v H2 hy
    have x02 := x'.NoO_trans x2
    have swx : Slt X.K X.mg (L2.wipe σ vs) (wipeE ep vs) H2 et' W2 := sw.ext c0 x02
    -- the new list stands through a step
    have step : ∀ {Ha Hb : Hp} {ea eb : Hi} {Wa Wb : Wd} {us : List V} {acc : List PV}, Cel X.K X.mg Ha ea Wa → Ext NoO Ha ea Wa Hb eb Wb → Ha D = some (.lst us) → VRs X.K X.mg Wa Ha acc us → ¬ Wa.fz D → ¬ Live ea Wa D → Hb D = some (.lst us) ∧ VRs X.K X.mg Wb Hb acc us ∧ ¬ Wb.fz D ∧ ¬ Live eb Wb D :=
      fun {Ha Hb ea eb Wa Wb us acc} cc xx h1 h2 h3 h4 => ⟨xx.keep D _ h1 h4 id, VRs.ext xx cc.stays0 _ _ h2, fun z => by
        rcases xx.nfz D z with z | z | z
        · exact h3 z
        · rw [h1] at z; cases z
        · exact z, fun z => by
        rcases xx.live D z with z | z
        · exact h4 z
        · rw [h1] at z; cases z⟩
    obtain ⟨d2, va2, f2, l2⟩ := step c' x2 hD' va hf hl
    refine gk v ps[i] (L2.wipe σ vs) H2 (wipeE ep vs) ep1 et' W2 _ c2 swx v2 ht fun σ1 s1 _ k1 => ⟨?_, ?_⟩
    · rw [wipe_same (σ := L2.wipe σ vs) k1.1 fun j hj => k1.2 j fun z => hj (hsub j z), wipe_wipe]
    · refine ⟨ep1, et', W2, _, c2, s1, r2, fun b et3 r3 H3 W3 x3 c3 => ?_⟩
      obtain ⟨d3, va3, f3, l3⟩ := step c2 x3 d2 va2 f2 l2
      have x03 := x02.NoO_trans x3
      cases b with
      | false => exact ⟨acc, us, et3, W3, c3, x03, d3, va3, f3, l3, by simpa using r3⟩
      | true =>
        refine ⟨ep1, et3, W3, _, c3, s1.ext c2 x3, (by simpa using r3), fun y et4 r4 u H4 W4 x4 c4 p4 => ?_⟩
        obtain ⟨d4, va4, f4, l4⟩ := step c3 x4 d3 va3 f3 l3
        have x04 := x03.NoO_trans x4
        obtain ⟨c5, vr5, vrs5⟩ := priv_write (vs' := us ++ [u]) c4 d4 f4 l4
        refine ⟨us, d4, by rw [← va4.len]; exact r4.1, acc ++ [y], us ++ [u], et4, W4, c5, ⟨x04.fz, x04.nfz, x04.mu, x04.live, fun a o h h2 h3 => ?_, fun a h => ?_⟩, upd_same, VRs.append (vrs5 _ _ va4) (VRs.cons (vr5 _ _ p4) VRs.nil), f4, l4, r4.2⟩
        · rw [upd_ne (ne_of_none h hD)]; exact x04.keep a o h h2 h3
        · by_cases e : a = D
          · rw [e, upd_same]; simp
          · rw [upd_ne e]; exact x04.there a h
  · obtain ⟨hsrc, _, r2⟩ := hV i acc et' r'
    have r2 := r2 (by omega)
    refine .inl ⟨(wk H' et' W' x' c' i).1 (by omega), ?_⟩
    exact q _ et' r2 _ H' W' x' c' ⟨D, rfl, hD, hf, hl, us, hD', va⟩
theorem sN_lcO {j : Nat} {elt iter : Expr} {ifs : List Expr} {scope : Scope} {own : List (Str × Nat)} {g : TG} {is : List Nat} {tgP : PV → En → Option En} {mt : EM Bool} (gk : GOk X.K X.mg is g tgP) (hsub : ∀ i ∈ is, i ∈ own.map (·.2))
    (hc : X.calm = true) (hN : X.N.Nodup) (hv : PE X iter (tVar j)) (ok : BlkOk X.N X.env.scope scope own)
    (hg : ∀ (s : Shared) (H : Hp) (C : Addr) (cl : List (Str × Addr)) (fp : List Addr), PG (X.blk s H scope (compEnvC scope cl C X.env) fp) tg g) (ht : ∀ (s : Shared) (H : Hp) (C : Addr) (cl : List (Str × Addr)) (fp : List Addr), PTs (X.blk s H scope (compEnvC scope cl C X.env) fp) ifs (tT X.K X.mg mt))
    (he : ∀ (s : Shared) (H : Hp) (C : Addr) (cl : List (Str × Addr)) (fp : List Addr), SimE (X.blk s H scope (compEnvC scope cl C X.env) fp) elt me) (hs : ∀ x, foldedSetIterable iter X.env x = pure x := by intro _; rfl) :
    SimN X (.ListComp elt [⟨tg, iter, ifs, 0⟩] scope pos) (mLcO j (own.map (·.2)) tgP mt me) := weakE (pe_lc hc hN (pi_any hv) ok hg ht he hs) (lc_weakO gk hsub)
end
end Mw
namespace Mw
open PySem PySem.Spec L2
section
variable {X : Cx} {tg : Expr} {me : EM PV} {pos : Pos}
theorem s_setLcEO {i jj : Nat} {y : Str} {py spos : Pos} {tg elt iter : Expr} {me : EM PV} {ifs : List Expr} {scope : Scope} {own : List (Str × Nat)} {g : TG} {is : List Nat} {tgP : PV → En → Option En} {mt : EM Bool} (gk : GOk X.K X.mg is g tgP) (hsub : ∀ i ∈ is, i ∈ own.map (·.2))
    (hc : X.calm = true) (hN : X.N.Nodup) (hy : X.N[i]? = some y) (hyl : X.env.scope.names.lookup y = some .local)
    (hsw : swapsWith (.ListComp elt [⟨tg, iter, ifs, 0⟩] scope pos) (some (.Name y py)) spos.line X.env = pure true) (hv : PE X iter (tVar jj)) (ok : BlkOk X.N X.env.scope scope own)
    (hg : ∀ (s : Shared) (H : Hp) (C : Addr) (cl : List (Str × Addr)) (fp : List Addr), PG (X.blk s H scope (compEnvC scope cl C X.env) fp) tg g) (ht : ∀ (s : Shared) (H : Hp) (C : Addr) (cl : List (Str × Addr)) (fp : List Addr), PTs (X.blk s H scope (compEnvC scope cl C X.env) fp) ifs (tT X.K X.mg mt))
    (he : ∀ (s : Shared) (H : Hp) (C : Addr) (cl : List (Str × Addr)) (fp : List Addr), SimE (X.blk s H scope (compEnvC scope cl C X.env) fp) elt me) (hs : ∀ x, foldedSetIterable iter X.env x = pure x := by intro _; rfl) :
    SimS X (.Assign [.Name y py] (.ListComp elt [⟨tg, iter, ifs, 0⟩] scope pos) spos) (mSet i (mLcO jj (own.map (·.2)) tgP mt me)) :=
  weakS (ps_setLc hc hN hy hyl hsw (pi_any hv) ok hg ht he hs) fun D σ H h => lc_weakO gk hsub σ H _ (tN_of_tE σ H _ (set_weak D σ H h))
end
section
variable {K : PySem.W.Frag} {mg : Str → Option Value}
end
end Mw
namespace Mw
open PySem PySem.Spec L2
section
variable {K : PySem.W.Frag} {mg : Str → Option Value} {H H' : Hp} {et : Hi} {W : Wd}
theorem VRk.append {ks ls : List (Key × PV)} {vs us : List (Key × V)} (h : VRk K mg W H ks vs) (h' : VRk K mg W H ls us) : VRk K mg W H (ks ++ ls) (vs ++ us) := by
  induction ks generalizing vs with
  | nil => unfold VRk at h; subst h; exact h'
  | cons kv ks ih =>
    obtain ⟨k, p⟩ := kv
    unfold VRk at h
    obtain ⟨v, r, rfl, h1, h2⟩ := h
    show VRk K mg W H ((k, p) :: (ks ++ ls)) ((k, v) :: (r ++ us))
    unfold VRk
    exact ⟨v, _, rfl, h1, ih h2⟩
end
section
variable {X : Cx} {ma mb : EM PV}
end
end Mw
namespace Mw
open PySem PySem.Spec PyProof.Rows L2
open PySem.Sem (wp)
section
variable {X : Cx}
end
section
variable {K : PySem.W.Frag} {mg : Str → Option Value} {X : Cx}
end
end Mw
namespace Mw
open PySem PySem.Spec PyProof.Rows L2
open PySem.Sem (wp)
open PySem.W (minD AllAlike AlikeAll Sortable dataLe dataLt alike)
section
variable {X : Cx} {pins : List (Addr × Obj)} {σ : L2.St} {H : Hp} {s : Shared}
end
end Mw
namespace Mw
open PySem PySem.Spec PyProof.Rows L2
open PySem.Sem (wp)
open PySem.W (minD AllAlike AlikeAll Sortable dataLe dataLt alike)
def putAllE (es more : List (NestedKey × Addr × V)) : List (NestedKey × Addr × V) := more.foldl (fun acc e => putE acc e.1 e.2.1 e.2.2) es
theorem PrE.all : ∀ {more : List (NestedKey × Addr × V)} {ms : List (NestedKey × Addr × Value)} {es : List (NestedKey × Addr × V)} {xs : List (NestedKey × Addr × Value)}, PrE more ms → PrE es xs → PrE (putAllE es more) (storedAllH xs ms)
  | _, _, _, _, .nil, h => h
  | _, _, es, xs, @Paired.cons _ _ _ p q l1 l2 hq t, h => by
    have h2 := PrE.put h p.1 p.2.1 hq.2.2
    rw [show storedH xs p.1 p.2.1 q.2.2 = storedH xs q.1 q.2.1 q.2.2 by rw [hq.1, hq.2.1]] at h2
    show PrE (putAllE (putE es p.1 p.2.1 p.2.2) l1) (storedAllH (storedH xs q.1 q.2.1 q.2.2) l2)
    exact PrE.all t h2
section
variable {X : Cx}
end
end Mw
namespace Mw
open PySem PySem.Spec PyProof.Rows L2
open PySem.W (minD AllAlike AlikeAll Sortable dataLe dataLt alike)
def ndAll (kvs more : List (PV × PV)) : List (PV × PV) := more.foldl (fun acc e => ndPut acc e.1 e.2) kvs
section
variable {X : Cx} {W : Wd} {H : Hp}
theorem VRn.all : ∀ {more : List (PV × PV)} {ms : List (NestedKey × Addr × V)} {kvs : List (PV × PV)} {es : List (NestedKey × Addr × V)}, VRn X.K X.mg W H more ms → VRn X.K X.mg W H kvs es → VRn X.K X.mg W H (ndAll kvs more) (putAllE es ms)
  | [], ms, kvs, es, h, h2 => by unfold VRn at h; subst h; exact h2
  | (p, q) :: r, ms, kvs, es, h, h2 => by
    unfold VRn at h
    obtain ⟨k, b, v, r', rfl, e1, e2, e3, h4, h5, h6⟩ := h
    show VRn X.K X.mg W H (ndAll (ndPut kvs p q) r) (putAllE (putE es k b v) r')
    exact VRn.all h6 (VRn.put e1 e2 e3 h4 h5 h2)
end
section
variable {X : Cx}
end
end Mw
namespace Mw
open PySem PySem.Spec PyProof.Rows L2
open PySem.Sem (wp)
section
variable {X : Cx} {pins : List (Addr × Obj)} {σ : L2.St} {H : Hp} {s : Shared} {A : Around} {E : Value → Shared → Prop} {a b : Addr} {k : NestedKey} {es : List (NestedKey × Addr × V)} {v : V}
end
section
variable {X : Cx} {o e f : Expr} {td ty tx : TE} {apos cpos : Pos} {mo mk mz : EM PV}
end
end Mw
namespace Mw
open PySem PySem.Spec PyProof.Rows L2
section
variable {X : Cx}
end
end Mw
namespace Mw
open PySem PySem.Spec L2
abbrev Xfs := List (Str × Int)
abbrev RXT := Str → Xfs → Hi → Prop
def xdH (fs : Xfs) : HO := .xd (fs.map fun x => (x.1, V.int x.2))
def ExcV (mg : Str → Option Value) (H : Hp) (c : Str) (fs : Xfs) (cls : Value) (d : Option Addr) : Prop :=
  ∃ C, mg c = some (.ref C) ∧ cls = .ref C ∧ ((fs = [] ∧ d = none) ∨ ∃ dd, d = some dd ∧ H dd = some (xdH fs))
abbrev SMX := En → Hi → (Fl → En → Hi → Prop) → RXT → Prop
def tSX (K : PySem.W.Frag) (mg : Str → Option Value) (E : XK) (m : SMX) : TS := fun D sg H => ∃ ep et W R RX, Cel K mg H et W ∧ Slt K mg sg ep H et W ∧ m ep et R RX ∧
  (∀ f ep' et', R f ep' et' → ∀ sg' H' W', Ext (Own ep sg) H et W H' et' W' → Cel K mg H' et' W' → FlEnd K mg D ep sg H f ep' sg' H' et' W') ∧
  (∀ c fs et', RX c fs et' → ∀ H' W', Ext (Own ep sg) H et W H' et' W' → Cel K mg H' et' W' → ∀ cls d, ExcV mg H' c fs cls d → E cls d H')
abbrev SimSX (X : Cx) (E : XK) (st : Stmt) (m : SMX) : Prop := PS X st (tSX X.K X.mg E m)
abbrev SimSsX (X : Cx) (E : XK) (st : List Stmt) (m : SMX) : Prop := PSs X st (tSX X.K X.mg E m)
abbrev TakesE (X : Cx) (E : XK) : Prop := Takes X fun cls d _ H => E cls d H
def mLiftX (m : SM) : SMX := fun ep et R _ => m ep et R
def mNextX : SMX := fun ep et R _ => R .nx ep et
def mSeqX (m n : SMX) : SMX := fun ep et R RX => m ep et (fun f ep1 et1 => match f with
  | .nx => n ep1 et1 R RX
  | f => R f ep1 et1) RX
def mIfX (t : EM Bool) (m n : SMX) : SMX := fun ep et R RX => t ep et fun b et1 => if b = true then m ep et1 R RX else n ep et1 R RX
def mRaise0 (c : Str) : SMX := fun _ et _ RX => RX c [] et
def mRaise1 (c f : Str) (me : EM PV) : SMX := fun ep et _ RX => me ep et fun p et1 => ∃ i, p = .int i ∧ RX c [(f, i)] et1
section
variable {X : Cx} {E : XK} {st : Stmt} {rest : List Stmt} {m n : SMX} {e : Expr} {pos : Pos}
theorem PS.nox {t : TS} (h : PS X.nox st t) : PS X st t := ⟨fun pins s σ H D I hw =>
  wpAny_mono (h.run pins s σ H D (I.wish _) hw) (fun _ _ q => q.unwish) fun _ _ z => False.elim z⟩
theorem sX_lift {m : SM} (h : SimS X st m) : SimSX X E st (mLiftX m) := weakS h fun D σ H ⟨ep, et, W, R, RX, c, s, e, q, _⟩ => ⟨ep, et, W, R, c, s, e, q⟩
theorem ssX_lift {m : SM} (h : SimSs X rest m) : SimSsX X E rest (mLiftX m) := weakSs h fun D σ H ⟨ep, et, W, R, RX, c, s, e, q, _⟩ => ⟨ep, et, W, R, c, s, e, q⟩
theorem ssX_nil : SimSsX X E [] mNextX := weakSs pss_nil fun D σ H ⟨ep, et, W, R, RX, c, s, e, q, _⟩ => q .nx ep et e σ H W (Ext.refl ..) c s fun a h => .inl h
theorem ssX_one (h : SimSX X E st m) : SimSsX X E [st] m := pss_one h
theorem ssX_cons (h : SimSX X E st m) (g : SimSsX X E rest n) : SimSsX X E (st :: rest) (mSeqX m n) := weakSs (pss_cons h g) fun D σ H ⟨ep, et, W, R, RX, c, s, e, q, qx⟩ => by
  refine ⟨ep, et, W, _, RX, c, s, e, fun f ep1 et1 r1 σ1 H1 W1 x1 c1 => ?_, qx⟩
  cases f with
  | nx =>
    intro s1 o1
    refine ⟨ep1, et1, W1, R, RX, c1, s1, r1, fun f2 ep2 et2 r2 σ2 H2 W2 x2 c2 => ?_, fun k fs et2 r2 H2 W2 x2 c2 cls d hv => ?_⟩
    · have k := q f2 ep2 et2 r2 σ2 H2 W2 (x1.trans x2 o1) c2
      exact k.pre fun a h => h.elim (o1 a) fun z => .inr (x1.back z)
    · exact qx k fs et2 r2 H2 W2 (x1.trans x2 o1) c2 cls d hv
  | bk => exact q .bk ep1 et1 r1 σ1 H1 W1 x1 c1
  | ct => exact q .ct ep1 et1 r1 σ1 H1 W1 x1 c1
  | rt p => exact q (.rt p) ep1 et1 r1 σ1 H1 W1 x1 c1
theorem sX_if {a b : List Stmt} {t : EM Bool} (h : SimT X e t) (ha : SimSsX X E a m) (hb : SimSsX X E b n) : SimSX X E (.If e a b pos) (mIfX t m n) := weakS (ps_if h ha hb) fun D σ H ⟨ep, et, W, R, RX, c, s, e, q, qx⟩ => by
  refine ⟨ep, et, W, _, c, s, e, fun b et1 r1 H1 W1 x1 c1 => ?_⟩
  have fin : ∀ {m : SMX}, m ep et1 R RX → tSX X.K X.mg E m D σ H1 := fun {m} r => ⟨ep, et1, W1, R, RX, c1, s.ext c x1, r, fun f ep2 et2 r2 σ2 H2 W2 x2 c2 => by
    have k := q f ep2 et2 r2 σ2 H2 W2 (x1.pre x2) c2
    exact k.pre fun a h => h.imp_right fun z => x1.back z, fun k fs et2 r2 H2 W2 x2 c2 cls d hv => qx k fs et2 r2 H2 W2 (x1.pre x2) c2 cls d hv⟩
  cases b with
  | true => exact fin (by simpa using r1)
  | false => exact fin (by simpa using r1)
def forGoX (src : List PV) (want : List PV) (tg : PV → En → Option En) (m : SMX) (ps : List PV) : SMX := fun ep et R RX => ∃ V : Nat → En → Hi → Prop, V 0 ep et ∧ ∀ i ep et, V i ep et → src.map (deref et) = want ∧
  (∀ p, ps[i]? = some p → ∃ ep1, tg p ep = some ep1 ∧ m ep1 et (fun f ep2 et2 => match f with
      | .nx => V (i + 1) ep2 et2
      | .ct => V (i + 1) ep2 et2
      | .bk => R .nx ep2 et2
      | .rt q => R (.rt q) ep2 et2) RX) ∧ (i = ps.length → R .nx ep et)
def mForX (mi : IM) (tg : PV → En → Option En) (m : SMX) : SMX := fun ep et R RX => mi ep et fun ps src et1 => forGoX src (src.map (deref et1)) tg m ps ep et1 R RX
structure Exc0 (K : PySem.W.Frag) (C : Addr) : Prop where
  xI : PySem.W.excIn K C [.type "ValueError", .type "Exception", .type "BaseException", .type "object"] "ValueError.__new__" = true
  kC : PySem.W.keepIn K (.ref C) = true
  bI : PySem.W.subIn K (.ref C) (.type "BaseException") = some true
  tI : PySem.W.typeIn K (.ref C) = some (.type "type")
theorem sX_raise0 {c txt : Str} {C : Addr} {j : Nat} {p p2 pos' : Pos} (hc : X.calm = true) (tk : TakesE X E) (T : Exc0 X.K C) (hg : Gl X c) (gC : X.mg c = some (.ref C)) (hdb : (c == ("__debug__" : Str)) = false := by decide) :
    SimSX X E (.Raise (some (.Call (.Name c p) [.Constant (.str txt) j p2] [] pos)) none pos') (mRaise0 c) :=
  weakS (ps_raise hc tk (pmk_own PySem.F.excBase_ValueError T.xI gC T.kC (raises_own T.bI T.tI) hg hdb)) fun D σ H ⟨ep, et, W, R, RX, cc, s, e, q, qx⟩ =>
    qx c [] et e H W (Ext.refl ..) cc _ _ ⟨C, gC, rfl, .inl ⟨rfl, rfl⟩⟩
end
end Mw
namespace Mw
open PySem PySem.Spec L2
section
variable {X : Cx} {e : Expr} {es : List Expr} {ta : TA} {p1 p2 pos : Pos}
end
section
variable {X : Cx} {E : XK}
end
abbrev XSpec := List PV → Hi → (PV → Hi → Prop) → RXT → Prop
def FSX (K : PySem.W.Frag) (mg : Str → Option Value) (n : Nat) (spec : XSpec) : Sp := fun vs H Q E => vs.length = n ∧ ∃ et W args R RX, Cel K mg H et W ∧ VRs K mg W H args vs ∧ spec args et R RX ∧
  (∀ p et', R p et' → ∀ v H' W', Ext NoO H et W H' et' W' → Cel K mg H' et' W' → VR K mg W' H' p v → Q v H') ∧
  (∀ c fs et', RX c fs et' → ∀ H' W', Ext NoO H et W H' et' W' → Cel K mg H' et' W' → ∀ cls d, ExcV mg H' c fs cls d → E cls d H')
theorem fn_okX {P : Program} {w : World} {K : PySem.W.Frag} {mg : Str → Option Value} {base : Heap} {x qual : Str} {st : Stmt} {f : Addr} {fd : FuncData} {N ps : List Str} {k : Nat} {sp : XSpec} {m : SMX} (F : Fun K x qual st f fd) (S : FnScope N ps (defScope st))
    (body : ∀ (cdv : Value) (A : Around) (outer : List Env) (s : Shared) (H : Hp) (E : XK), Room k (A.deeper (PyProof.Rows.envOfC qual (defScope st) s.heap.objs.size f cdv)) → SimSsX (cxOf (L2.CX P w) P w K mg base N qual (defScope st) f cdv A outer s H E) E (defBody st) m)
    (h : ∀ args et R RX, sp args et R RX → m (env0 N args) et (retK R) RX) : FnOk P w K mg base (L2.CX P w) (k + 1) f fd ps (FSX K mg ps.length sp) := by
  refine F.okX S (fun vs H Q E q => q.1) fun cdv A outer s H vs Q E hr q => ⟨_, body cdv A outer s H E hr, ?_⟩
  obtain ⟨_, et, W, args, R, RX, c, va, hs, q, qx⟩ := q
  have noOwn : ∀ a, ¬ Own (env0 N args) (L2.start N vs) a := fun a ⟨i, p, e, _⟩ => by
    unfold env0 at e
    by_cases hi : i < args.length
    · rw [List.getElem?_append_left (by simpa using hi), List.getElem?_map, List.getElem?_eq_getElem hi] at e; cases e
    · rw [List.getElem?_append_right (by simpa using hi), List.getElem?_replicate] at e
      split at e <;> cases e
  refine ⟨env0 N args, et, W, retK R, RX, c, slt0 va, h args et R RX hs, fun fl ep' et' r σ' H' W' x' c' => ?_, fun k fs et' r H' W' x' c' cls d hv => qx k fs et' r H' W' (x'.mono fun a h => absurd h (noOwn a)) c' cls d hv⟩
  have x1 : Ext NoO H et W H' et' W' := x'.mono fun a h => absurd h (noOwn a)
  cases fl with
  | nx => exact fun _ _ => q .non et' r .non H' W' x1 c' VR.non
  | bk => exact r.elim
  | ct => exact r.elim
  | rt p => exact fun v hv => q p et' r v H' W' x1 c' hv
theorem takes_def {P : Program} {w : World} {K : PySem.W.Frag} {mg : Str → Option Value} {base : Heap} {N : List Str} {qual : Str} {scope : Scope} {f : Addr} {cd : Value} {A : Around} {outer : List Env} {s : Shared} {H : Hp} {E : XK} : TakesE (cxOf (L2.CX P w) P w K mg base N qual scope f cd A outer s H E) E := takes_of rfl rfl rfl rfl
end Mw
namespace Mw
open PySem PySem.Spec L2 PyProof.Rows
section
variable {X : Cx} {pins : List (Addr × Obj)} {σ : L2.St} {H : Hp} {sI s' : Shared} {B : Heap} {a : Addr} {cls : Value} {d : Option Addr}
theorem inv_lay (I : Inv X pins σ H sI) (nb : ∀ b o, sI.heap.get? b = some o → b ∉ frs X.stack → B.get? b = some o) (st : B.StaysIn s'.heap) (up : sI.heap.UpToSlots s'.heap) (os : s'.os = sI.os) (ag : AllBare s'.gens)
    (nB : B.get? a = none) (nfr : a ∉ frs X.stack) (na : H a = none) {oe : Obj} {vs : Array Value} (he : s'.heap.get? a = some oe) (hz : Zc cls d oe) (hd : oe.data = .fields vs) : Inv X pins σ (upd H a (ExcH cls d a)) s' := by
  have n0 : ∀ b o, sI.heap.get? b = some o → b ≠ a := fun b o e z => by
    subst z
    rw [nb b o e nfr] at nB; cases nB
  have nf : ∀ b ∈ frs X.stack, ∀ o, sI.heap.get? b = some o → ∃ sl, s'.heap.get? b = some { o with slots := sl } := fun b hb o e => by
    obtain ⟨_, o', e', hd⟩ := I.stack.mem hb
    rw [e] at e'; cases e'
    exact up b o e hd
  have hok : HOk X.prog X.w (upd H a (ExcH cls d a)) s'.heap := HOk.laidN ((I.inGround nb).kept st) (fun _ _ h => h) na
    ⟨⟨oe, vs, he, hz, hd⟩, ⟨oe, he⟩, fun _ _ ⟨o, v, q, r⟩ k => ⟨o, v, k o q, r⟩⟩
  have J := I.call (ch := []) (h' := s'.heap) (g' := s'.gens) (t' := s'.toks) (d' := s'.drawn) (H' := upd H a (ExcH cls d a))
    ⟨fun b o e _ hb _ => st b o (nb b o e hb), fun b o e _ hb _ => nf b hb o e, fun b o e n _ => by rw [upd_ne (n0 b o e)]; exact n, fun b o e _ => by
      by_cases hb : b ∈ frs X.stack
      · obtain ⟨sl, q⟩ := nf b hb o e
        exact ⟨_, q⟩
      · exact ⟨o, st b o (nb b o e hb)⟩, fun b xs e => by rw [upd_ne (ne_of_none e na)]; exact e, fun b o u e => by rw [upd_ne (ne_of_none e na)]; exact e, fun b ps e => ⟨#[], by rw [upd_ne (ne_of_none e na), e]; simp⟩⟩
    hok ag (fun _ z => nomatch z)
  obtain ⟨a1, a2, a3, a4, a5⟩ := s'
  have e5 : a5 = sI.os := os
  subst e5
  exact J
theorem inv_suiteT (I : Inv X pins σ H sI) (a : Addr) : Inv (X.suite a (X.pn ++ pins)) [] σ H sI :=
  ⟨I.ok.suite _ _, I.os, I.bare, I.base, I.loc, I.cell, I.free, I.freeC, fun p hp => I.pin p (by rw [List.append_nil] at hp; exact hp), I.hok, I.len⟩
theorem inv_unsuiteT {pn' : List (Addr × Obj)} (I : Inv (X.suite a (X.pn ++ pins)) pn' σ H sI) (ok : X.Ok) : Inv X pins σ H sI :=
  ⟨ok, I.os, I.bare, I.base, I.loc, I.cell, I.free, I.freeC, fun p hp => I.pin p (List.mem_append_left _ hp), I.hok, I.len⟩
def wAsT (K : PySem.W.Frag) (c : Value) (i : Nat) (ts : TS) (Wout : WX) (D : Ends) : WX := fun cls d σ H =>
  ∃ b, PySem.W.exmOne K cls c = some b ∧ (b = true → ∀ a, H a = none → ts { nx := fun σ' H' => D.nx (σ'.set i none) H', rt := D.rt, bk := fun σ' H' => D.bk (σ'.set i none) H', ct := fun σ' H' => D.ct (σ'.set i none) H' } (σ.set i (some (.ref a))) (upd H a (ExcH cls d a))) ∧
    (b = false → Wout cls d σ H)
end
section
variable {X : Cx} {x n : Str} {c : Value} {i : Nat} {body suite : List Stmt} {b₀ : Stmt} {np pos pos' : Pos} {tb : WX → TS} {ts : TS} {Wout : WX}
theorem ps_try_asT (hs : X.stack = X.env :: X.outer) (hf : X.env.frame = some X.env.locals) (hN : X.N.Nodup) (hi : X.N[i]? = some n) (hln : X.env.kindOf n = some .local) (hc : Names X x c) (tk : Takes X Wout)
    (hb : ∀ (W : WX) (pn : List (Addr × Obj)) (xe : Value → Shared → Prop), Takes (X.tr pn xe) W → PassesOwn (model X.prog X.w) X.A X.env xe → PSs (X.tr pn xe) body (tb W))
    (hsu : ∀ (a : Addr) (pn : List (Addr × Obj)), PSs (X.suite a pn) (b₀ :: suite) ts) :
    PS X (.Try body [.ExceptHandler (some (.Name x np)) (some n) (b₀ :: suite) pos'] [] [] pos) (fun D σ H => tb (wAsT X.K c i ts Wout D) D σ H) := by
  refine ⟨fun pins s σ H D I h => ?_⟩
  have ok := I.ok
  have hfr : X.A.frames = some (X.env :: X.outer) := by rw [ok.frames, hs]
  have hloc : Loc X.env.scope n := .inl hln
  refine wpAny_Try_except ?_
  refine wpAny_mono ((hb (wAsT X.K c i ts Wout D) (X.pn ++ pins) (fun e s₁ => wpAny (model X.prog X.w) X.A (noteFrame e X.env) (fun _ s₂ => wpAny (model X.prog X.w) X.A (setFlight e none) (fun _ s₃ =>
    wpAny (model X.prog X.w) X.A (handleBy e X.env [.ExceptHandler (some (.Name x np)) (some n) (b₀ :: suite) pos']) (SP X pins D) X.xe s₃) X.xe s₂) X.xe s₁) (fun u s' xx => ?_) PassesOwn.looking).run [] s σ H D (I.toTry _) h) (fun f s1 hsp => ?_) (fun e s1 he => he)
  · obtain ⟨a, B, sI, pins', σ', H', cls, d, rfl, J', nb, up, sky, na, os, ag, b, hb1, hyes, hno⟩ := xx
    have J : Inv X pins σ' H' sI := J'.ofTry ok
    have sky' : Sky B (X.env :: X.outer) a (Zc cls d) X.env.locals s'.heap := by rw [← hs]; exact sky
    show wpAny (model X.prog X.w) X.A (noteFrame (.ref a) X.env) _ _ _
    refine Sky.land Zc.steady hfr hf sky' fun h3 fl3 up3 => ?_
    have J3 : Inv X pins σ' H' { s' with heap := h3 } := J.landed nb fl3.1 (up.trans up3) os ag
    obtain ⟨oe3, vs3, he3, hz3, hd3⟩ := fl3.there
    have notFr : ∀ {h : Heap} {o : Obj} {vs : Array Value}, h.FunFrames B (X.env :: X.outer) → h.get? a = some o → o.data = .fields vs → a ∉ frs (X.env :: X.outer) := fun {h o vs} ff e dd hm => by
      obtain ⟨_, o', e', hnf⟩ := ff.mem hm
      rw [e] at e'; cases e'
      exact hnf _ dd
    have nfr := notFr fl3.2.2.1 he3 hd3
    have nL : a ≠ X.env.locals := fun z => nfr (List.mem_filterMap.mpr ⟨X.env, List.mem_cons_self, by rw [hf, z]⟩)
    have nF : a ∉ X.fs := fun hm => by
      obtain ⟨e, he, q⟩ := List.mem_filterMap.mp hm
      exact nfr (List.mem_filterMap.mpr ⟨e, List.mem_cons_of_mem _ he, q⟩)
    have S3 := J3.suite he3 hd3 na nL nF
    refine wpAny_handleBy_cons (codeAny_handlers_test ?_) (by intro q; cases q)
    have LT : PySem.W.Looks (model X.prog X.w) h3 (typeOf (.ref a)) cls := fun A Q E s k q => wpAny_typeOf_ref (k _ _ he3) (by rw [hz3.1]; exact q)
    have LM := PySem.W.exm_one (M := model X.prog X.w) (J3.kIn) LT hb1
    have test : ∀ {Q : Value → Shared → Prop} {E : Value → Shared → Prop}, Q c { s' with heap := h3 } → wpAny (model X.prog X.w) (X.A.mark (some (.ref a))) (eval (.Name x np) X.env) Q E { s' with heap := h3 } := fun {Q E} q => by
      obtain ⟨hg, hdbg, hm | ⟨hm, hv, hnn⟩⟩ := hc
      · exact ld_glob (X := X.suite a ((a, oe3) :: (X.pn ++ pins))) S3 hg hm q hdbg
      · exact ld_blt (X := X.suite a ((a, oe3) :: (X.pn ++ pins))) S3 hg hm hv q hnn hdbg
    refine test (LM.here ?_)
    cases b with
    | true =>
      refine codeAny_handlers_suite_as ?_
      refine HandSPX.lands_againZ fl3 fun h4 fl4 up4 => ?_
      obtain ⟨oe4, vs4, he4, hz4, hd4⟩ := fl4.there
      have J4 : Inv X pins σ' (upd H' a (ExcH cls d a)) { s' with heap := h4 } := inv_lay J nb fl4.1 ((up.trans up3).trans up4) os ag fl4.2.1 (by rw [hs]; exact nfr) na he4 hz4 hd4
      have S4 := inv_suiteT J4 a
      refine store_ok (X := X.suite a (X.pn ++ pins)) (v := .ref a) S4 hN hi hloc rfl (fun s5 S5 => ?_) (.inr hln)
      refine wpAny_mono ((hsu a (X.pn ++ pins)).run [] s5 _ _ _ S5 (hyes rfl a na)) (fun f s6 hsp => ?_) (fun _ _ z => False.elim z)
      have end_ : ∀ {σ6 : L2.St} {H6 : Hp} {Q : Shared → Prop}, Inv (X.suite a (X.pn ++ pins)) [] σ6 H6 s6 → (∀ s7, Inv X pins (σ6.set i none) H6 s7 → Q s7) →
          wpAny (model X.prog X.w) X.A (do bindName X.env n .none; unbindBehindTheSuite X.env n pos') (fun _ s7 => Q s7) X.xe s6 := fun {σ6 H6 Q} S6 hq => gone_ok (inv_unsuiteT S6 ok) hN hi hln hq
      cases f with
      | next =>
        obtain ⟨σ6, H6, S6, q6⟩ := hsp
        exact end_ S6 fun s7 J7 => ⟨_, _, J7, q6⟩
      | brk =>
        obtain ⟨σ6, H6, S6, q6⟩ := hsp
        exact end_ S6 fun s7 J7 => ⟨_, _, J7, q6⟩
      | cont =>
        obtain ⟨σ6, H6, S6, q6⟩ := hsp
        exact end_ S6 fun s7 J7 => ⟨_, _, J7, q6⟩
      | ret u =>
        obtain ⟨v6, σ6, H6, S6, r6, q6⟩ := hsp
        exact end_ S6 fun s7 J7 => ⟨_, _, _, J7, r6, q6⟩
    | false =>
      show wpAny _ X.A (handleBy (.ref a) X.env []) _ _ _
      refine wpAny_handleBy_nil ?_
      obtain ⟨k1, k2, k3, oe, vs, T, oT, ts', he, hz, hd, h1, hr⟩ := id fl3
      unfold PySem.passOn
      refine wpAny_bind (wpAny_field he hd h1 ?_)
      rw [if_neg (show ¬ ((Value.ref T == Value.none) = true) from by simp)]
      have fin : wpAny (model X.prog X.w) X.A (setFlight (.ref a) X.env.frame) (fun _ s4 => wpAny (model X.prog X.w) X.A (throw (.ref a) : Sem Flow) (SP X pins D) X.xe s4) X.xe { s' with heap := h3 } := by
        rw [hf]
        refine HandSPX.setFlight_upZ fl3 fun h4 hh4 up4 => wpAny_throw (tk _ _ ?_)
        exact ⟨a, B, sI, pins, σ', H', cls, d, rfl, J, nb, (up.trans up3).trans up4, .inr (.inr (by rw [hs]; exact hh4)), na, os, ag, hno rfl⟩
      first
        | exact wpAny_bind (wpAny_pure (wpAny_bind fin))
        | exact wpAny_bind fin
  · cases f with
    | next =>
      obtain ⟨σ', H', J', q⟩ := hsp
      exact wpAny_execs_nil ⟨σ', H', J'.ofTry ok, q⟩
    | brk =>
      obtain ⟨σ', H', J', q⟩ := hsp
      exact ⟨σ', H', J'.ofTry ok, q⟩
    | cont =>
      obtain ⟨σ', H', J', q⟩ := hsp
      exact ⟨σ', H', J'.ofTry ok, q⟩
    | ret u =>
      obtain ⟨v, σ', H', J', r, q⟩ := hsp
      exact ⟨v, σ', H', J'.ofTry ok, r, q⟩
end
end Mw
namespace Mw
open PySem PySem.Spec L2 PyProof.Rows
abbrev EMX := En → Hi → (PV → Hi → Prop) → RXT → Prop
def tIX (K : PySem.W.Frag) (mg : Str → Option Value) (E : L2.St → XK) (m : EMX) : TE := fun sg H Q => ∃ ep et W R RX, Cel K mg H et W ∧ Slt K mg sg ep H et W ∧ m ep et R RX ∧
  (∀ a et', R a et' → ∀ v H' W', Ext NoO H et W H' et' W' → Cel K mg H' et' W' → VR K mg W' H' a v → Q v H') ∧
  (∀ c fs et', RX c fs et' → ∀ H' W', Ext NoO H et W H' et' W' → Cel K mg H' et' W' → ∀ cls d, ExcV mg H' c fs cls d → E sg cls d H')
abbrev SimEX (X : Cx) (E : L2.St → XK) (e : Expr) (m : EMX) : Prop := PE X e (tIX X.K X.mg E m)
def tSY (K : PySem.W.Frag) (mg : Str → Option Value) (E : XK) (m : SMX) : TS := fun D sg H => ∃ ep et W R RX, Cel K mg H et W ∧ Slt K mg sg ep H et W ∧ m ep et R RX ∧
  (∀ f ep' et', R f ep' et' → ∀ sg' H' W', Ext (Own ep sg) H et W H' et' W' → Cel K mg H' et' W' → FlEnd K mg D ep sg H f ep' sg' H' et' W') ∧
  (∀ c fs et', RX c fs et' → ∀ H' W', Ext NoO H et W H' et' W' → Cel K mg H' et' W' → ∀ cls d, ExcV mg H' c fs cls d → E cls d H')
abbrev SimSY (X : Cx) (E : L2.St → XK) (st : Stmt) (m : SMX) : Prop := PS X st fun D σ H => tSY X.K X.mg (E σ) m D σ H
def mCallE (n : Nat) (sp : XSpec) (ms : EM (List PV)) : EMX := fun ep et R RX => ms ep et fun as et1 => as.length = n ∧ sp as et1 R RX
def mExprE (m : EMX) : SMX := fun ep et R RX => m ep et (fun _ et1 => R .nx ep et1) RX
def mAsgE (tg : PV → En → Option En) (m : EMX) : SMX := fun ep et R RX => m ep et (fun p et1 => ∃ ep', tg p ep = some ep' ∧ R .nx ep' et1) RX
def mRetE (m : EMX) : SMX := fun ep et R RX => m ep et (fun p et1 => R (.rt p) ep et1) RX
section
variable {X : Cx} {E : L2.St → XK} {k n : Nat} {f : Addr} {fd : FuncData} {ps : List Str} {sp : XSpec} {x : Str} {p pos : Pos} {e : Expr} {es : List Expr} {ms : EM (List PV)} {m : EMX}
theorem sE_callX (F : FnOk X.prog X.w X.K X.mg X.base (L2.CX X.prog X.w) k f fd ps (FSX X.K X.mg n sp)) (hr : Room k X.A) (hg : Gl X x) (hm : X.mg x = some (.ref f)) (hk : PySem.W.keepIn X.K (.ref f) = true) (hb : Binds X.K fd ps []) (hx : ∀ σ, PassesAt (L2.CX X.prog X.w) X σ (E σ))
    (ha : SimA X (e :: es) ms) (hdb : (x == ("__debug__" : Str)) = false := by decide) (he : starEach (e :: es) X.env = (false, eval e X.env) :: starEach es X.env := by rfl) (hpl : (backTo pos (starEach es X.env)).any (·.1) = false := by rfl) :
    SimEX X E (.Call (.Name x p) (e :: es) [] pos) (mCallE n sp ms) := weakE (pe_callS F hr hg hm hk hb hx ha hdb he hpl) fun σ H Q ⟨ep, et, W, R, RX, c, s, e, q, qx⟩ => by
  refine ⟨ep, et, W, _, c, s, e, fun as et1 r1 vs H1 W1 x1 c1 p1 => ?_⟩
  exact ⟨by rw [← p1.len]; exact r1.1, et1, W1, as, R, RX, c1, p1, r1.2, fun p et2 r2 v H2 W2 x2 c2 p2 => q p et2 r2 v H2 W2 (x1.NoO_trans x2) c2 p2,
    fun cn fs et2 r2 H2 W2 x2 c2 cls d hv => qx cn fs et2 r2 H2 W2 (x1.NoO_trans x2) c2 cls d hv⟩
theorem sY_expr (h : SimEX X E e m) (hs : swapsWith e none pos.line X.env = pure false := by rfl) : SimSY X E (.Expr e pos) (mExprE m) := weakS (ps_expr h hs) fun D σ H ⟨ep, et, W, R, RX, c, s, e, q, qx⟩ =>
  ⟨ep, et, W, _, RX, c, s, e, fun p et1 r1 v H1 W1 x1 c1 p1 => q .nx ep et1 r1 σ H1 W1 (Ext.to x1) c1 (s.ext c x1) fun a h => .inl h, fun cn fs et2 r2 H2 W2 x2 c2 cls d hv => qx cn fs et2 r2 H2 W2 x2 c2 cls d hv⟩
end
theorem Slt.forget {K : PySem.W.Frag} {mg : Str → Option Value} {sg : L2.St} {ep : En} {H : Hp} {et : Hi} {W : Wd} (s : Slt K mg sg ep H et W) (i : Nat) : Slt K mg (sg.set i none) (ep.set i .no) H et W ∧ ∀ a, Own (ep.set i .no) (sg.set i none) a → Own ep sg a := by
  have ow : ∀ a, Own (ep.set i .no) (sg.set i none) a → Own ep sg a := fun a ⟨j, p, h1, h2⟩ => by
    by_cases hj : i = j
    · subst hj
      by_cases hl : i < ep.length
      · rw [List.getElem?_set_self hl] at h1; cases h1
      · rw [List.getElem?_eq_none (by rw [List.length_set]; omega)] at h1; cases h1
    · rw [List.getElem?_set_ne hj] at h1 h2
      exact ⟨j, p, h1, h2⟩
  refine ⟨⟨by rw [List.length_set, List.length_set, s.len], fun j t o h1 h2 => ?_, fun j l p q a h1 h2 h3 h4 => ?_, fun a h => s.ofz a (ow a h), fun a h => s.oli a (ow a h)⟩, ow⟩
  · by_cases hj : i = j
    · subst hj
      have hl : i < ep.length := by
        have := (List.getElem?_eq_some_iff.mp h1).1
        rw [List.length_set] at this; exact this
      rw [List.getElem?_set_self hl] at h1
      cases h1
      exact True.intro
    · rw [List.getElem?_set_ne hj] at h1 h2
      exact s.ok j t o h1 h2
  · have nj : ∀ {j : Nat} {p : PV}, (ep.set i Slot.no)[j]? = some (.own p) → i ≠ j := fun {j p} h e => by
      subst e
      have hl : i < ep.length := by
        have := (List.getElem?_eq_some_iff.mp h).1
        rw [List.length_set] at this; exact this
      rw [List.getElem?_set_self hl] at h; cases h
    have n1 := nj h1
    have n2 := nj h2
    rw [List.getElem?_set_ne n1] at h1 h3
    rw [List.getElem?_set_ne n2] at h2 h4
    exact s.inj j l p q a h1 h2 h3 h4
theorem Slt.putVal {K : PySem.W.Frag} {mg : Str → Option Value} {sg : L2.St} {ep : En} {H : Hp} {et : Hi} {W : Wd} (s : Slt K mg sg ep H et W) (i : Nat) {p : PV} {v : V} (hv : VR K mg W H p v) : Slt K mg (sg.set i (some v)) (ep.set i (.val p)) H et W ∧ ∀ a, Own (ep.set i (.val p)) (sg.set i (some v)) a → Own ep sg a := by
  have ow : ∀ a, Own (ep.set i (.val p)) (sg.set i (some v)) a → Own ep sg a := fun a ⟨j, q, h1, h2⟩ => by
    by_cases hj : i = j
    · subst hj
      by_cases hl : i < ep.length
      · rw [List.getElem?_set_self hl] at h1; cases h1
      · rw [List.getElem?_eq_none (by rw [List.length_set]; omega)] at h1; cases h1
    · rw [List.getElem?_set_ne hj] at h1 h2
      exact ⟨j, q, h1, h2⟩
  refine ⟨⟨by rw [List.length_set, List.length_set, s.len], fun j t o h1 h2 => ?_, fun j l q r a h1 h2 h3 h4 => ?_, fun a h => s.ofz a (ow a h), fun a h => s.oli a (ow a h)⟩, ow⟩
  · by_cases hj : i = j
    · subst hj
      have hl : i < ep.length := by
        have := (List.getElem?_eq_some_iff.mp h1).1
        rw [List.length_set] at this; exact this
      rw [List.getElem?_set_self hl] at h1
      rw [List.getElem?_set_self (by rw [← s.len]; exact hl)] at h2
      cases h1; cases h2
      exact ⟨v, rfl, hv⟩
    · rw [List.getElem?_set_ne hj] at h1 h2
      exact s.ok j t o h1 h2
  · have nj : ∀ {j : Nat} {q : PV}, (ep.set i (Slot.val p))[j]? = some (.own q) → i ≠ j := fun {j q} h e => by
      subst e
      have hl : i < ep.length := by
        have := (List.getElem?_eq_some_iff.mp h).1
        rw [List.length_set] at this; exact this
      rw [List.getElem?_set_self hl] at h; cases h
    have n1 := nj h1
    have n2 := nj h2
    rw [List.getElem?_set_ne n1] at h1 h3
    rw [List.getElem?_set_ne n2] at h2 h4
    exact s.inj j l q r a h1 h2 h3 h4
def Catches (K : PySem.W.Frag) (mg : Str → Option Value) (cv : Value) (cs : List Str) : Prop := ∀ c ∈ cs, ∀ C, mg c = some (.ref C) → PySem.W.exmOne K (.ref C) cv = some true
def mTryC (i : Nat) (cs : List Str) (mb : SMX) (ms : SM) : SM := fun ep et R => mb ep et R fun c fs et1 => c ∈ cs ∧ i < ep.length ∧ ms (ep.set i (.val (.ref et1.length))) (et1 ++ [.exc c fs]) fun f ep2 et2 => R f (ep2.set i .no) et2
section
variable {X : Cx} {x n : Str} {cv : Value} {cs : List Str} {i : Nat} {b₀ b : Stmt} {suite : List Stmt} {np pos pos' : Pos} {mb : SMX} {ms : SM}
theorem s_tryC (hs : X.stack = X.env :: X.outer) (hf : X.env.frame = some X.env.locals) (hN : X.N.Nodup) (hi : X.N[i]? = some n) (hln : X.env.kindOf n = some .local) (hc : Names X x cv) (hcs : Catches X.K X.mg cv cs)
    (hb : ∀ (W : WX) (pn : List (Addr × Obj)) (xe : Value → Shared → Prop), Takes (X.tr pn xe) W → SimSY (X.tr pn xe) (WE W) b mb)
    (hsu : ∀ (a : Addr) (pn : List (Addr × Obj)), SimSs (X.suite a pn) (b₀ :: suite) ms) :
    SimS X (.Try [b] [.ExceptHandler (some (.Name x np)) (some n) (b₀ :: suite) pos'] [] [] pos) (mTryC i cs mb ms) :=
  weakS (ps_try_asT (ts := tS X.K X.mg ms) (Wout := fun _ _ _ _ => False) (tb := fun W D σ H => tSY X.K X.mg (WE W σ) mb D σ H) hs hf hN hi hln hc (fun u s' ⟨_, _, _, _, _, _, _, _, _, _, _, _, _, _, _, _, w⟩ => w.elim) (fun W pn xe tk _ => pss_one (hb W pn xe tk)) (fun a pn => hsu a pn)) fun D σ H ⟨ep, et, W, R, c, s, e, q⟩ => by
  refine ⟨ep, et, W, R, _, c, s, e, q, fun cn fs et1 r1 H1 W1 x1 c1 cls d hv => ?_⟩
  obtain ⟨hcn, hi2, r2⟩ := r1
  obtain ⟨C, g1, rfl, hfs⟩ := hv
  refine ⟨true, hcs cn hcn C g1, fun _ a ha => ?_, fun z => by cases z⟩
  have xn : Ext NoO H1 et1 W1 (upd H1 a (ExcH (.ref C) d a)) et1 W1 := Ext.new ha W1 rfl (fun _ h => h) fun _ h => .inl h
  have cn1 : Cel X.K X.mg (upd H1 a (ExcH (.ref C) d a)) et1 W1 := c1.new ha W1 rfl (fun _ h => h) fun _ h => .inl h
  have nfz : ¬ W1.fz a := fun z => c1.fzh a z ha
  have nlv : ¬ Live et1 W1 a := c1.not_live ha
  have hok : CellOk X.K X.mg ⟨W1.fz, W1.mu ++ [a]⟩ (upd H1 a (ExcH (.ref C) d a)) (.exc cn fs) a := by
    unfold CellOk
    refine ⟨C, d, g1, upd_same, hfs.imp_right fun ⟨dd, e1, e2⟩ => ⟨dd, e1, ?_⟩⟩
    rw [upd_ne (ne_of_none e2 ha)]; exact e2
  obtain ⟨c2, lv2, vr2, up2⟩ := cn1.push nfz nlv hok
  have x2 : Ext NoO H1 et1 W1 (upd H1 a (ExcH (.ref C) d a)) (et1 ++ [.exc cn fs]) ⟨W1.fz, W1.mu ++ [a]⟩ := ⟨fun _ h => h, fun _ h => .inl h, ⟨[a], rfl⟩, fun b h => by
    rcases lv2 b h with h | rfl
    · exact .inl h
    · exact .inr ha, fun b o h hl ho => by rw [upd_ne (ne_of_none h ha)]; exact h, xn.there⟩
  have s2 : Slt X.K X.mg σ ep (upd H1 a (ExcH (.ref C) d a)) (et1 ++ [.exc cn fs]) ⟨W1.fz, W1.mu ++ [a]⟩ := (s.ext c x1).ext c1 x2
  obtain ⟨s3, o3⟩ := s2.putVal i vr2
  have x12 := x1.NoO_trans x2
  refine ⟨_, _, _, _, c2, s3, r2, fun f ep4 et4 r4 σ4 H4 W4 x4 c4 => ?_⟩
  have x04 : Ext (Own ep σ) H et W H4 et4 W4 := (Ext.to x12).trans x4 fun b h => .inl (o3 b h)
  have k := q f _ et4 r4
  have back : ∀ b, (Own (ep.set i (.val (.ref et1.length))) (σ.set i (some (.ref a))) b ∨ upd H1 a (ExcH (.ref C) d a) b = none) → Own ep σ b ∨ H b = none := fun b h => h.elim (fun z => .inl (o3 b z)) fun z => .inr (x12.back z)
  cases f with
  | nx => exact fun s4 o4 => k _ H4 W4 x04 c4 (s4.forget i).1 fun b h => back b (o4 b ((s4.forget i).2 b h))
  | bk => exact fun s4 o4 => k _ H4 W4 x04 c4 (s4.forget i).1 fun b h => back b (o4 b ((s4.forget i).2 b h))
  | ct => exact fun s4 o4 => k _ H4 W4 x04 c4 (s4.forget i).1 fun b h => back b (o4 b ((s4.forget i).2 b h))
  | rt p => exact fun v hv => k σ4 H4 W4 x04 c4 v hv
end
end Mw
namespace PySem.W
open PySem PySem.Spec PySem.Calls PyProof.Rows
section
variable {prog : Program} {w : World} {A : Around} {E : Value → Shared → Prop} {s : Shared} {K : Frag} {x D : Addr} {ox : Obj} {od : Option Obj}
theorem findObj_dataO {C : Addr} {name : Str} {a g : Value} (hc : (clsIn K C).isSome = true) (ha : findIn K (.ref C) name = some (some a)) (hg : specialIn K a "__get__" = some (some g)) (ht : takesIn K a = some true) : findObj K C od name = some (.bind g a) := by
  obtain ⟨cd, hc⟩ := Option.isSome_iff_exists.mp hc
  unfold findObj
  rw [hc, Option.bind_some, ha, Option.bind_some]
  simp [hg, ht]
theorem kin_classO {Q : Option Value → Shared → Prop} (hga : findIn K (.ref D) "__getattribute__" = some (some (.builtin "BaseException.__getattribute__"))) (hgt : findIn K (.ref D) "__getattr__" = some none) (hsub : subIn K (.ref D) (.type "BaseException") = some true)
    (hdct : hasDictIn K D = true) (ha : findIn K (.ref D) "__class__" = some (some (.builtin "object.__class__")))
    (hn : specialIn K (.builtin "object.__class__") "__get__" = some (some (.builtin "getset_descriptor.__get__"))) (htk : takesIn K (.builtin "object.__class__") = some true) (hm : mroIn K D (.type "object") = some true)
    (X : K.In s.heap) (I : InstAt s.heap x ox D od) (h : Q (some (.ref D)) { s with toks := s.toks + 1 }) : wpAny (model prog w) A (getAttr? (.ref x) "__class__") Q E s := by
  have hf : findObj K D od "__class__" = some (.bind (.builtin "getset_descriptor.__get__") (.builtin "object.__class__")) := findObj_dataO (by obtain ⟨cd, hc, _⟩ := any_some hdct; rw [hc]; rfl) ha hn htk
  obtain ⟨hp, g, d, t, os⟩ := s
  have L0 := I.type (M := model prog w)
  have L1 := looks_findIn (M := model prog w) X hga
  have L2 := looks_findIn (M := model prog w) X hgt
  have L3 := looks_find (M := model prog w) X I hf
  have sub : Looks (model prog w) hp (isInstance (.ref x) (.type "BaseException")) true := L0.andThen (looks_subIn X hsub)
  have hx0 : (false && onTheHeap (Value.builtin "BaseException.__getattribute__")) = false := rfl
  have hx2 : (Value.builtin "BaseException.__getattribute__" == Value.builtin "object.__getattribute__") = false := by decide +kernel
  have hx1 : (onTheHeap (Value.ref D) && Value.builtin "BaseException.__getattribute__" == Value.builtin "object.__getattribute__") = false := by rw [hx2]; rfl
  unfold getAttr? getAttrBy? getAttrBy
  refine wpAny_bind (wpAny_mkText (wpAny_bind (wpAny_attempt (wpAny_holding (wpAny_bind (L0.at (wpAny_bind (L1.at ?_))))))))
  show wpAny _ _ (if (onTheHeap (Value.ref D) && Value.builtin "BaseException.__getattribute__" == Value.builtin "object.__getattribute__") = true then _ else _) _ _ _
  rw [hx1, if_neg Bool.false_ne_true]
  unfold getAttrByItsOwn hookBefore
  refine wpAny_bind ?_
  rw [if_pos (show onTheHeap (Value.ref D) = true from rfl)]
  refine L2.at ?_
  refine wpAny_bind (wpAny_attempt (wpAny_holding ?_))
  unfold callGetattribute
  rw [hx0, if_neg Bool.false_ne_true]
  unfold boundAndCalled
  rw [PySem.F.excAttr_ValueError.ga.bind (.ref x)]
  refine wpAny_bind (wpAny_pure ?_)
  show wpAny _ _ (call (.builtin "BaseException.__getattribute__") [.ref x, .str "__class__" t]) _ _ _
  refine wpAny_call (codeAny_call_builtin PySem.F.excAttr_ValueError.ga.plain PySem.F.entry_bexc_ga ?_)
  refine @check_slot (model prog w) _ _ ⟨hp, g, d, t + 1, os⟩ "BaseException.__getattribute__" "BaseException" "__getattribute__" (.ref x) [.str "__class__" t] [] _ (by decide +kernel) (by decide +kernel) sub (PySem.F.args_bexc_ga (.ref x) (.str "__class__" t)) ?_
  unfold Builtin.«object.__getattribute__»
  refine wpAny_bind (wpAny_of_eq (a := ((Value.ref x : Value), [Value.str "__class__" t])) (by first | rfl | (simp only [slotArgs]; rfl)) ?_)
  refine wpAny_bind (wpAny_pure (wpAny_bind (L0.at (wpAny_bind (L3.at ?_)))))
  show wpAny _ _ (holding [Value.builtin "object.__class__"] (call (.builtin "getset_descriptor.__get__") [.builtin "object.__class__", .ref x, .ref D]) >>= ret) _ _ _
  refine wpAny_bind (wpAny_holding (wpAny_call (class_get (s := ⟨hp, g, d, t + 1, os⟩) (ox := ox) (od := od) X I hm ?_)))
  refine wpAny_pure ?_
  show wpAny _ _ (handedOut (.ref D)) _ _ _
  rw [handedOut_of (v := .ref D) rfl]
  first
    | exact wpAny_pure (wpAny_pure h)
    | exact wpAny_pure h
    | exact wpAny_pure (wpAny_bind (wpAny_pure (wpAny_pure h)))
theorem kitx_excO (hga : findIn K (.ref D) "__getattribute__" = some (some (.builtin "BaseException.__getattribute__"))) (hgt : findIn K (.ref D) "__getattr__" = some none) (hsub : subIn K (.ref D) (.type "BaseException") = some true) (hdct : hasDictIn K D = true) (ha : findIn K (.ref D) "__class__" = some (some (.builtin "object.__class__")))
    (hn : specialIn K (.builtin "object.__class__") "__get__" = some (some (.builtin "getset_descriptor.__get__"))) (htk : takesIn K (.builtin "object.__class__") = some true) (hm : mroIn K D (.type "object") = some true) :
    KitX K (.ref x) (.ref D) (fun h => InstAt h x ox D od) where
  ty := fun _ _ _ I => I.type
  it := fun _ _ X _ => by
    obtain ⟨cdD, hcD, _⟩ := any_some hdct
    unfold clsIn at hcD
    split at hcD
    · rename_i c' d' cd' sl' ho
      intro A' Q' E' s' k q
      unfold isType loadHead
      exact wpAny_bind (wpAny_loadPart (k _ _ (X _ _ ho)) (wpAny_pure q))
    · cases hcD
  ne := fun h tp dd its n sl X htp => by
    obtain ⟨cdD, hcD, _⟩ := any_some hdct
    refine Bool.eq_false_iff.mpr fun q => ?_
    have e : D = tp := Value.ref.inj (beq_iff_eq.mp q)
    subst e
    unfold clsIn at hcD
    split at hcD
    · rename_i c' d' cd' sl' ho
      have z := (X _ _ ho).symm.trans htp
      cases z
    · cases hcD
  ca := fun X I k => kin_classO hga hgt hsub hdct ha hn htk hm X I k
end
end PySem.W
namespace Mw
open PySem PySem.Spec L2 PyProof.Rows
structure ExcF (K : PySem.W.Frag) (C : Addr) : Prop where
  ga : PySem.W.findIn K (.ref C) "__getattribute__" = some (some (.builtin "BaseException.__getattribute__"))
  gg : PySem.W.findIn K (.ref C) "__getattr__" = some none
  exC : PySem.W.subIn K (.ref C) (.type "BaseException") = some true
  hd : PySem.W.hasDictIn K C = true
  ca : PySem.W.findIn K (.ref C) "__class__" = some (some (.builtin "object.__class__"))
  mo : PySem.W.mroIn K C (.type "object") = some true
  ty : PySem.W.typeIn K (.ref C) = some (.type "type")
  self : PySem.W.subIn K (.ref C) (.ref C) = some true
  hn : PySem.W.specialIn K (.builtin "object.__class__") "__get__" = some (some (.builtin "getset_descriptor.__get__"))
  tk : PySem.W.takesIn K (.builtin "object.__class__") = some true
theorem kitCls_ref {K : PySem.W.Frag} {t : Value} {D : Addr} {b : Bool} (TD : ExcF K D) (h : PySem.W.subIn K t (.ref D) = some b) : PySem.W.kitCls K t (.ref D) = some b := by
  obtain ⟨cd, hc, _⟩ := PySem.W.any_some TD.hd
  show (if ((PySem.W.clsIn K D).isSome && PySem.W.typeIn K (.ref D) == some (.type "type")) = true then PySem.W.subIn K t (.ref D) else none) = some b
  rw [if_pos (by rw [hc, TD.ty]; rfl)]
  exact h
theorem kitOne_ref {K : PySem.W.Frag} {C D : Addr} {b : Bool} (TD : ExcF K D) (h : PySem.W.subIn K (.ref C) (.ref D) = some b) : PySem.W.kitOne K (.ref C) (.ref D) = some b := by
  unfold PySem.W.kitOne
  by_cases e : (Value.ref C == Value.ref D) = true
  · rw [if_pos e]
    have e2 : C = D := Value.ref.inj (beq_iff_eq.mp e)
    subst e2
    rw [TD.self] at h
    exact h
  · rw [if_neg e]
    exact kitCls_ref TD h
theorem kitOne_non {K : PySem.W.Frag} {D : Addr} {b : Bool} (TD : ExcF K D) (h : PySem.W.subIn K (.type "NoneType") (.ref D) = some b) : PySem.W.kitOne K (.type "NoneType") (.ref D) = some b := by
  unfold PySem.W.kitOne
  rw [if_neg (by simp)]
  exact kitCls_ref TD h
theorem kitOne_ve {K : PySem.W.Frag} {C : Addr} {b : Bool} (h : PySem.W.subIn K (.ref C) (.type "ValueError") = some b) : PySem.W.kitOne K (.ref C) (.type "ValueError") = some b := by
  unfold PySem.W.kitOne
  rw [if_neg (by simp)]
  show (if PySem.W.kitMeta "ValueError" = true then PySem.W.subIn K (.ref C) (.type "ValueError") else none) = some b
  rw [if_pos (by decide +kernel)]
  exact h
theorem kitOne_nve {K : PySem.W.Frag} : PySem.W.kitOne K (.type "NoneType") (.type "ValueError") = some false := L2.kit_ty (by decide +kernel)
theorem catch_ref {K : PySem.W.Frag} {C D : Addr} (TD : ExcF K D) (h : PySem.W.subIn K (.ref C) (.ref D) = some true) : PySem.W.exmOne K (.ref C) (.ref D) = some true := PySem.W.exm_ref TD.exC TD.hd TD.ty h
section
variable {X : Cx}
theorem exc_look {H : Hp} {pins : List (Addr × Obj)} {σ : L2.St} {s : Shared} {et : Hi} {W : Wd} {n : Nat} {a : Addr} {c : Str} {fs : Xfs} (I : Inv X pins σ H s) (cc : Cel X.K X.mg H et W) (hn : et[n]? = some (.exc c fs)) (hm : W.mu[n]? = some a) :
    ∃ C ox od, X.mg c = some (.ref C) ∧ PySem.W.InstAt s.heap a ox C od ∧ (fs = [] ∨ ∃ o, od = some o ∧ ∃ mA : Str → Option Value, (∀ f, RelO ((fs.map fun x => (x.1, V.int x.2)).lookup f) (mA f)) ∧ ∀ name, PySem.W.lookIn name o = some (mA name)) := by
  obtain ⟨C, d, g, hA, hd⟩ := cc.ok n _ a hn hm
  have hx : ObjOk X.prog X.w H s.heap a (ExcH (.ref C) d a) := I.hok a _ hA
  obtain ⟨⟨oe, vs, ho, hz, hdat⟩, _⟩ := hx
  have hno : PySem.W.notCls oe = true := by unfold PySem.W.notCls; rw [hdat]
  rcases hd with ⟨rfl, rfl⟩ | ⟨dd, rfl, hdd⟩
  · exact ⟨C, oe, none, g, ⟨ho, hz.1, hno, by rw [hz.2]; exact True.intro⟩, .inl rfl⟩
  · have hy : ObjOk X.prog X.w H s.heap dd (.xd (fs.map fun x => (x.1, V.int x.2))) := I.hok dd _ hdd
    obtain ⟨mA, hns, hr⟩ := hy
    obtain ⟨od, ho2, hl⟩ := lookIn_ns hns
    exact ⟨C, oe, some od, g, ⟨ho, hz.1, hno, by rw [hz.2]; exact ho2⟩, .inr ⟨od, rfl, mA, hr, hl⟩⟩
def ClsNm (X : Cx) (x : Str) (u : Value) : Prop := Names X x u ∧ ∃ v, RelV v u ∧ ClsV v u
theorem clsNm_ref {x : Str} {C : Addr} (hg : Gl X x) (g : X.mg x = some (.ref C)) (hd : (x == ("__debug__" : Str)) = false := by decide) : ClsNm X x (.ref C) := ⟨⟨hg, hd, .inl g⟩, .ref C, rfl, .own C⟩
theorem clsNm_ve (hg : Gl X "ValueError") (g : X.mg "ValueError" = none) : ClsNm X "ValueError" (.type "ValueError") := ⟨⟨hg, by decide, .inr ⟨g, by rfl, by decide⟩⟩, .ty "ValueError", rfl, .ty "ValueError"⟩
theorem pe_clsNm {x : Str} {u : Value} {p : Pos} (h : ClsNm X x u) : PE X (.Name x p) (fun σ H Q => ∀ v, ClsV v u → RelV v u → Q v H) := by
  obtain ⟨⟨hg, hd, h⟩, v, r, cv⟩ := h
  refine ⟨fun pins s σ H Q I q => ?_⟩
  rcases h with h | ⟨h, hv, hn⟩
  · exact ld_glob I hg h ⟨v, H, I, r, q v cv r⟩ hd
  · exact ld_blt I hg h hv ⟨v, H, I, r, q v cv r⟩ hn hd
def mIsiE (an : Bool) (ans : List (Str × Bool)) (me : EM PV) : EM PV := fun ep et R => me ep et fun p et1 => (p = .non ∧ R (.bl an) et1) ∨ ∃ n c fs b, p = .ref n ∧ et1[n]? = some (.exc c fs) ∧ ans.lookup c = some b ∧ R (.bl b) et1
structure IsiOk (X : Cx) (us : List Value) (an : Bool) (ans : List (Str × Bool)) : Prop where
  non : PySem.W.kitAny X.K (.type "NoneType") us = some an
  exc : ∀ c b, ans.lookup c = some b → ∀ C, X.mg c = some (.ref C) → ExcF X.K C ∧ PySem.W.kitAny X.K (.ref C) us = some b
theorem kitAny_one {K : PySem.W.Frag} {t u : Value} {b : Bool} (h : PySem.W.kitAny K t [u] = some b) : PySem.W.kitOne K t u = some b := by
  unfold PySem.W.kitAny at h
  cases e : PySem.W.kitOne K t u with
  | none => rw [e] at h; cases h
  | some d =>
    rw [e] at h
    cases d
    · exact h
    · exact h
theorem sE_isiE {e : Expr} {me : EM PV} {x : Str} {u : Value} {an : Bool} {ans : List (Str × Bool)} {p p2 pos : Pos} (hq : IsiOk X [u] an ans) (hc : ClsNm X x u) (hi : Gl X "isinstance") (hm : X.mg "isinstance" = none) (he : SimE X e me)
    (h1 : starEach [e, .Name x p2] X.env = (false, eval e X.env) :: starEach [.Name x p2] X.env := by rfl) (h2 : starEach [Expr.Name x p2] X.env = (false, eval (.Name x p2) X.env) :: starEach [] X.env := by rfl) (h3 : (backTo pos (starEach [Expr.Name x p2] X.env)).any (·.1) = false := by rfl) :
    SimE X (.Call (.Name "isinstance" p) [e, .Name x p2] [] pos) (mIsiE an ans me) := by
  have ha := pa_cons he (pa_cons (pe_clsNm (p := p2) hc) pa_nil h2) h1
  refine ⟨fun pins s σ H Q I ⟨ep, et, W, R, c, sl, ee, q⟩ => ?_⟩
  refine wpAny_Call_Name_kw (ld_blt I hi hm boot_isinstance ?_ (by decide) (by decide))
  refine PyProof.Rows.callWith_builtin1 (thn (ha.run pos pins s σ H (fun xs H1 => ∃ v p cv et1 W1, xs = [v, cv] ∧ RelV cv u ∧ ClsV cv u ∧ Ext NoO H et W H1 et1 W1 ∧ Cel X.K X.mg H1 et1 W1 ∧ VR X.K X.mg W1 H1 p v ∧ ((p = .non ∧ R (.bl an) et1) ∨ ∃ n c fs b, p = .ref n ∧ et1[n]? = some (.exc c fs) ∧ ans.lookup c = some b ∧ R (.bl b) et1)) I
    ⟨ep, et, W, _, c, sl, ee, fun p et1 r1 v H1 W1 x1 c1 p1 cv h1 h2 => ⟨v, p, cv, et1, W1, rfl, h2, h1, x1, c1, p1, r1⟩⟩) fun us s1 ⟨vs, H1, I1, rr, v, p, cv, et1, W1, e1, rc, kc, x1, c1, p1, r1⟩ => ?_) h1 h3
  subst e1
  obtain ⟨u1, u2, rfl, r2, r3⟩ := vals2 rr
  have e2 := kc.eq r3
  subst e2
  rcases r1 with ⟨rfl, r1⟩ | ⟨n, cn, fs, b, rfl, hn, hl, r1⟩
  · unfold VR at p1
    subst p1
    cases (show u1 = Value.none from r2)
    exact PySem.W.kia_one PySem.W.kitx_none I1.kIn True.intro (kitAny_one hq.non) (fun z => nomatch z) fun tk => ⟨.bl an, H1, I1.tok tk, rfl, q _ et1 r1 _ H1 W1 x1 c1 VR.bl⟩
  · unfold VR at p1
    obtain ⟨a, rfl, hmu⟩ := p1
    cases (show u1 = Value.ref a from r2)
    obtain ⟨C, ox, od, g, J, _⟩ := exc_look I1 c1 hn hmu
    obtain ⟨T, hk⟩ := hq.exc cn b hl C g
    exact PySem.W.kia_one (PySem.W.kitx_excO T.ga T.gg T.exC T.hd T.ca T.hn T.tk T.mo) I1.kIn J (kitAny_one hk) (fun z => nomatch z) fun tk => ⟨.bl b, H1, I1.tok tk, rfl, q _ et1 r1 _ H1 W1 x1 c1 VR.bl⟩
end
end Mw
namespace Mw
open PySem PySem.Spec L2 PyProof.Rows
section
variable {X : Cx}
inductive ClsNms (X : Cx) : List Expr → List Value → Prop where
  | nil : ClsNms X [] []
  | cons {x : Str} {p : Pos} {u : Value} {es : List Expr} {us : List Value} (h : ClsNm X x u) (t : ClsNms X es us) (e : starEach (.Name x p :: es) X.env = (false, eval (.Name x p) X.env) :: starEach es X.env) : ClsNms X (.Name x p :: es) (u :: us)
theorem pa_clsNms {es : List Expr} {us : List Value} (h : ClsNms X es us) : PA X es (fun σ H Q => ∀ vs, Paired ClsV vs us → Vals vs us → Q vs H) := by
  induction h with
  | nil => exact weakA pa_nil fun σ H Q q => q [] .nil .nil
  | cons h t e ih => exact weakA (pa_cons (pe_clsNm h) ih e) fun σ H Q q v cv r vs k rs => q (v :: vs) (.cons cv k) (.cons r rs)
theorem paired_len {α β : Type} {r : α → β → Prop} : ∀ {xs : List α} {ys : List β}, Paired r xs ys → xs.length = ys.length
  | _, _, .nil => rfl
  | _, _, .cons _ t => by rw [List.length_cons, List.length_cons, paired_len t]
theorem sE_isiET {e : Expr} {me : EM PV} {es : List Expr} {us : List Value} {an : Bool} {ans : List (Str × Bool)} {x1} {p p2 pos : Pos} (hq : IsiOk X us an ans) (hc : ClsNms X es us) (hs : us.length ≤ 100) (hi : Gl X "isinstance") (hm : X.mg "isinstance" = none) (he : SimE X e me)
    (h1 : starEach [e, .Tuple es x1 p2] X.env = (false, eval e X.env) :: starEach [.Tuple es x1 p2] X.env := by rfl) (h2 : starEach [Expr.Tuple es x1 p2] X.env = (false, eval (.Tuple es x1 p2) X.env) :: starEach [] X.env := by rfl) (h3 : (backTo pos (starEach [Expr.Tuple es x1 p2] X.env)).any (·.1) = false := by rfl) :
    SimE X (.Call (.Name "isinstance" p) [e, .Tuple es x1 p2] [] pos) (mIsiE an ans me) := by
  have ha := pa_cons he (pa_cons (pe_tup (x1 := x1) (pos := p2) (pa_clsNms hc)) pa_nil h2) h1
  refine ⟨fun pins s σ H Q I ⟨ep, et, W, R, c, sl, ee, q⟩ => ?_⟩
  refine wpAny_Call_Name_kw (ld_blt I hi hm boot_isinstance ?_ (by decide) (by decide))
  refine PyProof.Rows.callWith_builtin1 (thn (ha.run pos pins s σ H (fun xs H1 => ∃ v p tp cs et1 W1, xs = [v, .ref tp] ∧ H1 tp = some (.tup cs) ∧ Paired ClsV cs us ∧ Ext NoO H et W H1 et1 W1 ∧ Cel X.K X.mg H1 et1 W1 ∧ VR X.K X.mg W1 H1 p v ∧ ((p = .non ∧ R (.bl an) et1) ∨ ∃ n c fs b, p = .ref n ∧ et1[n]? = some (.exc c fs) ∧ ans.lookup c = some b ∧ R (.bl b) et1)) I
    ⟨ep, et, W, _, c, sl, ee, fun p et1 r1 v H1 W1 x1 c1 p1 cs k1 k2 => ⟨?_, fun a ha2 => ⟨v, p, a, cs, et1, W1, rfl, upd_same, k1, x1.NoO_trans (Ext.new ha2 W1 rfl (fun _ h => h) fun _ h => .inl h), c1.new ha2 W1 rfl (fun _ h => h) fun _ h => .inl h, VR.ext (Ext.new ha2 W1 rfl (fun _ h => h) fun _ h => .inl h) c1.stays0 _ _ p1, r1⟩⟩⟩) fun us1 s1 ⟨vs, H1, I1, rr, v, p, tp, cs, et1, W1, e1, htp, kc, x1, c1, p1, r1⟩ => ?_) h1 h3
  · rw [paired_len k1]
    exact Nat.le_trans hs (by rw [sizeLine_eq]; decide)
  subst e1
  obtain ⟨u1, u2, rfl, r2, r3⟩ := vals2 rr
  cases (show u2 = Value.ref tp from r3)
  obtain ⟨_, its, rv, o, h1, h2, n, h3⟩ := (show ObjOk X.prog X.w H1 s1.heap tp (.tup cs) from I1.hok tp _ htp)
  have e3 := ClsV.all kc rv
  subst e3
  obtain ⟨oc, od, dt, sl⟩ := o
  simp only at h2 h3
  subst h2 h3
  rcases r1 with ⟨rfl, r1⟩ | ⟨n, cn, fs, b, rfl, hn, hl, r1⟩
  · unfold VR at p1
    subst p1
    cases (show u1 = Value.none from r2)
    exact PySem.W.kia_tup PySem.W.kitx_none I1.kIn True.intro h1 hq.non (fun z => nomatch z) fun tk => ⟨.bl an, H1, I1.tok tk, rfl, q _ et1 r1 _ H1 W1 x1 c1 VR.bl⟩
  · unfold VR at p1
    obtain ⟨a, rfl, hmu⟩ := p1
    cases (show u1 = Value.ref a from r2)
    obtain ⟨C, ox, od, g, J, _⟩ := exc_look I1 c1 hn hmu
    obtain ⟨T, hk⟩ := hq.exc cn b hl C g
    exact PySem.W.kia_tup (PySem.W.kitx_excO T.ga T.gg T.exC T.hd T.ca T.hn T.tk T.mo) I1.kIn J h1 hk (fun z => nomatch z) fun tk => ⟨.bl b, H1, I1.tok tk, rfl, q _ et1 r1 _ H1 W1 x1 c1 VR.bl⟩
end
theorem catches_nil {K : PySem.W.Frag} {mg : Str → Option Value} {cv : Value} : Catches K mg cv [] := fun _ h => by cases h
theorem catches_cons {K : PySem.W.Frag} {mg : Str → Option Value} {c : Str} {C D : Addr} {cs : List Str} (g : mg c = some (.ref C)) (TD : ExcF K D) (h : PySem.W.subIn K (.ref C) (.ref D) = some true) (t : Catches K mg (.ref D) cs) : Catches K mg (.ref D) (c :: cs) := fun d hd C' g' => by
  rcases List.mem_cons.mp hd with rfl | hd
  · rw [g] at g'; cases g'
    exact catch_ref TD h
  · exact t d hd C' g'
section
variable {K : PySem.W.Frag} {t u : Value} {us : List Value} {b d : Bool}
theorem ka_nil : PySem.W.kitAny K t [] = some false := rfl
theorem ka_cons (h : PySem.W.kitOne K t u = some b) (r : PySem.W.kitAny K t us = some d) : PySem.W.kitAny K t (u :: us) = some (b || d) := by
  unfold PySem.W.kitAny
  rw [h]
  cases b
  · exact r
  · rfl
variable {X : Cx} {ans : List (Str × Bool)}
theorem isi_mk {an : Bool} (h : PySem.W.kitAny X.K (.type "NoneType") us = some an) : IsiOk X us an [] := ⟨h, fun _ _ h => by cases h⟩
theorem isi_more {c : Str} {C : Addr} {an : Bool} (g : X.mg c = some (.ref C)) (T : ExcF X.K C) (h : PySem.W.kitAny X.K (.ref C) us = some b) (t : IsiOk X us an ans) : IsiOk X us an ((c, b) :: ans) := ⟨t.non, fun c' b' e C' g' => by
  simp only [List.lookup] at e
  cases q : c' == c with
  | true =>
    rw [q] at e; cases e
    have e2 : c' = c := beq_iff_eq.mp q
    subst e2
    rw [g] at g'; cases g'
    exact ⟨T, h⟩
  | false => rw [q] at e; exact t.exc c' b' e C' g'⟩
end
end Mw
namespace L2
open PySem PySem.Spec PyProof.Rows
structure FnOkG (P : Program) (w : World) (K : PySem.W.Frag) (mg : Str → Option Value) (base : Heap) (CX : CXT) (k : Nat) (f : Addr) (fd : FuncData) (ps : List Str) (sp : Sp) : Prop where
  len : ∀ vs H Q E, sp vs H Q E → vs.length = ps.length
  run : ∀ (A : Around) (outer : List Env) (s : Shared) (H : Hp) (args : Args) (us : List Value) (vs : List V) (Q : VK) (E : XK), A.guards = some [] → Room k A → Env0 P w K mg base A outer s H → BindsTo s fd args (ps.zip us) → Vals vs us → sp vs H Q E →
    codeAny (model P w) A (.call (.ref f) args) (CR CX outer P w H s Q E) s
section
variable {P : Program} {w : World} {K : PySem.W.Frag} {mg : Str → Option Value} {base : Heap} {CX : CXT} {j k : Nat} {f : Addr} {fd : FuncData} {ps : List Str} {sp sp' : Sp}
theorem FnOk.g (F : FnOk P w K mg base CX k f fd ps sp) : FnOkG P w K mg base CX k f fd ps sp := ⟨F.len, fun A outer s H args us vs Q E _ hr => F.run A outer s H args us vs Q E hr⟩
theorem FnOkG.mono (F : FnOkG P w K mg base CX j f fd ps sp) (h : j ≤ k) : FnOkG P w K mg base CX k f fd ps sp := ⟨F.len, fun A outer s H args us vs Q E hgd hr => F.run A outer s H args us vs Q E hgd (hr.mono h)⟩
theorem FnOkG.imp (F : FnOkG P w K mg base CX k f fd ps sp) (h : ∀ vs H Q E, sp' vs H Q E → sp vs H Q E) : FnOkG P w K mg base CX k f fd ps sp' :=
  ⟨fun vs H Q E q => F.len vs H Q E (h _ _ _ _ q), fun A outer s H args us vs Q E hgd hr he hb hv hs => F.run A outer s H args us vs Q E hgd hr he hb hv (h _ _ _ _ hs)⟩
end
theorem fn_ofG {CX : CXT} {P : Program} {w : World} {K : PySem.W.Frag} {mg : Str → Option Value} {base : Heap} {k : Nat} {f : Addr} {name qual : Str} {params : Arguments} {body : List Stmt} {scope : Scope} {dV kV doc pm cdv ct oc : Value} {an od : Option Addr}
    {osl : Array (Option Value)} {N ps : List Str} {sp : Sp} (lk : K.lookup f = some ⟨oc, od, .func (PySem.W.fnOf name qual params body scope dV kV doc pm an cdv ct), osl⟩) (hcd : PySem.W.codeIn K cdv qual = true) (S : FnScope N ps scope)
    (len : ∀ vs H Q E, sp vs H Q E → vs.length = ps.length)
    (hbody : ∀ (A : Around) (outer : List Env) (s : Shared) (H : Hp) (vs : List V) (Q : VK) (E : XK), Room k (A.deeper (envOfC qual scope s.heap.objs.size f cdv)) → sp vs H Q E →
      A.guards = some [] → ∃ t, PSs (cxOf CX P w K mg base N qual scope f cdv A outer s H E) body t ∧ t { nx := fun _ H' => Q .non H', rt := Q } (start N vs) H) :
    FnOkG P w K mg base CX (k + 1) f (PySem.W.fnOf name qual params body scope dV kV doc pm an cdv ct) ps sp := by
  refine ⟨len, fun A outer s H args us vs Q E hgd hr e0 hb r hsp => ?_⟩
  have hl := len _ _ _ _ hsp
  have KX : K.In s.heap := e0.mod.kin.keeps fun b o e => (e0.bs b o e).1
  have lim : s.heap.NoLimit := e0.mod.nolimit.keeps fun b o e => (e0.bs b o e).1
  have hkind : ∀ y ∈ ps.zip us, scope.names.lookup y.1 = some .local ∨ (scope.names.lookup y.1 = some .cell ∧ ((cellsFrom (s.heap.objs.size + 1) scope.names []).lookup y.1).isSome = true) := fun ⟨n, v⟩ hy => by
    rcases S.par n (List.of_mem_zip hy).1 with q | q
    · exact .inl q
    · exact .inr ⟨q, PySem.W.cellsFrom_some _ _ _ (.inl q)⟩
  refine codeAny_call_function hr.depth (KX _ _ lk) rfl S.co S.gen rfl (PySem.W.codeRec_of KX hcd) (hb _ _ _ _ ?_)
  refine wpAny_newFunctionEnv_cells S.kind hkind fun env he s1 x => ?_
  subst he
  refine ⟨lim.keeps x.toInCall.keep, codeAny_func ?_⟩
  obtain ⟨t, ht, hq⟩ := hbody A outer s H vs Q E (hr.deeper _) hsp hgd
  have I : Inv (cxOf CX P w K mg base N qual scope f cdv A outer s H E) [] (start N vs) H s1 := inv_start S hr.hd e0 hl r x
  refine wpAny_mono (ht.run [] s1 (start N vs) H _ I hq) (fun fl s' hs => ?_) fun e s' hs => hs
  have fin : ∀ {σ' : St} {H' : Hp} {v : V} {u : Value}, Inv (cxOf CX P w K mg base N qual scope f cdv A outer s H E) [] σ' H' s' → RelV v u → Q v H' → CE outer P w H s Q u s' :=
    fun {σ' H' v u} J rv q => ⟨v, H', J.os, J.bare, J.base, J.hok, rv, q⟩
  cases fl with
  | ret u =>
    obtain ⟨v, σ', H', J, rv, q⟩ := hs
    exact fin J rv q
  | next =>
    obtain ⟨σ', H', J, q⟩ := hs
    exact fin (v := V.non) (u := Value.none) J rfl q
  | brk =>
    obtain ⟨_, _, _, q⟩ := hs
    exact False.elim q
  | cont =>
    obtain ⟨_, _, _, q⟩ := hs
    exact False.elim q
section
variable {P : Program} {w : World} {K : PySem.W.Frag} {mg : Str → Option Value} {base : Heap}
theorem Fun.okG {x qual : Str} {st : Stmt} {f : Addr} {fd : FuncData} {N ps : List Str} {k : Nat} {sp : Sp} (F : Fun K x qual st f fd) (S : FnScope N ps (defScope st)) (len : ∀ vs H Q E, sp vs H Q E → vs.length = ps.length)
    (hbody : ∀ (cdv : Value) (A : Around) (outer : List Env) (s : Shared) (H : Hp) (vs : List V) (Q : VK) (E : XK), Room k (A.deeper (envOfC qual (defScope st) s.heap.objs.size f cdv)) → A.guards = some [] → sp vs H Q E →
      ∃ t, PSs (cxOf CX0 P w K mg base N qual (defScope st) f cdv A outer s H E).nox (defBody st) t ∧ t { nx := fun _ H' => Q .non H', rt := Q } (start N vs) H) : FnOkG P w K mg base CX0 (k + 1) f fd ps sp := by
  obtain ⟨oc, od, kV, doc, pm, an, cdv, ct, osl, rfl, lk, hcd⟩ := F.ex
  refine fn_ofG lk hcd S len fun A outer s H vs Q E hr hsp hgd => ?_
  obtain ⟨t, h, q⟩ := hbody cdv A outer s H vs Q E hr hgd hsp
  exact ⟨t, h.nox, q⟩
end
section
variable {X : Cx} {CX : CXT} {k : Nat} {f : Addr} {fd : FuncData} {ps : List Str} {sp : Sp} {E : XK} {x : Str} {p pos : Pos} {e : Expr} {es : List Expr} {t : TA}
end
theorem law_callG {P : Program} {w : World} {K : PySem.W.Frag} {mg mb : Str → Option Value} {CX : CXT} {k : Nat} {fa a : Addr} {fd : FuncData} {x : Str} {sp : Sp} {s₁ : Shared} {vs : List Value} {ns : List Int}
    (KX : K.In s₁.heap) (hns : s₁.heap.Ns mainGlobals mg) (hb : s₁.heap.Ns builtinsNs mb) (hbb : ∀ x : Str, x ≠ "__name__" → mb x = bootBuiltins x) (hlim : s₁.heap.NoLimit) (hg : s₁.gens = #[])
    (ha : s₁.heap.get? a = some { cls := .type "list", data := .seq vs.toArray }) (hi : IntsAre vs ns) (hl : ns.length ≤ sizeLine) (hr : Room k callerA)
    (F : ∀ base : Heap, K.In base → base.Ns mainGlobals mg → FnOkG P w K mg base CX k fa fd [x] sp) (hbind : ∀ (s : Shared) (u : Value), BindsTo s fd ⟨[u], []⟩ [(x, u)])
    (hsp : ∀ H : Hp, Only H → SqL K H a (ns.map V.int) → sp [.ref a] H (fun v _ => v = .bl true) fun _ _ _ => False)
    (hCX : ∀ H e s', CX [] H s₁ (fun _ _ _ => False) e s' → False) :
    codeAny (model P w) callerA (.call (.ref fa) ⟨[.ref a], []⟩) (fun r s' => r = .ok (.ret (.bool true)) ∧ OldK s₁.heap s'.heap ∧ s'.os = s₁.os ∧ AllBare s'.gens) s₁ := by
  have rv := vals_ints hi
  have lenV := hi.length
  -- from an abstract heap in which nothing but the script may be tracked
  have core : ∀ H : Hp, Only H → SqL K H a (ns.map V.int) → HOk P w H s₁.heap → (∀ b, H b ≠ none → b = a) → (H a ≠ none → K.lookup a = none) →
      codeAny (model P w) callerA (.call (.ref fa) ⟨[.ref a], []⟩) (fun r s' => r = .ok (.ret (.bool true)) ∧ OldK s₁.heap s'.heap ∧ s'.os = s₁.os ∧ AllBare s'.gens) s₁ := by
    intro H hO hS hok hA hK
    have base_of : ∀ {b : Addr} {o : Obj}, s₁.heap.get? b = some o → H b = none → (hidT s₁.heap H).get? b = some o := fun e n => hidT_get e n
    have noA : ∀ {b : Addr} {o : Obj} {es : Array DictEntry} {ep : Nat}, s₁.heap.get? b = some o → o.data = .dict es ep → H b = none := fun {b o es ep} e d => by
      cases q : H b with
      | none => rfl
      | some u =>
        have e' : b = a := hA b (by rw [q]; simp)
        subst e'
        rw [ha] at e; cases e
        have d' : Data.seq vs.toArray _ = Data.dict es ep := d
        cases d'
    have nsK : ∀ {b : Addr} {m : Str → Option Value}, s₁.heap.Ns b m → (hidT s₁.heap H).Ns b m := fun {b m} ⟨o, es, ep, e, d, r⟩ => ⟨o, es, ep, base_of e (noA e d), d, r⟩
    have hKb : K.In (hidT s₁.heap H) := fun b o e => base_of (KX b o e) (by
      cases q : H b with
      | none => rfl
      | some u =>
        have e' : b = a := hA b (by rw [q]; simp)
        subst e'
        rw [hK (by rw [q]; simp)] at e; cases e)
    have hM : Mod K mg (hidT s₁.heap H) := ⟨hKb, nsK hns, ⟨mb, nsK hb, hbb⟩, let ⟨mc, h1, h2⟩ := hlim; ⟨mc, nsK h1, h2⟩⟩
    have e0 : Env0 P w K mg (hidT s₁.heap H) callerA [] s₁ H := ⟨rfl, hM, fun b o e => of_hidT e, Nat.le_of_eq (hidT_size _ _), trivial, fun b hb => absurd (show b ∈ ([] : List Addr) from hb) (by simp), hok, .of_eq hg⟩
    refine codeAny_mono ((F _ hKb (nsK hns)).run callerA [] s₁ H ⟨[.ref a], []⟩ [.ref a] [.ref a] _ _ rfl hr e0 (hbind s₁ (.ref a)) (.cons rfl .nil) (hsp H hO hS)) fun r s' h => ?_
    cases r with
    | error e => exact (hCX H e s' h).elim
    | ok fl =>
      cases fl with
      | next => exact False.elim h
      | brk => exact False.elim h
      | cont => exact False.elim h
      | ret u =>
        obtain ⟨v, H', os, bare, un, hok', r', q⟩ := h
        have q' : v = .bl true := q
        subst q'
        obtain rfl : u = Value.bool true := r'
        refine ⟨rfl, OldK.of_keep fun b o e => ?_, os, bare⟩
        cases q : H b with
        | none => exact un.keep b o e q (by intro z; exact absurd (show b ∈ ([] : List Addr) from z) (by simp)) (by simp)
        | some u =>
          rcases hO b with z | ⟨ob, xs, z⟩
          · rw [q] at z; cases z
          · have z2 := un.frzs b ob _ z
            obtain ⟨e1, _⟩ := hok b _ z
            obtain ⟨e2, _⟩ := hok' b _ z2
            rw [e] at e1; cases e1
            exact e2
  cases hk : K.lookup a with
  | some o =>
    -- the script is one of the module's own objects
    have e := KX a o hk
    rw [ha] at e
    cases e
    refine core (fun _ => none) (fun _ => .inl rfl) (.inr ⟨_, vs.toArray, _, hk, rfl, rfl, rfl, by rw [List.size_toArray, lenV]; exact hl, by simpa using rv⟩) (fun b u z => by have z' : (none : Option HO) = some u := z; cases z') (fun b z => absurd rfl z) fun z => absurd rfl z
  | none =>
    refine core (fun b => if b = a then some (.frz { cls := .type "list", data := .seq vs.toArray } (.lst (ns.map V.int))) else none) (fun b => ?_) (.inl (.inr ⟨{ cls := .type "list", data := .seq vs.toArray }, if_pos rfl⟩)) (fun b u z => ?_) (fun b z => ?_) fun _ => hk
    · by_cases hb : b = a
      · exact .inr ⟨_, _, if_pos hb⟩
      · exact .inl (if_neg hb)
    · by_cases hb : b = a
      · have z' := (if_pos hb).symm.trans z
        cases z'
        subst hb
        exact ⟨ha, by rw [List.length_map]; exact hl, vs, _, rv, ha⟩
      · have z' := (if_neg hb).symm.trans z
        cases z'
    · by_cases hb : b = a
      · exact hb
      · exact absurd (if_neg hb) z
theorem walk_ofG {l : PySem.W.OpenLaw} {n k : Nat} {q : Program} {loose : List Str} {XP : (Str → Option Value) → Heap → Prop} {YP : World → Heap → Prop} {d : DefRec} {K : Params → PySem.W.Frag} {CX : World → CXT} {sp : World → Sp} {x : Str}
    (hn : l.most = some n) (hn2 : n ≤ sizeLine) (hdf : d.params.defaults = []) (hr : Room k callerA)
    (hY : ∀ (w : World) (h : Heap), YP w h → (K w.params).In h)
    (F : ∀ (w : World) (mg : Str → Option Value) (fa : Addr) (h : Heap), (K w.params).In h → h.Ns mainGlobals mg → mg d.name = some (.ref fa) →
      ∃ fd : FuncData, (∀ (s : Shared) (u : Value), BindsTo s fd ⟨[u], []⟩ [(x, u)]) ∧
        ∀ base : Heap, (K w.params).In base → base.Ns mainGlobals mg → FnOkG l.prog w (K w.params) mg base (CX w) k fa fd [x] (sp w))
    (hsp : ∀ (w : World) (H : Hp) (a : Addr) (ns : List Int), ns.length ≤ n → Only H → SqL (K w.params) H a (ns.map V.int) → sp w [.ref a] H (fun v _ => v = .bl true) fun _ _ _ => False)
    (hCX : ∀ (w : World) (H : Hp) (s : Shared) (e : Value) (s' : Shared), CX w [] H s (fun _ _ _ => False) e s' → False) :
    PySem.W.WalkO q loose XP YP l.row.toRowW d [] (fun f vs => PySem.call f vs) := by
  refine Att.attach_call hn hdf fun w s₀ s₁ mg mb fa o pm cd doc a vs ns G Y ho hd hcd hmg hobj hints hlen hg => ?_
  have KX := hY w _ Y
  obtain ⟨fd, hb, hF⟩ := F w mg fa _ KX G.T.g hmg
  exact law_callG KX G.T.g G.T.b G.T.builtins G.T.nolimit hg hobj hints (Nat.le_trans hlen hn2) hr hF hb (fun H hO hS => hsp w H a ns hlen hO hS) fun H e s' => hCX w H s₁ e s'
end L2
namespace Mw
open PySem PySem.Spec L2
theorem fn_okG {P : Program} {w : World} {K : PySem.W.Frag} {mg : Str → Option Value} {base : Heap} {x qual : Str} {st : Stmt} {f : Addr} {fd : FuncData} {N ps : List Str} {k : Nat} {sp : FSpec} {m : SM} (F : Fun K x qual st f fd) (S : FnScope N ps (defScope st))
    (body : ∀ (cdv : Value) (A : Around) (outer : List Env) (s : Shared) (H : Hp) (E : XK), Room k (A.deeper (PyProof.Rows.envOfC qual (defScope st) s.heap.objs.size f cdv)) → A.guards = some [] → SimSs (cxOf CX0 P w K mg base N qual (defScope st) f cdv A outer s H E).nox (defBody st) m)
    (h : ∀ args et R, sp args et R → m (env0 N args) et (retK R)) : FnOkG P w K mg base CX0 (k + 1) f fd ps (FS K mg ps.length sp) := by
  refine F.okG S (fun vs H Q E q => q.1) fun cdv A outer s H vs Q E hr hgd q => ⟨_, body cdv A outer s H E hr hgd, ?_⟩
  obtain ⟨_, et, W, args, R, c, va, hs, q⟩ := q
  refine ⟨env0 N args, et, W, retK R, c, slt0 va, h args et R hs, fun fl ep' et' r σ' H' W' x' c' => ?_⟩
  have noOwn : ∀ a, ¬ Own (env0 N args) (L2.start N vs) a := fun a ⟨i, p, e, _⟩ => by
    unfold env0 at e
    by_cases hi : i < args.length
    · rw [List.getElem?_append_left (by simpa using hi), List.getElem?_map, List.getElem?_eq_getElem hi] at e; cases e
    · rw [List.getElem?_append_right (by simpa using hi), List.getElem?_replicate] at e
      split at e <;> cases e
  have x1 : Ext NoO H et W H' et' W' := x'.mono fun a h => absurd h (noOwn a)
  cases fl with
  | nx => exact fun _ _ => q .non et' r .non H' W' x1 c' VR.non
  | bk => exact r.elim
  | ct => exact r.elim
  | rt p => exact fun v hv => q p et' r v H' W' x1 c' hv
section
variable {X : Cx} {k n : Nat} {f : Addr} {fd : FuncData} {ps : List Str} {sp : FSpec} {x : Str} {p pos : Pos} {e : Expr} {es : List Expr} {ms : EM (List PV)}
end
theorem top_walkG {l : PySem.W.OpenLaw} {k : Nat} {q : Program} {loose : List Str} {XP : (Str → Option Value) → Heap → Prop} {YP : World → Heap → Prop} {d : DefRec} {K : Params → PySem.W.Frag} {x : Str} (hn : l.most = some 63) (hdf : d.params.defaults = []) (hr : Room k callerA)
    (hY : ∀ (w : World) (h : Heap), YP w h → (K w.params).In h)
    (F : ∀ (w : World) (mg : Str → Option Value) (fa : Addr) (h : Heap), (K w.params).In h → h.Ns mainGlobals mg → mg d.name = some (.ref fa) →
      ∃ fd : FuncData, (∀ (s : Shared) (u : Value), BindsTo s fd ⟨[u], []⟩ [(x, u)]) ∧ ∀ base : Heap, (K w.params).In base → base.Ns mainGlobals mg → FnOkG l.prog w (K w.params) mg base CX0 k fa fd [x] (FS (K w.params) mg 1 spLaw)) :
    PySem.W.WalkO q loose XP YP l.row.toRowW d [] (fun f vs => PySem.call f vs) :=
  L2.walk_ofG (n := 63) (k := k) (x := x) (CX := fun _ => CX0) (sp := fun w => spTop (K w.params)) hn (by decide) hdf hr hY (fun w mg fa h h1 h2 h3 => by
      obtain ⟨fd, hb, hF⟩ := F w mg fa h h1 h2 h3
      exact ⟨fd, hb, fun base b1 b2 => (hF base b1 b2).imp fun _ _ _ _ z => top_imp z⟩) (fun _ _ a ns hl hO hS => ⟨a, ns, rfl, hl, hO, hS, fun _ => rfl⟩) fun _ _ _ _ _ z => z
def isTupD : PyData → Bool
  | .tuple _ => true
  | _ => false
def shwP (p : PV) : Option Str := (dat p).bind fun d => if isTupD d = true ∧ d.canLay0 = true ∧ d.showable = true ∧ d.shown.length ≤ sizeLine ∧ PyData.depth d ≤ 60 then some d.shown else none
def gReprD : List PV → Option PV
  | [p] => (shwP p).map .str
  | _ => none
def rReprT (K : PySem.W.Frag) : List V → Hp → VK → Prop := fun xs H Q => ∃ x ds, xs = [x] ∧ Dp K H x (.tuple ds) ∧ (PyData.tuple ds).canLay0 = true ∧ (PyData.tuple ds).showable = true ∧ (PyData.tuple ds).shown.length ≤ sizeLine ∧ PyData.depth (.tuple ds) ≤ 60 ∧ Q (.str (PyData.tuple ds).shown) H
theorem call_reprT {X : Cx} (hgd : X.A.guards = some []) (hu : X.A.units + 64 < cLine) : CallR X (.builtin "repr") (rReprT X.K) := by
  intro pins s σ H xs us Q I r h
  obtain ⟨x, ds, rfl, hd, hl, hs, hz, hp, q⟩ := h
  obtain ⟨u, rfl, rx⟩ := vals1 r
  obtain ⟨as, rd⟩ := Dp.reads I _ x u hd rx
  cases rd with
  | tuple h1 h2 h3 h4 =>
    have hno : (PyData.tuple ds).hasDict = true → sysModules ∉ as := PyData.noDict_hsm (PyData.hasDict_of_canLay _ hl)
    have hz' : (tupleText (PyData.shownAll ds)).length ≤ sizeLine := by simpa only [PyData.shown] using hz
    rename_i ad o vs n
    obtain ⟨bs, hb, hk⟩ := ReprAllK.of_readsAll (prog := X.prog) (w := X.w) h4 (by simpa [PyData.showable] using hs) (fun hx => hno (by simpa [PyData.hasDict] using hx)) (fun t ht => Nat.le_trans (tupleText_mem_le ht) hz')
    have r : Reads s.heap (.ref ad) (.tuple ds) _ := .tuple h1 h2 h3 h4
    have hna : ad ∉ bs := not_mem_of_deeper r (by simp only [PyData.depth]; omega) hb
    simp only [PyData.depth] at hp
    have hTy : s.TypeIs (.ref ad) "tuple" := ⟨o, h1, h2⟩
    refine Calls.call_function_entry F.kind_repr F.plain_repr F.entry_repr (F.args_repr1 _) ?_
    unfold Builtin.«repr»
    refine wpAny_bind (m := oneArg "repr" _) (wpAny_pure ?_)
    refine wpAny_bind (wpAny_cRoomFor (by show X.A.units + 1 < _; omega) ?_)
    refine wpAny_bind (wpAny_specialOf (name := Str.ofString "__repr__") hTy F.slot_tuple_repr.lookup ?_)
    refine wpAny_bind (m := callSpecialIfBound? (.ref ad) (Str.ofString "__repr__")) (wpAny_callSpecialIfBound?_slotG (name := Str.ofString "__repr__") hTy F.slot_tuple_repr
      (call_tuple_reprK (g := []) h1 h2 h3 hna hk (by show X.A.guards = _; exact hgd) (fun b _ => Clear.nil b) (by show X.A.units + 1 + _ < _; omega) (fun _ _ e => e) (fun h' u tk hk => ?_) hz'))
    refine wpAny_bind (wpAny_isInstance (T := "str") (b := true) rfl isSubtype_str_str ?_)
    refine wpAny_pure ⟨_, rfl, .str (PyData.tuple ds).shown, H, I.kept hk, ⟨u, by simp only [PyData.shown]⟩, q⟩
theorem oA_reprT {K : PySem.W.Frag} {mg : Str → Option Value} : OpA K mg (rReprT K) gReprD (pV K mg) := by
  intro xs H et W ps z Q c hp hz k
  unfold gReprD at hz
  split at hz
  · rename_i p e
    obtain ⟨q, rfl, e2⟩ := map1 e
    obtain ⟨v, rfl, h1⟩ := hp.one
    obtain ⟨t, ht, rfl⟩ := Option.map_eq_some_iff.mp hz
    unfold shwP at ht
    obtain ⟨d, hd, ht⟩ := Option.bind_eq_some_iff.mp ht
    split at ht
    · rename_i hc
      cases ht
      obtain ⟨c1, c2, c3, c4, c5⟩ := hc
      cases d with
      | tuple ds => exact ⟨v, ds, rfl, h1.dp c (by rw [e2]; exact hd), c2, c3, c4, c5, k _ H W (Ext.refl ..) c VR.str⟩
      | _ => exact absurd c1 (by simp [isTupD])
    · cases ht
  · cases hz
end Mw
namespace Mw
open PySem PySem.Spec PyProof.Rows L2
def TabS (K : PySem.W.Frag) (w : World) (mg : Str → Option Value) (D : Str) (tab : List (Str × Str)) : Prop :=
  ∃ p, mg D = some (.ref p) ∧ ∀ s n, tab.lookup s = some n → KDct K w p s (.str n)
def mTabS (tab : List (Str × Str)) (mk : EM PV) : EM PV := fun ep et R => mk ep et fun k et1 => ∃ s n, k = .str s ∧ tab.lookup s = some n ∧ R (.str n) et1
section
variable {X : Cx}
theorem sE_tabS {D : Str} {tab : List (Str × Str)} {e : Expr} {mk : EM PV} {p pos : Pos} (h : TabS X.K X.w X.mg D tab) (hD : Gl X D) (hk : SimE X e mk) (hd : (D == ("__debug__" : Str)) = false := by decide) (hs : PlainIx e := by intro _ _; rfl) : SimE X (.Subscript (.Name D p) e pos) (mTabS tab mk) := by
  obtain ⟨a, hm, ht⟩ := h
  refine weakE (pe_ix ix_kdict (pe_glob hD hm (v := .ref a) rfl hd) hk hs) fun σ H Q ⟨ep, et, W, R, c, s, e, q⟩ => ?_
  refine ⟨ep, et, W, _, c, s, e, fun p et1 r1 v H1 W1 x1 c1 p1 => ?_⟩
  obtain ⟨x, n, rfl, hl, r2⟩ := r1
  have p2 : VR X.K X.mg W1 H1 (.str x) v := p1
  unfold VR at p2; subst p2
  exact ⟨a, x, .str n, rfl, rfl, ht x n hl, q _ et1 r2 _ H1 W1 x1 c1 (by show VR _ _ _ _ _ _; unfold VR; rfl)⟩
end
theorem tabS_mk {K : PySem.W.Frag} {w : World} {mg : Str → Option Value} {D : Str} {p : Addr} {es : Array DictEntry} {n : Nat} {tab : List (Str × Str)} (hD : mg D = some (.ref p)) (hl : K.lookup p = some ⟨.type "dict", none, .dict es n, #[]⟩) (hk : PySem.W.KeysLit w.params es.toList)
    (h : ∀ x ∈ tab, ∃ t, PySem.W.nsIn K p x.1 = some (some (.str x.2 t))) : TabS K w mg D tab :=
  ⟨p, hD, fun s m e => by
    obtain ⟨t, h1⟩ := h _ (lookup_mem e)
    exact ⟨es, n, _, hl, hk, h1, ⟨t, rfl⟩⟩⟩
theorem tabsS_nil {K : PySem.W.Frag} {p : Addr} : ∀ x ∈ ([] : List (Str × Str)), ∃ t, PySem.W.nsIn K p x.1 = some (some (.str x.2 t)) := fun _ h => by cases h
theorem tabsS_cons {K : PySem.W.Frag} {p : Addr} {k v : Str} {t : Tok} {r : List (Str × Str)} (h1 : PySem.W.nsIn K p k = some (some (.str v t))) (h : ∀ x ∈ r, ∃ t, PySem.W.nsIn K p x.1 = some (some (.str x.2 t))) :
    ∀ x ∈ (k, v) :: r, ∃ t, PySem.W.nsIn K p x.1 = some (some (.str x.2 t)) := fun x hx => by
  rcases List.mem_cons.mp hx with rfl | hx
  · exact ⟨t, h1⟩
  · exact h x hx
end Mw
local macro_rules | `(tactic| simp! [$xs,*]) => `(tactic| simp only [Mw.mSeq, Mw.mSet, Mw.mSetN, Mw.mSetX, Mw.mExpr, Mw.mExprX, Mw.mRet, Mw.mIf, Mw.mNext, Mw.mFrz, Mw.mAsg, Mw.mPar, Mw.mBin, Mw.mUn, Mw.mArg, Mw.mC, Mw.mVar, Mw.mPeek, Mw.mCall, Mw.mCons, Mw.mNil, Mw.mTup, Mw.mLst, Mw.mBinT, Mw.mAsT, Mw.mNotT, Mw.mAndT, Mw.mOrT, Mw.mAndE, Mw.mIfE, Mw.mSl, Mw.mO0, Mw.mO1, Mw.mIter, Mw.mRng1, Mw.mRng2, Mw.mMut, Mw.mMutR, Mw.mSubSet, Mw.mShare, Mw.mFor, Mw.mLc, Mw.mYes, Mw.slotV, Mw.frzS, Mw.tgN, Mw.tgT, Mw.tgNs, Mw.wipeE, Mw.retK, List.foldl_cons, List.foldl_nil, Mw.deref_int, Mw.deref_str, Mw.deref_bl, Mw.deref_non, Mw.deref_tup, Mw.deref_lst, Mw.deref_scr, Mw.deref_dic, Mw.deref_ty, Mw.isLst, Mw.cellP, List.getElem?_cons_zero, List.getElem?_cons_succ, List.getElem?_nil, List.set_cons_zero, List.set_cons_succ, List.map_cons, List.map_nil, List.length_cons, List.length_nil, List.cons_append, List.nil_append, Option.some.injEq, Mw.Slot.val.injEq, Mw.Slot.own.injEq, Mw.PV.int.injEq, Mw.PV.bl.injEq, Mw.PV.str.injEq, Mw.PV.ref.injEq, Mw.PV.lst.injEq, Mw.PV.tup.injEq, exists_eq_left', exists_eq_left, and_true, true_and, true_or, or_true, and_self, reduceCtorEq, Mw.gAdd, Mw.gSubI, Mw.gMul, Mw.gDiv, Mw.gMod, Mw.gPow, Mw.gLt, Mw.gLe, Mw.gGt, Mw.gGe, Mw.gIx, Mw.gNeg, Mw.eqB_int, Mw.gEq_int, Mw.gNe_int, Mw.gEq_str, Mw.gNe_str, if_true, if_false, Bool.false_eq_true, Nat.reduceAdd, Nat.zero_add, Bool.not_true, Bool.not_false, Mw.atI_c0, Mw.atI_c1, Mw.atI_c2, Mw.mAugSub, Mw.mSortedT, Mw.atI_c3, Mw.atI_c4, Mw.mEnumA, $xs,*])
local macro_rules | `(tactic| simp!) => `(tactic| simp only [Mw.mSeq, Mw.mSet, Mw.mSetN, Mw.mSetX, Mw.mExpr, Mw.mExprX, Mw.mRet, Mw.mIf, Mw.mNext, Mw.mFrz, Mw.mAsg, Mw.mPar, Mw.mBin, Mw.mUn, Mw.mArg, Mw.mC, Mw.mVar, Mw.mPeek, Mw.mCall, Mw.mCons, Mw.mNil, Mw.mTup, Mw.mLst, Mw.mBinT, Mw.mAsT, Mw.mNotT, Mw.mAndT, Mw.mOrT, Mw.mAndE, Mw.mIfE, Mw.mSl, Mw.mO0, Mw.mO1, Mw.mIter, Mw.mRng1, Mw.mRng2, Mw.mMut, Mw.mMutR, Mw.mSubSet, Mw.mShare, Mw.mFor, Mw.mLc, Mw.mYes, Mw.slotV, Mw.frzS, Mw.tgN, Mw.tgT, Mw.tgNs, Mw.wipeE, Mw.retK, List.foldl_cons, List.foldl_nil, Mw.deref_int, Mw.deref_str, Mw.deref_bl, Mw.deref_non, Mw.deref_tup, Mw.deref_lst, Mw.deref_scr, Mw.deref_dic, Mw.deref_ty, Mw.isLst, Mw.cellP, List.getElem?_cons_zero, List.getElem?_cons_succ, List.getElem?_nil, List.set_cons_zero, List.set_cons_succ, List.map_cons, List.map_nil, List.length_cons, List.length_nil, List.cons_append, List.nil_append, Option.some.injEq, Mw.Slot.val.injEq, Mw.Slot.own.injEq, Mw.PV.int.injEq, Mw.PV.bl.injEq, Mw.PV.str.injEq, Mw.PV.ref.injEq, Mw.PV.lst.injEq, Mw.PV.tup.injEq, exists_eq_left', exists_eq_left, and_true, true_and, true_or, or_true, and_self, reduceCtorEq, Mw.gAdd, Mw.gSubI, Mw.gMul, Mw.gDiv, Mw.gMod, Mw.gPow, Mw.gLt, Mw.gLe, Mw.gGt, Mw.gGe, Mw.gIx, Mw.gNeg, Mw.eqB_int, Mw.gEq_int, Mw.gNe_int, Mw.gEq_str, Mw.gNe_str, if_true, if_false, Bool.false_eq_true, Nat.reduceAdd, Nat.zero_add, Bool.not_true, Bool.not_false, Mw.atI_c0, Mw.atI_c1, Mw.atI_c2, Mw.mAugSub, Mw.mSortedT, Mw.atI_c3, Mw.atI_c4, Mw.mEnumA])
local macro_rules | `(tactic| simp! only [$xs,*]) => `(tactic| simp only [Mw.mSeq, Mw.mSet, Mw.mSetN, Mw.mSetX, Mw.mExpr, Mw.mExprX, Mw.mRet, Mw.mIf, Mw.mNext, Mw.mFrz, Mw.mAsg, Mw.mPar, Mw.mBin, Mw.mUn, Mw.mArg, Mw.mC, Mw.mVar, Mw.mPeek, Mw.mCall, Mw.mCons, Mw.mNil, Mw.mTup, Mw.mLst, Mw.mBinT, Mw.mAsT, Mw.mNotT, Mw.mAndT, Mw.mOrT, Mw.mAndE, Mw.mIfE, Mw.mSl, Mw.mO0, Mw.mO1, Mw.mIter, Mw.mRng1, Mw.mRng2, Mw.mMut, Mw.mMutR, Mw.mSubSet, Mw.mShare, Mw.mFor, Mw.mLc, Mw.mYes, Mw.slotV, Mw.frzS, Mw.tgN, Mw.tgT, Mw.tgNs, Mw.wipeE, Mw.retK, List.foldl_cons, List.foldl_nil, Mw.deref_int, Mw.deref_str, Mw.deref_bl, Mw.deref_non, Mw.deref_tup, Mw.deref_lst, Mw.deref_scr, Mw.deref_dic, Mw.deref_ty, Mw.isLst, Mw.cellP, List.getElem?_cons_zero, List.getElem?_cons_succ, List.getElem?_nil, List.set_cons_zero, List.set_cons_succ, List.map_cons, List.map_nil, List.length_cons, List.length_nil, List.cons_append, List.nil_append, Option.some.injEq, Mw.Slot.val.injEq, Mw.Slot.own.injEq, Mw.PV.int.injEq, Mw.PV.bl.injEq, Mw.PV.str.injEq, Mw.PV.ref.injEq, Mw.PV.lst.injEq, Mw.PV.tup.injEq, exists_eq_left', exists_eq_left, and_true, true_and, true_or, or_true, and_self, reduceCtorEq, Mw.gAdd, Mw.gSubI, Mw.gMul, Mw.gDiv, Mw.gMod, Mw.gPow, Mw.gLt, Mw.gLe, Mw.gGt, Mw.gGe, Mw.gIx, Mw.gNeg, Mw.eqB_int, Mw.gEq_int, Mw.gNe_int, Mw.gEq_str, Mw.gNe_str, if_true, if_false, Bool.false_eq_true, Nat.reduceAdd, Nat.zero_add, Bool.not_true, Bool.not_false, Mw.atI_c0, Mw.atI_c1, Mw.atI_c2, Mw.mAugSub, Mw.mSortedT, Mw.atI_c3, Mw.atI_c4, Mw.mEnumA, Mw.Cell.ins.injEq, exists_eq_left, exists_eq_left', exists_and_left, exists_eq', and_assoc, List.mem_cons, List.mem_singleton, true_or, or_true, true_and, $xs,*])
local macro_rules | `(tactic| simp! only) => `(tactic| simp only [Mw.mSeq, Mw.mSet, Mw.mSetN, Mw.mSetX, Mw.mExpr, Mw.mExprX, Mw.mRet, Mw.mIf, Mw.mNext, Mw.mFrz, Mw.mAsg, Mw.mPar, Mw.mBin, Mw.mUn, Mw.mArg, Mw.mC, Mw.mVar, Mw.mPeek, Mw.mCall, Mw.mCons, Mw.mNil, Mw.mTup, Mw.mLst, Mw.mBinT, Mw.mAsT, Mw.mNotT, Mw.mAndT, Mw.mOrT, Mw.mAndE, Mw.mIfE, Mw.mSl, Mw.mO0, Mw.mO1, Mw.mIter, Mw.mRng1, Mw.mRng2, Mw.mMut, Mw.mMutR, Mw.mSubSet, Mw.mShare, Mw.mFor, Mw.mLc, Mw.mYes, Mw.slotV, Mw.frzS, Mw.tgN, Mw.tgT, Mw.tgNs, Mw.wipeE, Mw.retK, List.foldl_cons, List.foldl_nil, Mw.deref_int, Mw.deref_str, Mw.deref_bl, Mw.deref_non, Mw.deref_tup, Mw.deref_lst, Mw.deref_scr, Mw.deref_dic, Mw.deref_ty, Mw.isLst, Mw.cellP, List.getElem?_cons_zero, List.getElem?_cons_succ, List.getElem?_nil, List.set_cons_zero, List.set_cons_succ, List.map_cons, List.map_nil, List.length_cons, List.length_nil, List.cons_append, List.nil_append, Option.some.injEq, Mw.Slot.val.injEq, Mw.Slot.own.injEq, Mw.PV.int.injEq, Mw.PV.bl.injEq, Mw.PV.str.injEq, Mw.PV.ref.injEq, Mw.PV.lst.injEq, Mw.PV.tup.injEq, exists_eq_left', exists_eq_left, and_true, true_and, true_or, or_true, and_self, reduceCtorEq, Mw.gAdd, Mw.gSubI, Mw.gMul, Mw.gDiv, Mw.gMod, Mw.gPow, Mw.gLt, Mw.gLe, Mw.gGt, Mw.gGe, Mw.gIx, Mw.gNeg, Mw.eqB_int, Mw.gEq_int, Mw.gNe_int, Mw.gEq_str, Mw.gNe_str, if_true, if_false, Bool.false_eq_true, Nat.reduceAdd, Nat.zero_add, Bool.not_true, Bool.not_false, Mw.atI_c0, Mw.atI_c1, Mw.atI_c2, Mw.mAugSub, Mw.mSortedT, Mw.atI_c3, Mw.atI_c4, Mw.mEnumA, Mw.Cell.ins.injEq, exists_eq_left, exists_eq_left', exists_and_left, exists_eq', and_assoc, List.mem_cons, List.mem_singleton, true_or, or_true, true_and])
namespace Lw
open PySem L2 Mw
def r__law_take_0 : SM := (mExpr (mMutR gmPopAt (mBin gIx (mPeek 0) (mC (.int 0))) (mCons (mC (.int 0)) mNil)))
def r__law_take_4 : SM := (mRet (mVar 2))
def r__law_take_3 : SM := (mSeq (mSubSet (mBin gDiv (mBin gIx (mBin gIx (mPeek 0) (mC (.int 0))) (mC (.int 0))) (mPeek 1)) (mBin gIx (mPeek 0) (mC (.int 0))) (mC (.int 0))) (r__law_take_4))
def r__law_take_2 : SM := (mSeq (mSet 2 (mBin gMod (mBin gIx (mBin gIx (mPeek 0) (mC (.int 0))) (mC (.int 0))) (mPeek 1))) (r__law_take_3))
def r__law_take_8 : SM := (mRet (mBin gMod (mBin gAdd (mBin gDiv (mPeek 3) (mC (.int 97))) (mBin gDiv (mPeek 3) (mC (.int 1000033)))) (mPeek 1)))
def r__law_take_7 : SM := (mSeq (mSet 3 (mBin gMod (mBin gMul (mPeek 3) (mBin gAdd (mBin gMod (mPeek 3) (mC (.int 1000003))) (mBin gMul (mC (.int 99991)) (mBin gIx (mPeek 0) (mC (.int 2)))))) (mC (.int 2305843009213693907)))) (r__law_take_8))
def r__law_take_6 : SM := (mSeq (mSet 3 (mBin gMod (mBin gMul (mBin gAdd (mBin gAdd (mBin gIx (mPeek 0) (mC (.int 1))) (mBin gMul (mBin gMul (mC (.int 65537)) (mBin gIx (mPeek 0) (mC (.int 2)))) (mBin gIx (mPeek 0) (mC (.int 2))))) (mC (.int 11))) (mC (.int 48271))) (mC (.int 2305843009213693921)))) (r__law_take_7))
def r__law_take_5 : SM := (mSeq (mSubSet (mBin gAdd (mBin gIx (mPeek 0) (mC (.int 2))) (mC (.int 1))) (mVar 0) (mC (.int 2))) (r__law_take_6))
def r__law_take_1 : SM := (mSeq (mIf (mBinT gNe (mBin gIx (mPeek 0) (mC (.int 0))) (mLst mNil)) (r__law_take_2) mNext) (r__law_take_5))
def r__law_take : SM := (mSeq (mWhile (mAndT (mBinT gNe (mBin gIx (mPeek 0) (mC (.int 0))) (mLst mNil)) (mBinT gEq (mBin gIx (mBin gIx (mPeek 0) (mC (.int 0))) (mC (.int 0))) (mC (.int 0)))) (r__law_take_0)) (r__law_take_1))
abbrev N__law_take : List Str := ["_law_pot_here", "_law_many", "_law_digit", "_law_mixed"]
def r__law_sum_1 (S__law_bare : FSpec) : SM := (mRet (mCall 3 S__law_bare (mCons (mVar 0) (mCons (mVar 1) (mCons (mVar 2) mNil)))))
def r__law_sum_3 (S__law_sum : FSpec) : SM := (mRet (mTup (mCons (mC (.str "not")) (mCons (mCall 4 S__law_sum (mCons (mVar 0) (mCons (mVar 1) (mCons (mVar 2) (mCons (mBin gSubI (mPeek 3) (mC (.int 1))) mNil))))) mNil))))
def r__law_sum_5 (S__law_sum : FSpec) : SM := (mRet (mTup (mCons (mVar 5) (mCons (mCall 4 S__law_sum (mCons (mVar 0) (mCons (mVar 1) (mCons (mVar 2) (mCons (mBin gSubI (mPeek 3) (mC (.int 1))) mNil))))) (mCons (mCall 4 S__law_sum (mCons (mVar 0) (mCons (mVar 1) (mCons (mVar 2) (mCons (mBin gSubI (mPeek 3) (mC (.int 1))) mNil))))) mNil)))))
def r__law_sum_4 (S__law_sum : FSpec) (S__law_of : FSpec) : SM := (mSeq (mSet 5 (mCall 2 S__law_of (mCons (mVar 0) (mCons (mLst (mCons (mC (.str "plus")) (mCons (mC (.str "minus")) (mCons (mC (.str "less")) (mCons (mC (.str "same")) (mCons (mC (.str "both")) mNil)))))) mNil)))) (r__law_sum_5 S__law_sum))
def r__law_sum_2 (S__law_sum : FSpec) (S__law_of : FSpec) : SM := (mSeq (mIf (mBinT gEq (mPeek 4) (mC (.int 2))) (r__law_sum_3 S__law_sum) mNext) (r__law_sum_4 S__law_sum S__law_of))
def r__law_sum_0 (S__law_bare : FSpec) (S__law_sum : FSpec) (S__law_of : FSpec) : SM := (mSeq (mIf (mOrT (mBinT gLt (mPeek 3) (mC (.int 2))) (mBinT gLt (mPeek 4) (mC (.int 2)))) (r__law_sum_1 S__law_bare) mNext) (r__law_sum_2 S__law_sum S__law_of))
def r__law_sum (S__law_take : FSpec) (S__law_bare : FSpec) (S__law_sum : FSpec) (S__law_of : FSpec) : SM := (mSeq (mSet 4 (mCall 2 S__law_take (mCons (mVar 0) (mCons (mC (.int 8)) mNil)))) (r__law_sum_0 S__law_bare S__law_sum S__law_of))
abbrev N__law_sum : List Str := ["_law_pot_here", "_law_words_here", "_law_bells", "_law_deep", "_law_way", "_law_word"]
theorem take_ok (args : List PV) (et : Hi) (R : PV → Hi → Prop) (h : spTakeC args et R) : r__law_take (env0 N__law_take args) et (retK R) := by
  obtain ⟨r, k, m, sd, ct, is, rfl, hrk, hr, hk, hi, s0, s1, c0, c1, m0, m1, hR⟩ := h
  show r__law_take [.val (.ref r), .val (.int m), .no, .no] et (retK R)
  have hkl := (List.getElem?_eq_some_iff.mp hk).1
  unfold r__law_take
  simp only [mSeq, mWhile]
  refine ⟨fun n ep et1 => ep = [.val (.ref r), .val (.int m), .no, .no] ∧ ∃ is1 : List Int, n = is1.length ∧ (∀ i ∈ is1, 0 ≤ i) ∧ et1 = et.set k (.lst (is1.map .int)), ⟨is.length, rfl, is, rfl, hi, ?_⟩, ?_⟩
  · apply List.ext_getElem?
    intro j
    by_cases e : j = k
    · subst e; rw [List.getElem?_set_self hkl, hk]
    · rw [List.getElem?_set_ne (Ne.symm e)]
  rintro n ep et1 ⟨rfl, is1, rfl, hi1, he1⟩
  have hr1 : et1[r]? = some (.lst [.ref k, .int sd, .int ct]) := by rw [he1, List.getElem?_set_ne (Ne.symm hrk)]; exact hr
  have hk1 : et1[k]? = some (.lst (is1.map .int)) := by rw [he1, List.getElem?_set_self hkl]
  have dr := deref_ref hr1
  have dk := deref_ref hk1
  have e1 := gNe_nil (doks_ints is1).1 (by rw [(doks_ints is1).2]; omega)
  -- behind the loop
  have fin : r__law_take_1 [.val (.ref r), .val (.int m), .no, .no] et1 (retK R) := by
    unfold r__law_take_1
    simp! [dr, dk, e1]
    refine ⟨Nat.zero_le _, ?_⟩
    cases is1 with
    | nil =>
      simp only [List.map_nil, List.isEmpty_nil, Bool.not_true, Bool.false_eq_true, if_false]
      unfold r__law_take_5
      simp! [dr, dk, hr1]
      refine ⟨r, [.ref k, .int sd, .int ct], 2, 2, rfl, hr1, rfl, rfl, ?_⟩
      simp only [List.set_cons_succ, List.set_cons_zero]
      have hr2 : (et1.set r (.lst [PV.ref k, .int sd, .int (ct + 1)]))[r]? = some (.lst [.ref k, .int sd, .int (ct + 1)]) := by
        rw [List.getElem?_set_self (List.getElem?_eq_some_iff.mp hr1).1]
      have dr2 := deref_ref hr2
      unfold r__law_take_6
      have m2 : -18446744073709551616 < 65537 * (ct + 1) ∧ 65537 * (ct + 1) < 18446744073709551616 := ⟨by omega, by omega⟩
      simp! [dr2, m2, Int.reduceNeg, Int.reducePow, Int.reduceLT]
      generalize hx : (sd + 65537 * (ct + 1) * (ct + 1) + 11) * 48271 % 2305843009213693921 = x
      have hx0 : 0 ≤ x := by rw [← hx]; exact Int.emod_nonneg _ (by decide)
      have hx1 : x < 2305843009213693921 := by rw [← hx]; exact Int.emod_lt_of_pos _ (by decide)
      have m3 : -18446744073709551616 < x ∧ x < 18446744073709551616 := ⟨by omega, by omega⟩
      unfold r__law_take_7
      simp! [dr2, m3, Int.reduceNeg, Int.reducePow, Int.reduceLT]
      unfold r__law_take_8
      simp! [m0, Int.reduceLT]
      have hz := hR ((x * (x % 1000003 + 99991 * (ct + 1)) % 2305843009213693907 / 97 + x * (x % 1000003 + 99991 * (ct + 1)) % 2305843009213693907 / 1000033) % m) (ct + 1) [] (Int.emod_nonneg _ (by omega)) (Int.emod_lt_of_pos _ m0) (by omega) (Int.le_refl _) (fun j hj => by cases hj)
      have he : et1.set r (.lst [.ref k, .int sd, .int (ct + 1)]) = (et.set k (.lst (([] : List Int).map .int))).set r (.lst [.ref k, .int sd, .int (ct + 1)]) := by rw [he1]
      rw [he]
      exact hz
    | cons i is2 =>
      simp only [List.map_cons, List.isEmpty_cons, Bool.not_false, if_true]
      unfold r__law_take_2
      simp! [dr, dk]
      refine ⟨_, if_pos m0, ?_⟩
      unfold r__law_take_3
      simp! [dr, dk]
      refine ⟨_, if_pos ⟨m0, m1⟩, k, _, _, 0, rfl, hk1, rfl, ixN_0 (by simp), ?_⟩
      unfold r__law_take_4
      simp!
      have hz := hR (i % m) ct (i / m :: is2) (Int.emod_nonneg _ (by omega)) (Int.emod_lt_of_pos _ m0) c0 (by omega) (by
        intro j hj
        rcases List.mem_cons.mp hj with rfl | hj
        · exact Int.ediv_nonneg (hi1 i (by simp)) (by omega)
        · exact hi1 j (by simp [hj]))
      have he : et1.set k (.lst (.int (i / m) :: is2.map .int)) = (et.set k (.lst ((i / m :: is2).map .int))).set r (.lst [.ref k, .int sd, .int ct]) := by
        rw [he1]
        apply List.ext_getElem?
        intro j
        by_cases h1 : j = r
        · subst h1
          rw [List.getElem?_set_ne (Ne.symm hrk), List.getElem?_set_ne (Ne.symm hrk), List.getElem?_set_self (by simpa using (List.getElem?_eq_some_iff.mp hr).1), hr]
        · rw [List.getElem?_set_ne (i := r) (Ne.symm h1)]
          by_cases h2 : j = k
          · subst h2
            rw [List.getElem?_set_self (by simpa using hkl), List.getElem?_set_self hkl]; rfl
          · rw [List.getElem?_set_ne (Ne.symm h2), List.getElem?_set_ne (Ne.symm h2), List.getElem?_set_ne (Ne.symm h2)]
      rw [he]
      exact hz
  simp! [dr, dk, e1]
  refine ⟨Nat.zero_le _, ?_⟩
  cases is1 with
  | nil => exact fin
  | cons i is2 =>
    simp only [List.map_cons, List.isEmpty_cons, Bool.not_false, if_true]
    refine ⟨_, atI_c0 _ _, _, gEq_int i 0, ?_⟩
    by_cases h0 : i = 0
    · rw [if_pos (by simpa using h0)]
      unfold r__law_take_0
      simp! [dr, dk]
      refine ⟨.lst (is2.map .int), .int i, .lst (is2.map .int), ?_, rfl, is2.length, by simp, is2, rfl, fun j hj => hi1 j (by simp [hj]), ?_⟩
      · simp only [gmPopAt, List.map_cons, List.length_cons]
        rw [if_pos (by decide), ixN_0 (by omega)]; rfl
      · rw [he1]
        apply List.ext_getElem?
        intro j
        by_cases h2 : j = k
        · subst h2
          rw [List.getElem?_set_self (by simpa using hkl), List.getElem?_set_self hkl]
        · rw [List.getElem?_set_ne (Ne.symm h2), List.getElem?_set_ne (Ne.symm h2), List.getElem?_set_ne (Ne.symm h2)]
    · rw [if_neg (by simpa using h0)]
      exact fin
abbrev pt (n : Nat) : Hi := [.potI, .potO 0 n]
theorem take_pt {m : Int} {n : Nat} {R : PV → Hi → Prop} (m0 : 0 < m) (m1 : m < 1073741824) (h : ∀ d : Int, 0 ≤ d → d < m → R (.int d) (pt n)) : spTake [.ref 1, .int m] (pt (n + 1)) R :=
  ⟨1, 0, n, m, rfl, by decide, rfl, rfl, m0, m1, h⟩
def spOf : FSpec := fun args et R => ∃ (n : Nat) (xs : List PV), args = [.ref 1, .lst xs] ∧ et = pt (n + 1) ∧ 0 < xs.length ∧ xs.length < 1073741824 ∧ ∀ x ∈ xs, R x (pt n)
def isWord (x : Str) : Bool := decide (1 ≤ x.cps.size) && decide (x.cps.size ≤ 8) && x.cps.toList.all fun c => decide (97 ≤ c) && decide (c ≤ 122)
def letters : Str := "abcdefghijklmnopqrstuvwxyz"
theorem letters_list : letters.cps.toList = (List.range 26).map (· + 97) := by decide +kernel
def endsL : List Str := ["", "zq", "x", "qqzzx", "zqzqzqz"]
theorem endsL_ok : ∀ x ∈ endsL, x.cps.size ≤ 7 ∧ (x.cps.toList.all fun c => decide (97 ≤ c) && decide (c ≤ 122)) = true := by decide +kernel
theorem cps_append (x y : Str) : (x ++ y).cps = x.cps ++ y.cps := rfl
theorem len_cps (x : Str) : x.length = x.cps.size := rfl
def wd (f t k : Nat) : Str := ⟨#[97 + (f + t * k) % 26]⟩ ++ endsL[(f + k * k) % 5]!
theorem ends_get (j : Nat) : endsL[j % 5]! ∈ endsL := by
  have : j % 5 < endsL.length := Nat.mod_lt _ (by decide)
  rw [getElem!_pos endsL (j % 5) this]; exact List.getElem_mem this
theorem wd_ok (f t k : Nat) : isWord (wd f t k) = true := by
  obtain ⟨h1, h2⟩ := endsL_ok _ (ends_get (f + k * k))
  unfold isWord wd
  rw [cps_append]
  have h3 : (f + t * k) % 26 < 26 := Nat.mod_lt _ (by decide)
  simp only [Array.size_append, Array.toList_append, List.all_append, h2]
  simp only [List.all_cons, List.all_nil, Bool.and_true, Bool.and_eq_true, decide_eq_true_eq]
  refine ⟨⟨?_, ?_⟩, ?_, ?_⟩
  · show 1 ≤ 1 + _; omega
  · show 1 + _ ≤ 8; omega
  · omega
  · omega
theorem wd_first (f t k : Nat) : (wd f t k).cps.toList[0]? = some (97 + (f + t * k) % 26) := by
  unfold wd; rw [cps_append, Array.toList_append]; rfl
def turns : List Nat := [1, 3, 5, 7, 9, 11]
theorem turn_inj : ∀ t ∈ turns, ∀ d : Nat, d < 26 → t * d % 26 = 0 → d = 0 := by decide
theorem wd_inj {f t j k : Nat} (ht : t ∈ turns) (hj : j < 26) (hk : k < 26) (h : wd f t j = wd f t k) : j = k := by
  have h1 := wd_first f t j
  rw [h, wd_first] at h1
  have h2 : (f + t * k) % 26 = (f + t * j) % 26 := by
    have := Option.some.inj h1; omega
  rcases Nat.le_total j k with hle | hle
  · obtain ⟨d, rfl⟩ := Nat.exists_eq_add_of_le hle
    have h3 : t * (j + d) = t * j + t * d := Nat.mul_add _ _ _
    have := turn_inj t ht d (by omega) (by omega)
    omega
  · obtain ⟨d, rfl⟩ := Nat.exists_eq_add_of_le hle
    have h3 : t * (k + d) = t * k + t * d := Nat.mul_add _ _ _
    have := turn_inj t ht d (by omega) (by omega)
    omega
def wds (f t n : Nat) : List Str := (List.range n).map (wd f t)
theorem wds_ok (f t n : Nat) : ∀ x ∈ wds f t n, isWord x = true := fun x hx => by
  obtain ⟨k, _, rfl⟩ := List.mem_map.mp hx; exact wd_ok f t k
theorem nodup_map_on {α β : Type} {f : α → β} : ∀ {l : List α}, l.Nodup → (∀ x ∈ l, ∀ y ∈ l, f x = f y → x = y) → (l.map f).Nodup
  | [], _, _ => by simp
  | a :: l, h, hi => by
    rw [List.map_cons, List.nodup_cons]
    rw [List.nodup_cons] at h
    refine ⟨fun hm => ?_, nodup_map_on h.2 fun x hx y hy => hi x (by simp [hx]) y (by simp [hy])⟩
    obtain ⟨b, hb, e⟩ := List.mem_map.mp hm
    exact h.1 (hi b (by simp [hb]) a (by simp) e ▸ hb)
theorem wds_nodup {f t n : Nat} (ht : t ∈ turns) (hn : n ≤ 26) : (wds f t n).Nodup := nodup_map_on List.nodup_range fun x hx y hy h =>
  wd_inj ht (by have := List.mem_range.mp hx; omega) (by have := List.mem_range.mp hy; omega) h
def spWords : FSpec := fun args et R => ∃ (n many : Nat), args = [.ref 1, .int many] ∧ many ≤ 26 ∧ et = pt (n + 2) ∧
  ∀ ws : List Str, ws.length = many → (∀ x ∈ ws, isWord x = true) → ws.Nodup → R (.lst (ws.map .str)) (pt n)
inductive Tw where
  | plus | minus | less | same | both
  deriving DecidableEq
def Tw.str : Tw → Str
  | .plus => "plus" | .minus => "minus" | .less => "less" | .same => "same" | .both => "both"
inductive Sm where
  | val (n : Nat) | wrd (x : Str) | wts (x : Str) | not (a : Sm) | two (w : Tw) (a b : Sm)
def Sm.pv : Sm → PV
  | .val n => .int n
  | .wrd x => .str x
  | .wts x => .tup [.str "waits", .str x]
  | .not a => .tup [.str "not", a.pv]
  | .two w a b => .tup [.str w.str, a.pv, b.pv]
def Sm.dep : Sm → Nat
  | .val _ => 1
  | .wrd _ => 1
  | .wts _ => 1
  | .not a => a.dep + 1
  | .two _ a b => max a.dep b.dep + 1
def Sm.ok (ws bs : List Str) : Sm → Prop
  | .val n => n ≤ 9
  | .wrd x => x ∈ ws
  | .wts x => x ∈ bs
  | .not a => a.ok ws bs
  | .two _ a b => a.ok ws bs ∧ b.ok ws bs
theorem isWord_strOk {x : Str} (h : isWord x = true) : PyData.strOk x = true := by
  unfold isWord at h
  simp only [Bool.and_eq_true, List.all_eq_true, decide_eq_true_eq] at h
  unfold PyData.strOk
  rw [← Array.all_toList, List.all_eq_true]
  intro c hc
  have := h.2 c hc
  simp; omega
theorem doks_words {ws : List Str} (h : ∀ x ∈ ws, isWord x = true) : doks (ws.map .str) = true ∧ dpts (ws.map .str) = 0 := by
  induction ws with
  | nil => simp [doks, dpts]
  | cons x ws ih =>
    have := ih fun y hy => h y (by simp [hy])
    simp [doks, dpts, dok, dpt, isWord_strOk (h x (by simp)), this]
theorem gNe_words {ws : List Str} (h : ∀ x ∈ ws, isWord x = true) : gNe (.lst (ws.map .str)) (.lst []) = some (.bl (!ws.isEmpty)) := by
  rw [gNe_nil (doks_words h).1 (by rw [(doks_words h).2]; omega)]
  cases ws <;> rfl
def spBare : FSpec := fun args et R => ∃ (n : Nat) (ws bs : List Str), args = [.ref 1, .lst (ws.map .str), .lst (bs.map .str)] ∧ (∀ x ∈ ws, isWord x = true) ∧ (∀ x ∈ bs, isWord x = true) ∧ ws.length < 1000 ∧ bs.length < 1000 ∧ et = pt (n + 3) ∧
  ∀ n', n ≤ n' → ∀ s : Sm, s.dep = 1 → s.ok ws bs → R s.pv (pt n')
theorem of_intro {n : Nat} {xs : List PV} {R : PV → Hi → Prop} (h0 : 0 < xs.length) (h1 : xs.length < 1073741824) (h : ∀ x ∈ xs, R x (pt n)) : spOf [.ref 1, .lst xs] (pt (n + 1)) R := ⟨n, xs, rfl, rfl, h0, h1, h⟩
def cs : Nat → Nat
  | 0 => 4
  | k + 1 => 2 * cs k + 2
theorem cs_le (k : Nat) : 4 ≤ cs k := by induction k <;> simp [cs]; omega
def spSum : Nat → FSpec := fun j args et R => ∃ (n deep : Nat) (ws bs : List Str), args = [.ref 1, .lst (ws.map .str), .lst (bs.map .str), .int deep] ∧ deep < j ∧ (∀ x ∈ ws, isWord x = true) ∧ (∀ x ∈ bs, isWord x = true) ∧ ws.length < 1000 ∧ bs.length < 1000 ∧ et = pt (n + cs deep) ∧
  ∀ n', n ≤ n' → ∀ s : Sm, s.dep ≤ max 1 deep → s.ok ws bs → R s.pv (pt n')
theorem sum_ok (j : Nat) (args : List PV) (et : Hi) (R : PV → Hi → Prop) (h : spSum (j + 1) args et R) : r__law_sum spTake spBare (spSum j) spOf (env0 N__law_sum args) et (retK R) := by
  obtain ⟨n, deep, ws, bs, rfl, hj, hw, hb, lw, lb, rfl, hR⟩ := h
  show r__law_sum _ _ _ _ [.val (.ref 1), .val (.lst (ws.map .str)), .val (.lst (bs.map .str)), .val (.int deep), .no, .no] _ (retK R)
  have hc := cs_le deep
  obtain ⟨c, hcc⟩ : ∃ c, cs deep = c + 4 := ⟨cs deep - 4, by omega⟩
  have e0 : n + cs deep = (n + c + 3) + 1 := by omega
  rw [e0]
  unfold r__law_sum
  simp!
  refine take_pt (m := 8) (by decide) (by decide) fun d d0 d1 => ?_
  unfold r__law_sum_0
  simp!
  have bare : r__law_sum_1 spBare [.val (.ref 1), .val (.lst (ws.map .str)), .val (.lst (bs.map .str)), .val (.int deep), .val (.int d), .no] (pt (n + c + 3)) (retK R) := by
    unfold r__law_sum_1
    simp!
    exact ⟨n + c, ws, bs, rfl, hw, hb, lw, lb, rfl, fun n' hn s hs ho => hR n' (by omega) s (by omega) ho⟩
  by_cases h1 : (deep : Int) < 2
  · simp only [h1, decide_true, if_true]
    exact bare
  simp only [h1, decide_false, Bool.false_eq_true, if_false]
  by_cases h2 : d < 2
  · simp only [h2, decide_true, if_true]
    exact bare
  simp only [h2, decide_false, Bool.false_eq_true, if_false]
  obtain ⟨k, rfl⟩ : ∃ k, deep = k + 1 := ⟨deep - 1, by omega⟩
  have ecs : cs (k + 1) = 2 * cs k + 2 := rfl
  have ek : (((k + 1 : Nat) : Int) - 1) = (k : Int) := by omega
  unfold r__law_sum_2
  simp! [ek]
  by_cases h3 : d = 2
  · simp only [h3, decide_true, if_true]
    unfold r__law_sum_3
    simp! [ek]
    refine ⟨n + c + 3 - cs k, k, ws, bs, rfl, by omega, hw, hb, lw, lb, by congr 1; omega, fun n' hn s hs ho => ?_⟩
    refine ⟨by decide, hR n' (by omega) (.not s) ?_ ho⟩
    show s.dep + 1 ≤ _; omega
  simp only [h3, decide_false, Bool.false_eq_true, if_false]
  unfold r__law_sum_4
  simp!
  refine ⟨by decide, ?_⟩
  have e1 : n + c + 3 = (n + c + 2) + 1 := by omega
  rw [e1]
  refine of_intro (by simp) (by simp) fun x hx => ?_
  obtain ⟨t, rfl⟩ : ∃ t : Tw, x = .str t.str := by
    simp only [List.mem_cons, List.not_mem_nil, or_false] at hx
    rcases hx with rfl | rfl | rfl | rfl | rfl
    · exact ⟨.plus, rfl⟩
    · exact ⟨.minus, rfl⟩
    · exact ⟨.less, rfl⟩
    · exact ⟨.same, rfl⟩
    · exact ⟨.both, rfl⟩
  unfold r__law_sum_5
  simp! [ek]
  refine ⟨n + c + 2 - cs k, k, ws, bs, rfl, by omega, hw, hb, lw, lb, by congr 1; omega, fun n1 hn1 s1 hs1 ho1 => ?_⟩
  refine ⟨n1 - cs k, k, ws, bs, rfl, by omega, hw, hb, lw, lb, by congr 1; omega, fun n2 hn2 s2 hs2 ho2 => ?_⟩
  refine ⟨by decide, hR n2 (by omega) (.two t s1 s2) ?_ ⟨ho1, ho2⟩⟩
  show max s1.dep s2.dep + 1 ≤ _; omega
end Lw
namespace Vl
open PySem L2 Mw Lw
def comb : Tw → Int → Int → Int
  | .plus, a, b => if a + b < 9 then a + b else 9
  | .minus, a, b => if a - b > 0 then a - b else 0
  | .less, a, b => if a < b then 1 else 0
  | .same, a, b => if a = b then 1 else 0
  | .both, a, b => if a ≠ 0 ∧ b ≠ 0 then 1 else 0
def ev (th wa : Str → Int) : Sm → Int
  | .val n => n
  | .wrd x => th x
  | .wts x => if wa x > 0 then 1 else 0
  | .not a => if ev th wa a = 0 then 1 else 0
  | .two w a b => comb w (ev th wa a) (ev th wa b)
def inD (ks qs : List (Key × PV)) (th wa : Str → Int) : Sm → Prop
  | .val _ => True
  | .wrd x => valP ks (.inr x) = some (.int (th x))
  | .wts x => valP qs (.inr x) = some (.int (wa x))
  | .not a => inD ks qs th wa a
  | .two _ a b => inD ks qs th wa a ∧ inD ks qs th wa b
end Vl
namespace Wb
open PySem L2 Mw Lw
end Wb
namespace Sx
open PySem L2 Mw Lw Vl Wb
theorem cut_map {α β : Type} (f : α → β) (xs : List α) (lo hi : Option Int) : cutP (xs.map f) lo hi = (cutP xs lo hi).map f := by
  unfold cutP
  rw [List.length_map, List.map_take, List.map_drop]
theorem cut_mem {α : Type} {xs : List α} {lo hi : Option Int} {x : α} (h : x ∈ cutP xs lo hi) : x ∈ xs := by
  unfold cutP at h
  exact List.mem_of_mem_drop (List.mem_of_mem_take h)
theorem cut_len {α : Type} (xs : List α) (lo hi : Option Int) : (cutP xs lo hi).length ≤ xs.length := by
  unfold cutP
  rw [List.length_take, List.length_drop]; omega
end Sx
namespace Cw
open PySem L2 Mw Lw
def r__law_take_2 : SM := (mRet (mVar 2))
def r__law_take_1 : SM := (mSeq (mSubSet (mBin gDiv (mBin gIx (mPeek 0) (mC (.int 0))) (mPeek 1)) (mVar 0) (mC (.int 0))) (r__law_take_2))
def r__law_take_0 : SM := (mSeq (mSet 2 (mBin gMod (mBin gIx (mPeek 0) (mC (.int 0))) (mPeek 1))) (r__law_take_1))
def r__law_take_6 : SM := (mRet (mBin gMod (mBin gDiv (mBin gIx (mPeek 0) (mC (.int 1))) (mC (.int 65537))) (mPeek 1)))
def r__law_take_5 : SM := (mSeq (mSubSet (mBin gMod (mBin gMul (mPeek 3) (mBin gAdd (mBin gAdd (mBin gMod (mPeek 3) (mC (.int 999983))) (mBin gMul (mC (.int 2)) (mBin gIx (mPeek 0) (mC (.int 2))))) (mC (.int 3)))) (mC (.int 2305843009213693907))) (mVar 0) (mC (.int 1))) (r__law_take_6))
def r__law_take_4 : SM := (mSeq (mSet 3 (mBin gMod (mBin gAdd (mBin gAdd (mBin gMul (mBin gIx (mPeek 0) (mC (.int 1))) (mC (.int 69069))) (mBin gMul (mC (.int 9973)) (mBin gIx (mPeek 0) (mC (.int 2))))) (mC (.int 5))) (mC (.int 2305843009213693921)))) (r__law_take_5))
def r__law_take_3 : SM := (mSeq (mAugSub (fun i j => i + j) (mVar 0) (mC (.int 2)) (mC (.int 1))) (r__law_take_4))
def r__law_take : SM := (mSeq (mIf (mBinT gGt (mBin gIx (mPeek 0) (mC (.int 0))) (mC (.int 0))) (r__law_take_0) mNext) (r__law_take_3))
abbrev N__law_take : List Str := ["_law_pot_here", "_law_many", "_law_digit", "_law_mixed"]
def r__law_pick (S__law_take : FSpec) : SM := (mRet (mBin gIx (mPeek 1) (mCall 2 S__law_take (mCons (mVar 0) (mCons (mArg gLen (mCons (mPeek 1) mNil)) mNil)))))
abbrev N__law_pick : List Str := ["_law_pot_here", "_law_some"]
def r__law_sum_2 (S__law_pick : FSpec) : SM := (mRet (mCall 2 S__law_pick (mCons (mVar 0) (mCons (mVar 1) mNil))))
def r__law_sum_3 (S__law_take : FSpec) : SM := (mRet (mCall 2 S__law_take (mCons (mVar 0) (mCons (mBin gIx (mLst (mCons (mC (.int 3)) (mCons (mC (.int 10)) mNil))) (mArg gInt (mCons (mBin gEq (mCall 2 S__law_take (mCons (mVar 0) (mCons (mC (.int 5)) mNil))) (mC (.int 0))) mNil))) mNil))))
def r__law_sum_1 (S__law_take : FSpec) (S__law_pick : FSpec) : SM := (mSeq (mIf (mAndT (mBinT gNe (mPeek 1) (mLst mNil)) (mBinT gGt (mCall 2 S__law_take (mCons (mVar 0) (mCons (mC (.int 3)) mNil))) (mC (.int 0)))) (r__law_sum_2 S__law_pick) mNext) (r__law_sum_3 S__law_take))
def r__law_sum_5 (S__law_pick : FSpec) : SM := (mRet (mTup (mCons (mC (.str "waits")) (mCons (mCall 2 S__law_pick (mCons (mVar 0) (mCons (mVar 2) mNil))) mNil))))
def r__law_sum_7 (S__law_sum : FSpec) : SM := (mRet (mTup (mCons (mC (.str "not")) (mCons (mCall 4 S__law_sum (mCons (mVar 0) (mCons (mVar 1) (mCons (mVar 2) (mCons (mBin gSubI (mPeek 3) (mC (.int 1))) mNil))))) mNil))))
def r__law_sum_9 (S__law_sum : FSpec) : SM := (mRet (mTup (mCons (mVar 5) (mCons (mCall 4 S__law_sum (mCons (mVar 0) (mCons (mVar 1) (mCons (mVar 2) (mCons (mBin gSubI (mPeek 3) (mC (.int 1))) mNil))))) (mCons (mCall 4 S__law_sum (mCons (mVar 0) (mCons (mVar 1) (mCons (mVar 2) (mCons (mBin gSubI (mPeek 3) (mC (.int 1))) mNil))))) mNil)))))
def r__law_sum_8 (S__law_take : FSpec) (S__law_sum : FSpec) : SM := (mSeq (mSet 5 (mBin gIx (mLst (mCons (mC (.str "plus")) (mCons (mC (.str "minus")) (mCons (mC (.str "less")) (mCons (mC (.str "same")) (mCons (mC (.str "both")) mNil)))))) (mCall 2 S__law_take (mCons (mVar 0) (mCons (mC (.int 5)) mNil))))) (r__law_sum_9 S__law_sum))
def r__law_sum_6 (S__law_take : FSpec) (S__law_sum : FSpec) : SM := (mSeq (mIf (mBinT gEq (mPeek 4) (mC (.int 4))) (r__law_sum_7 S__law_sum) mNext) (r__law_sum_8 S__law_take S__law_sum))
def r__law_sum_4 (S__law_take : FSpec) (S__law_pick : FSpec) (S__law_sum : FSpec) : SM := (mSeq (mIf (mAndT (mBinT gEq (mPeek 4) (mC (.int 3))) (mBinT gNe (mPeek 2) (mLst mNil))) (r__law_sum_5 S__law_pick) mNext) (r__law_sum_6 S__law_take S__law_sum))
def r__law_sum_0 (S__law_take : FSpec) (S__law_pick : FSpec) (S__law_sum : FSpec) : SM := (mSeq (mIf (mOrT (mBinT gLt (mPeek 3) (mC (.int 1))) (mBinT gLt (mPeek 4) (mC (.int 3)))) (r__law_sum_1 S__law_take S__law_pick) mNext) (r__law_sum_4 S__law_take S__law_pick S__law_sum))
def r__law_sum (S__law_take : FSpec) (S__law_pick : FSpec) (S__law_sum : FSpec) : SM := (mSeq (mSet 4 (mCall 2 S__law_take (mCons (mVar 0) (mCons (mC (.int 9)) mNil)))) (r__law_sum_0 S__law_take S__law_pick S__law_sum))
abbrev N__law_sum : List Str := ["_law_pot_here", "_law_words_here", "_law_bells", "_law_deep", "_law_way", "_law_word"]
def r__law_deed_5 (S__law_waits : FSpec) : SM := (mExprX (mMut 8 gmExtend (mCons (mCall 4 S__law_waits (mCons (mVar 0) (mCons (mVar 7) (mCons (mVar 6) (mCons (mArg gLen (mCons (mPeek 8) mNil)) mNil))))) mNil)))
def r__law_deed_8 (S__law_pick : FSpec) : SM := (mExprX (mMut 8 gmAppend (mCons (mTup (mCons (mVar 11) (mCons (mCall 2 S__law_pick (mCons (mVar 0) (mCons (mVar 6) mNil))) mNil))) mNil)))
def r__law_deed_7 (S__law_pick : FSpec) : SM := (mSeq (mSet 11 (mBin gIx (mLst (mCons (mC (.str "call")) (mCons (mC (.str "all")) mNil))) (mArg gInt (mCons (mAndE (mBin gEq (mPeek 4) (mC (.str "when free"))) (mBin gEq (mPeek 10) (mC (.int 3)))) mNil)))) (r__law_deed_8 S__law_pick))
def r__law_deed_10 (S__law_do : FSpec) : SM := (mExprX (mMut 8 gmAppend (mCons (mCall 4 S__law_do (mCons (mVar 0) (mCons (mVar 2) (mCons (mVar 5) (mCons (mVar 7) mNil))))) mNil)))
def r__law_deed_13 (S__law_take : FSpec) : SM := (mExprX (mMut 8 gmAppend (mCons (mTup (mCons (mC (.str "tell")) (mCons (mCall 2 S__law_take (mCons (mVar 0) (mCons (mC (.int 10)) mNil))) mNil))) mNil)))
def r__law_deed_12 (S__law_take : FSpec) (S__law_sum : FSpec) : SM := (mSeq (mExprX (mMut 8 gmAppend (mCons (mTup (mCons (mC (.str "unless")) (mCons (mCall 4 S__law_sum (mCons (mVar 0) (mCons (mVar 7) (mCons (mVar 6) (mCons (mC (.int 2)) mNil))))) (mCons (mBin gAdd (mArg gLen (mCons (mPeek 8) mNil)) (mC (.int 2))) mNil)))) mNil))) (r__law_deed_13 S__law_take))
def r__law_deed_15 (S__law_pick : FSpec) (S__law_sum : FSpec) : SM := (mExprX (mMut 8 gmAppend (mCons (mTup (mCons (mC (.str "put")) (mCons (mCall 2 S__law_pick (mCons (mVar 0) (mCons (mVar 5) mNil))) (mCons (mCall 4 S__law_sum (mCons (mVar 0) (mCons (mVar 7) (mCons (mVar 6) (mCons (mC (.int 2)) mNil))))) mNil)))) mNil)))
def r__law_deed_16 (S__law_sum : FSpec) : SM := (mExprX (mMut 8 gmAppend (mCons (mTup (mCons (mC (.str "tell")) (mCons (mCall 4 S__law_sum (mCons (mVar 0) (mCons (mVar 7) (mCons (mVar 6) (mCons (mC (.int 1)) mNil))))) mNil))) mNil)))
def r__law_deed_14 (S__law_pick : FSpec) (S__law_sum : FSpec) : SM := (mIf (mAndT (mBinT gLt (mPeek 10) (mC (.int 8))) (mBinT gNe (mPeek 5) (mLst mNil))) (r__law_deed_15 S__law_pick S__law_sum) (r__law_deed_16 S__law_sum))
def r__law_deed_11 (S__law_take : FSpec) (S__law_pick : FSpec) (S__law_sum : FSpec) : SM := (mIf (mBinT gEq (mPeek 10) (mC (.int 5))) (r__law_deed_12 S__law_take S__law_sum) (r__law_deed_14 S__law_pick S__law_sum))
def r__law_deed_9 (S__law_take : FSpec) (S__law_pick : FSpec) (S__law_do : FSpec) (S__law_sum : FSpec) : SM := (mIf (mAndT (mBinT gEq (mPeek 10) (mC (.int 4))) (mBinT gNe (mPeek 2) (mLst mNil))) (r__law_deed_10 S__law_do) (r__law_deed_11 S__law_take S__law_pick S__law_sum))
def r__law_deed_6 (S__law_take : FSpec) (S__law_pick : FSpec) (S__law_do : FSpec) (S__law_sum : FSpec) : SM := (mIf (mAndT (mBinT gLt (mPeek 10) (mC (.int 4))) (mBinT gNe (mPeek 6) (mLst mNil))) (r__law_deed_7 S__law_pick) (r__law_deed_9 S__law_take S__law_pick S__law_do S__law_sum))
def r__law_deed_4 (S__law_take : FSpec) (S__law_waits : FSpec) (S__law_pick : FSpec) (S__law_do : FSpec) (S__law_sum : FSpec) : SM := (mIf (mAndT (mBinT gLt (mPeek 10) (mC (.int 2))) (mBinT gNe (mPeek 6) (mLst mNil))) (r__law_deed_5 S__law_waits) (r__law_deed_6 S__law_take S__law_pick S__law_do S__law_sum))
def r__law_deed_3 (S__law_take : FSpec) (S__law_waits : FSpec) (S__law_pick : FSpec) (S__law_do : FSpec) (S__law_sum : FSpec) : SM := (mSeq (mSet 10 (mCall 2 S__law_take (mCons (mVar 0) (mCons (mC (.int 9)) mNil)))) (r__law_deed_4 S__law_take S__law_waits S__law_pick S__law_do S__law_sum))
def r__law_deed_17 : SM := (mRet (mArg gTuple (mCons (mPeek 8) mNil)))
def r__law_deed_2 (S__law_take : FSpec) (S__law_waits : FSpec) (S__law_pick : FSpec) (S__law_do : FSpec) (S__law_sum : FSpec) : SM := (mSeq (mFor (mRng1 (mCons (mBin gAdd (mC (.int 1)) (mCall 2 S__law_take (mCons (mVar 0) (mCons (mVar 3) mNil)))) mNil)) (tgN 9) (r__law_deed_3 S__law_take S__law_waits S__law_pick S__law_do S__law_sum)) (r__law_deed_17))
def r__law_deed_1 (S__law_take : FSpec) (S__law_waits : FSpec) (S__law_pick : FSpec) (S__law_do : FSpec) (S__law_sum : FSpec) : SM := (mSeq (mSetN 8 (mLst mNil)) (r__law_deed_2 S__law_take S__law_waits S__law_pick S__law_do S__law_sum))
def r__law_deed_0 (S__law_take : FSpec) (S__law_waits : FSpec) (S__law_pick : FSpec) (S__law_do : FSpec) (S__law_sum : FSpec) : SM := (mSeq (mSet 7 (mBin gCat (mPeek 5) (mLst (mCons (mC (.str "given")) mNil)))) (r__law_deed_1 S__law_take S__law_waits S__law_pick S__law_do S__law_sum))
def r__law_deed (S__law_take : FSpec) (S__law_waits : FSpec) (S__law_pick : FSpec) (S__law_do : FSpec) (S__law_sum : FSpec) : SM := (mSeq (mAsg (tgT [(tgN 4), (tgN 5), (tgN 6)]) (mVar 1)) (r__law_deed_0 S__law_take S__law_waits S__law_pick S__law_do S__law_sum))
abbrev N__law_deed : List Str := ["_law_pot_here", "_law_room_here", "_law_goals", "_law_most", "_law_manner", "_law_things", "_law_bells", "_law_words_here", "_law_rows", "_law_k", "_law_way", "_law_word"]
def r__law_room_6 (S__law_deed : FSpec) : SM := (mExprX (mMut 8 gmAppend (mCons (mTup (mCons (mVar 9) (mCons (mCall 4 S__law_deed (mCons (mVar 0) (mCons (mTup (mCons (mVar 5) (mCons (mVar 6) (mCons (mVar 7) mNil)))) (mCons (mVar 12) (mCons (mC (.int 4)) mNil))))) mNil))) mNil)))
def r__law_room_5 (S__law_take : FSpec) (S__law_deed : FSpec) : SM := (mSeq (mSet 12 (mBin gCat (mPeek 2) (mBin gRep (mPeek 11) (mArg gInt (mCons (mBin gEq (mCall 2 S__law_take (mCons (mVar 0) (mCons (mC (.int 5)) mNil))) (mC (.int 0))) mNil))))) (r__law_room_6 S__law_deed))
def r__law_room_4 (S__law_take : FSpec) (S__law_deed : FSpec) : SM := (mSeq (mSet 11 (mLc (mIter (mVar 8)) [10] (tgN 10) mYes (mTup (mCons (mVar 1) (mCons (mBin gIx (mPeek 10) (mC (.int 0))) mNil))))) (r__law_room_5 S__law_take S__law_deed))
def r__law_room_8 (S__law_take : FSpec) : SM := (mRet (mTup (mCons (mVar 1) (mCons (mVar 5) (mCons (mArg gTuple (mCons (mLc (mIter (mVar 6)) [15] (tgN 15) mYes (mTup (mCons (mVar 15) (mCons (mCall 2 S__law_take (mCons (mVar 0) (mCons (mC (.int 3)) mNil))) mNil)))) mNil)) (mCons (mVar 14) (mCons (mArg gTuple (mCons (mPeek 8) mNil)) mNil)))))))
def r__law_room_7 (S__law_take : FSpec) : SM := (mSeq (mSet 14 (mArg gTuple (mCons (mLc (mIter (mVar 7)) [13] (tgN 13) mYes (mTup (mCons (mVar 13) (mCons (mBin gIx (mLst (mCons (mC (.str "row")) (mCons (mC (.str "turns")) mNil))) (mCall 2 S__law_take (mCons (mVar 0) (mCons (mC (.int 2)) mNil)))) mNil)))) mNil))) (r__law_room_8 S__law_take))
def r__law_room_3 (S__law_words : FSpec) (S__law_take : FSpec) (S__law_deed : FSpec) : SM := (mSeq (mFor (mIter (mCall 3 S__law_words (mCons (mVar 0) (mCons (mC (.str "")) (mCons (mBin gAdd (mC (.int 1)) (mCall 2 S__law_take (mCons (mVar 0) (mCons (mC (.int 3)) mNil)))) mNil))))) (tgN 9) (r__law_room_4 S__law_take S__law_deed)) (r__law_room_7 S__law_take))
def r__law_room_2 (S__law_words : FSpec) (S__law_take : FSpec) (S__law_deed : FSpec) : SM := (mSeq (mSet 8 (mShare (mLst mNil))) (r__law_room_3 S__law_words S__law_take S__law_deed))
def r__law_room_1 (S__law_words : FSpec) (S__law_take : FSpec) (S__law_deed : FSpec) : SM := (mSeq (mSet 7 (mCall 3 S__law_words (mCons (mVar 0) (mCons (mC (.str "")) (mCons (mCall 2 S__law_take (mCons (mVar 0) (mCons (mBin gAdd (mPeek 4) (mC (.int 1))) mNil))) mNil))))) (r__law_room_2 S__law_words S__law_take S__law_deed))
def r__law_room_0 (S__law_words : FSpec) (S__law_take : FSpec) (S__law_deed : FSpec) : SM := (mSeq (mSet 6 (mCall 3 S__law_words (mCons (mVar 0) (mCons (mC (.str "")) (mCons (mBin gIx (mLst (mCons (mC (.int 1)) (mCons (mC (.int 1)) (mCons (mC (.int 2)) (mCons (mC (.int 0)) mNil))))) (mCall 2 S__law_take (mCons (mVar 0) (mCons (mC (.int 4)) mNil)))) mNil))))) (r__law_room_1 S__law_words S__law_take S__law_deed))
def r__law_room (S__law_pick : FSpec) (S__law_words : FSpec) (S__law_take : FSpec) (S__law_deed : FSpec) : SM := (mSeq (mSet 5 (mCall 2 S__law_pick (mCons (mVar 0) (mCons (mVar 3) mNil)))) (r__law_room_0 S__law_words S__law_take S__law_deed))
abbrev N__law_room : List Str := ["_law_pot_here", "_law_name", "_law_goals", "_law_manners", "_law_bells_most", "_law_manner", "_law_things", "_law_bells", "_law_deeds", "_law_word", "_law_deed_here", "_law_here", "_law_some", "_law_bell", "_law_sorts", "_law_thing"]
def r__law_rooms_4 : SM := (mExprX (mMut 6 gmExtend (mCons (mLc (mIter (mBin gIx (mPeek 7) (mC (.int 4)))) [8] (tgN 8) mYes (mTup (mCons (mBin gIx (mPeek 7) (mC (.int 0))) (mCons (mBin gIx (mPeek 8) (mC (.int 0))) mNil)))) mNil)))
def r__law_rooms_6 (S__law_room : FSpec) : SM := (mFrz [6] (mExprX (mMut 5 gmAppend (mCons (mCall 5 S__law_room (mCons (mVar 0) (mCons (mVar 9) (mCons (mVar 6) (mCons (mVar 2) (mCons (mVar 3) mNil)))))) mNil))))
def r__law_rooms_5 (S__law_take : FSpec) (S__law_room : FSpec) : SM := (mSeq (mSetX 9 (mMut 4 gmPopAt (mCons (mCall 2 S__law_take (mCons (mVar 0) (mCons (mArg gLen (mCons (mPeek 4) mNil)) mNil))) mNil))) (r__law_rooms_6 S__law_room))
def r__law_rooms_3 (S__law_take : FSpec) (S__law_room : FSpec) : SM := (mSeq (mFor (mIter (mVar 5)) (tgN 7) (r__law_rooms_4)) (r__law_rooms_5 S__law_take S__law_room))
def r__law_rooms_2 (S__law_take : FSpec) (S__law_room : FSpec) : SM := (mSeq (mSetN 6 (mLst mNil)) (r__law_rooms_3 S__law_take S__law_room))
def r__law_rooms_7 : SM := (mRet (mArg gTuple (mCons (mSortedT (mPeek 5)) mNil)))
def r__law_rooms_1 (S__law_take : FSpec) (S__law_room : FSpec) : SM := (mSeq (mWhile (mBinT gNe (mPeek 4) (mLst mNil)) (r__law_rooms_2 S__law_take S__law_room)) (r__law_rooms_7))
def r__law_rooms_0 (S__law_take : FSpec) (S__law_room : FSpec) : SM := (mSeq (mSet 5 (mShare (mLst mNil))) (r__law_rooms_1 S__law_take S__law_room))
def r__law_rooms (S__law_words_S : FSpec) (S__law_take : FSpec) (S__law_room : FSpec) : SM := (mSeq (mSet 4 (mCall 3 S__law_words_S (mCons (mVar 0) (mCons (mC (.str "")) (mCons (mVar 1) mNil))))) (r__law_rooms_0 S__law_take S__law_room))
abbrev N__law_rooms : List Str := ["_law_pot_here", "_law_many", "_law_manners", "_law_bells_most", "_law_names", "_law_rooms_here", "_law_goals", "_law_room_here", "_law_deed_here", "_law_name"]
def r__law_world_1 : SM := (mExprX (mMut 4 gmExtend (mCons (mLc (mIter (mBin gIx (mPeek 5) (mC (.int 4)))) [6] (tgN 6) mYes (mTup (mCons (mBin gIx (mPeek 5) (mC (.int 0))) (mCons (mBin gIx (mPeek 6) (mC (.int 0))) mNil)))) mNil)))
def r__law_world_8 (S__law_take : FSpec) : SM := (mExprX (mMut 9 gmAppend (mCons (mTup (mCons (mArg gTuple (mCons (mLc (mIter (mVar 11)) [13] (tgN 13) mYes (mTup (mCons (mVar 13) (mCons (mCall 2 S__law_take (mCons (mVar 0) (mCons (mC (.int 3)) mNil))) mNil)))) mNil)) (mCons (mVar 12) mNil))) mNil)))
def r__law_world_7 (S__law_take : FSpec) (S__law_own : FSpec) : SM := (mSeq (mFrz [4] (mSet 12 (mCall 5 S__law_own (mCons (mVar 0) (mCons (mVar 4) (mCons (mBin gAdd (mPeek 11) (mPeek 8)) (mCons (mVar 7) (mCons (mC (.int 4)) mNil)))))))) (r__law_world_8 S__law_take))
def r__law_world_6 (S__law_words : FSpec) (S__law_take : FSpec) (S__law_own : FSpec) : SM := (mSeq (mSet 11 (mCall 3 S__law_words (mCons (mVar 0) (mCons (mC (.str "")) (mCons (mBin gIx (mLst (mCons (mC (.int 0)) (mCons (mC (.int 1)) (mCons (mC (.int 1)) (mCons (mC (.int 2)) mNil))))) (mCall 2 S__law_take (mCons (mVar 0) (mCons (mC (.int 4)) mNil)))) mNil))))) (r__law_world_7 S__law_take S__law_own))
def r__law_world_10 (S__law_take : FSpec) : SM := (mRet (mTup (mCons (mVar 1) (mCons (mVar 14) (mCons (mArg gTuple (mCons (mLc (mIter (mVar 8)) [13] (tgN 13) mYes (mTup (mCons (mVar 13) (mCons (mCall 2 S__law_take (mCons (mVar 0) (mCons (mC (.int 3)) mNil))) mNil)))) mNil)) (mCons (mArg gTuple (mCons (mPeek 9) mNil)) mNil))))))
def r__law_world_9 (S__law_take : FSpec) : SM := (mSeq (mSet 14 (mArg gTuple (mCons (mLc (mIter (mVar 7)) [13] (tgN 13) mYes (mTup (mCons (mVar 13) (mCons (mCall 2 S__law_take (mCons (mVar 0) (mCons (mC (.int 3)) mNil))) mNil)))) mNil))) (r__law_world_10 S__law_take))
def r__law_world_5 (S__law_words : FSpec) (S__law_take : FSpec) (S__law_own : FSpec) : SM := (mSeq (mFor (mRng1 (mCons (mVar 2) mNil)) (tgN 10) (r__law_world_6 S__law_words S__law_take S__law_own)) (r__law_world_9 S__law_take))
def r__law_world_4 (S__law_words : FSpec) (S__law_take : FSpec) (S__law_own : FSpec) : SM := (mSeq (mSetN 9 (mLst mNil)) (r__law_world_5 S__law_words S__law_take S__law_own))
def r__law_world_3 (S__law_words : FSpec) (S__law_take : FSpec) (S__law_own : FSpec) : SM := (mSeq (mSet 8 (mCall 3 S__law_words (mCons (mVar 0) (mCons (mC (.str "o")) (mCons (mBin gIx (mLst (mCons (mC (.int 0)) (mCons (mC (.int 0)) (mCons (mC (.int 1)) (mCons (mC (.int 2)) mNil))))) (mCall 2 S__law_take (mCons (mVar 0) (mCons (mC (.int 4)) mNil)))) mNil))))) (r__law_world_4 S__law_words S__law_take S__law_own))
def r__law_world_2 (S__law_words : FSpec) (S__law_take : FSpec) (S__law_own : FSpec) : SM := (mSeq (mSet 7 (mCall 3 S__law_words (mCons (mVar 0) (mCons (mC (.str "p")) (mCons (mCall 2 S__law_take (mCons (mVar 0) (mCons (mBin gAdd (mPeek 3) (mC (.int 1))) mNil))) mNil))))) (r__law_world_3 S__law_words S__law_take S__law_own))
def r__law_world_0 (S__law_words : FSpec) (S__law_take : FSpec) (S__law_own : FSpec) : SM := (mSeq (mFor (mIter (mVar 1)) (tgN 5) (r__law_world_1)) (r__law_world_2 S__law_words S__law_take S__law_own))
def r__law_world (S__law_words : FSpec) (S__law_take : FSpec) (S__law_own : FSpec) : SM := (mSeq (mSetN 4 (mLst mNil)) (r__law_world_0 S__law_words S__law_take S__law_own))
abbrev N__law_world : List Str := ["_law_pot_here", "_law_rooms_here", "_law_hands", "_law_passes_most", "_law_goals", "_law_room_here", "_law_deed_here", "_law_passes", "_law_shared", "_law_made", "_law_k", "_law_own_here", "_law_program", "_law_word", "_law_counted"]
def PC (is : List Int) : Prop := ∃ a b c : Int, is = [a, b, c] ∧ 0 ≤ a ∧ 0 ≤ b ∧ b < 2305843009213693951 ∧ 0 ≤ c
abbrev potC : Cell := potP PC
abbrev spTk : FSpec := spDraw PC
theorem tk {r : Nat} {m : Int} {et : Hi} {R : PV → Hi → Prop} (hp : et[r]? = some potC) (m0 : 0 < m) (m1 : m < 1073741824) (h : ∀ d : Int, 0 ≤ d → d < m → R (.int d) et) : spTk [.ref r, .int m] et R := ⟨r, m, rfl, hp, m0, m1, h⟩
theorem take_ok (args : List PV) (et : Hi) (R : PV → Hi → Prop) (h : spDrawC PC args et R) : r__law_take (env0 N__law_take args) et (retK R) := by
  obtain ⟨r, m, is, rfl, hr, ⟨a, b, c, rfl, ha, hb, hb2, hc⟩, hm, hm2, hR⟩ := h
  have hr : et[r]? = some (.lst [.int a, .int b, .int c]) := hr
  have hl := (List.getElem?_eq_some_iff.mp hr).1
  show r__law_take [.val (.ref r), .val (.int m), .no, .no] et (retK R)
  have d0 : deref et (.ref r) = .lst [.int a, .int b, .int c] := deref_ref hr
  have e0 : ixN 3 0 = some 0 := rfl
  have e1 : ixN 3 1 = some 1 := rfl
  have e2 : ixN 3 2 = some 2 := rfl
  unfold r__law_take
  simp! [d0]
  by_cases h1 : 0 < a
  · simp only [h1, decide_true, if_true]
    simp! [r__law_take_2, r__law_take_1, r__law_take_0, r__law_take_6, r__law_take_5, r__law_take_4, r__law_take_3, r__law_take, d0]
    refine ⟨_, if_pos hm, ⟨_, if_pos ⟨hm, hm2⟩, r, [.int a, .int b, .int c], 0, 0, rfl, hr, rfl, rfl, ?_⟩⟩
    have q := hR (a % m) [a / m, b, c] (Int.emod_nonneg _ (by omega)) (Int.emod_lt_of_pos _ hm) ⟨_, _, _, rfl, Int.ediv_nonneg ha (by omega), hb, hb2, hc⟩
    exact q
  · have h1' : decide (0 < a) = false := by simpa using h1
    simp only [h1', Bool.false_eq_true, if_false]
    unfold r__law_take_3
    simp!
    refine ⟨r, _, 2, c, rfl, hr, rfl, rfl, 1, _, 2, rfl, hr, rfl, ?_⟩
    have hr2 : (et.set r (.lst [.int a, .int b, .int (c + 1)]))[r]? = some (.lst [.int a, .int b, .int (c + 1)]) := by rw [List.getElem?_set_self hl]
    have d1 : deref (et.set r (.lst [.int a, .int b, .int (c + 1)])) (.ref r) = .lst [.int a, .int b, .int (c + 1)] := deref_ref hr2
    show r__law_take_4 _ (et.set r (.lst [.int a, .int b, .int (c + 1)])) _
    unfold r__law_take_4
    simp! [d1]
    refine ⟨_, if_pos (.inr ⟨by decide, by decide⟩), _, if_pos (.inl ⟨by decide, by decide⟩), ?_⟩
    simp!
    refine ⟨_, if_pos (by decide), ?_⟩
    generalize hM : (b * 69069 + 9973 * (c + 1) + 5) % 2305843009213693921 = M
    have M0 : 0 ≤ M := by rw [← hM]; exact Int.emod_nonneg _ (by decide)
    have M1 : M < 2305843009213693921 := by rw [← hM]; exact Int.emod_lt_of_pos _ (by decide)
    unfold r__law_take_5
    simp! [d1]
    refine ⟨_, if_pos (by decide), _, if_pos (.inl ⟨by decide, by decide⟩), ?_⟩
    simp!
    refine ⟨_, if_pos (.inl ⟨by omega, by omega⟩), ?_⟩
    simp!
    refine ⟨_, if_pos (by decide), r, _, 1, 1, rfl, hr2, rfl, rfl, ?_⟩
    generalize hN : M * (M % 999983 + 2 * (c + 1) + 3) % 2305843009213693907 = N
    have N0 : 0 ≤ N := by rw [← hN]; exact Int.emod_nonneg _ (by decide)
    have N1 : N < 2305843009213693907 := by rw [← hN]; exact Int.emod_lt_of_pos _ (by decide)
    rw [List.set_set]
    have hr3 : (et.set r (.lst [.int a, .int N, .int (c + 1)]))[r]? = some (.lst [.int a, .int N, .int (c + 1)]) := by rw [List.getElem?_set_self hl]
    have d2 : deref (et.set r (.lst [.int a, .int N, .int (c + 1)])) (.ref r) = .lst [.int a, .int N, .int (c + 1)] := deref_ref hr3
    show r__law_take_6 _ (et.set r (.lst [.int a, .int N, .int (c + 1)])) _
    unfold r__law_take_6
    simp! [d2]
    refine ⟨_, if_pos ⟨by decide, by decide⟩, ?_⟩
    simp!
    refine ⟨_, if_pos hm, ?_⟩
    exact hR _ [a, N, c + 1] (Int.emod_nonneg _ (by omega)) (Int.emod_lt_of_pos _ hm) ⟨_, _, _, rfl, ha, N0, by omega, by omega⟩
theorem atI_some {xs : List PV} {d : Int} (d0 : 0 ≤ d) (d1 : d < xs.length) : ∃ x ∈ xs, atI xs d = some x := by
  obtain ⟨j, rfl⟩ : ∃ j : Nat, d = (j : Int) := ⟨d.toNat, by omega⟩
  have hj : j < xs.length := by omega
  exact ⟨xs[j], List.getElem_mem hj, atI_nat (List.getElem?_eq_getElem hj)⟩
def spPick : FSpec := fun args et R => ∃ (r : Nat) (xs : List PV), args = [.ref r, .lst xs] ∧ et[r]? = some potC ∧ 0 < xs.length ∧ xs.length < 1073741824 ∧ ∀ x ∈ xs, R x et
theorem pick_ok (args : List PV) (et : Hi) (R : PV → Hi → Prop) (h : spPick args et R) : r__law_pick spTk (env0 N__law_pick args) et (retK R) := by
  obtain ⟨r, xs, rfl, hr, h0, h1, hR⟩ := h
  show r__law_pick _ [.val (.ref r), .val (.lst xs)] et (retK R)
  have hlen : gLen [.lst xs] = some (.int xs.length) := rfl
  simp! [r__law_pick, hlen]
  refine tk hr (by omega) (by omega) fun d d0 d1 => ?_
  obtain ⟨x, hx, e⟩ := atI_some d0 d1
  simp! [e]
  exact hR x hx
theorem pick {r : Nat} {xs : List PV} {et : Hi} {R : PV → Hi → Prop} (hp : et[r]? = some potC) (h0 : 0 < xs.length) (h1 : xs.length < 1073741824) (h : ∀ x ∈ xs, R x et) : spPick [.ref r, .lst xs] et R := ⟨r, xs, rfl, hp, h0, h1, h⟩
def baseC : List Str := ["a", "b", "c", "d", "e", "zz"]
structure WordsOf (stem : Str) (many : Nat) (ws : List Str) : Prop where
  len : ws.length = many
  srt : ws.Pairwise leS
  nd : ws.Nodup
  from_ : ∀ x ∈ ws, ∃ e ∈ baseC, x = stem ++ e
theorem gSorted_strs {l : List Str} (h : l.length < 64) : gSorted [.lst (l.map .str)] = some (.lst ((srtS l).map .str)) := by
  unfold gSorted
  have : strsP (l.map .str) = some l := by
    clear h
    induction l with
    | nil => rfl
    | cons x xs ih => simp [strsP, ih]
  simp only [this, Option.bind_some, if_pos h]
theorem app_inj {s x y : Str} (h : s ++ x = s ++ y) : x = y := by
  have h1 : (s ++ x).cps = (s ++ y).cps := by rw [h]
  rw [cps_append, cps_append] at h1
  cases x; cases y
  congr 1
  exact Array.append_right_inj s.cps |>.mp h1
theorem er_map {α β : Type} (f : α → β) : ∀ (l : List α) (j : Nat), (l.map f).eraseIdx j = (l.eraseIdx j).map f
  | [], _ => by simp
  | x :: l, 0 => by simp
  | x :: l, j + 1 => by simp [er_map f l j]
theorem er_perm {α : Type} {l : List α} {j : Nat} (h : j < l.length) : l.Perm (l[j] :: l.eraseIdx j) := by
  rw [List.eraseIdx_eq_take_drop_succ]
  have e : l = l.take j ++ l[j] :: l.drop (j + 1) := by
    rw [← List.drop_eq_getElem_cons h, List.take_append_drop]
  exact (List.Perm.of_eq e).trans List.perm_middle
def spWordsS : FSpec := fun args et R => ∃ (r : Nat) (stem : Str) (many : Nat), args = [.ref r, .str stem, .int many] ∧ et[r]? = some potC ∧ many ≤ 6 ∧ stem.length ≤ 100 ∧ ∀ ws left : List Str, WordsOf stem many ws → R (.ref (et.length + 1)) (et ++ [.lst (left.map .str), .lst (ws.map .str)])
def Pot (r : Nat) (et : Hi) : Prop := et[r]? = some potC ∧ ∀ d ∈ et, belC et.length d
theorem bels_strs (n : Nat) (ws : List Str) : bels n (ws.map .str) = true := by
  induction ws with
  | nil => rfl
  | cons x ws ih => simp [bels, bel, ih]
def spWords : FSpec := fun args et R => ∃ (r : Nat) (stem : Str) (many : Nat), args = [.ref r, .str stem, .int many] ∧ Pot r et ∧ many ≤ 6 ∧ stem.length ≤ 100 ∧ ∀ ws, WordsOf stem many ws → R (.lst (ws.map .str)) et
theorem stem_word {stem : Str} (hs : stem = "" ∨ stem = "p" ∨ stem = "o") {x : Str} (h : ∃ e ∈ baseC, x = stem ++ e) : isWord x = true := by
  obtain ⟨e, he, rfl⟩ := h
  have k : ∀ t ∈ (["", "p", "o"] : List Str), ∀ e ∈ baseC, isWord (t ++ e) = true := by decide +kernel
  exact k stem (by rcases hs with rfl | rfl | rfl <;> simp) e he
theorem WordsOf.words {stem : Str} {n : Nat} {ws : List Str} (h : WordsOf stem n ws) (hs : stem = "" ∨ stem = "p" ∨ stem = "o") : ∀ x ∈ ws, isWord x = true := fun x hx => stem_word hs (h.from_ x hx)
def spSum : Nat → FSpec := fun j args et R => ∃ (r deep : Nat) (ws bs : List Str), args = [.ref r, .lst (ws.map .str), .lst (bs.map .str), .int deep] ∧ Pot r et ∧ deep < j ∧ (∀ x ∈ ws, isWord x = true) ∧ (∀ x ∈ bs, isWord x = true) ∧ ws.length < 1000 ∧ bs.length < 1000 ∧
  ∀ s : Sm, s.dep ≤ deep + 1 → s.ok ws bs → R s.pv et
theorem two_of {x : PV} (h : x ∈ ([.str "plus", .str "minus", .str "less", .str "same", .str "both"] : List PV)) : ∃ t : Tw, x = .str t.str := by
  simp only [List.mem_cons, List.not_mem_nil, or_false] at h
  rcases h with rfl | rfl | rfl | rfl | rfl
  · exact ⟨.plus, rfl⟩
  · exact ⟨.minus, rfl⟩
  · exact ⟨.less, rfl⟩
  · exact ⟨.same, rfl⟩
  · exact ⟨.both, rfl⟩
theorem bl_int (b : Bool) : gInt [.bl b] = some (.int (if b then 1 else 0)) := rfl
theorem sum_ok (j : Nat) (args : List PV) (et : Hi) (R : PV → Hi → Prop) (h : spSum (j + 1) args et R) : r__law_sum spTk spPick (spSum j) (env0 N__law_sum args) et (retK R) := by
  obtain ⟨r, deep, ws, bs, rfl, hp, hj, hw, hb, lw, lb, hR⟩ := h
  show r__law_sum _ _ _ [.val (.ref r), .val (.lst (ws.map .str)), .val (.lst (bs.map .str)), .val (.int deep), .no, .no] et (retK R)
  unfold r__law_sum
  simp!
  refine tk hp.1 (by decide) (by decide) fun d d0 d1 => ?_
  unfold r__law_sum_0
  simp!
  have leaf : r__law_sum_1 spTk spPick [.val (.ref r), .val (.lst (ws.map .str)), .val (.lst (bs.map .str)), .val (.int deep), .val (.int d), .no] et (retK R) := by
    have val : r__law_sum_3 spTk [.val (.ref r), .val (.lst (ws.map .str)), .val (.lst (bs.map .str)), .val (.int deep), .val (.int d), .no] et (retK R) := by
      unfold r__law_sum_3
      simp!
      refine ⟨by decide, ?_⟩
      refine tk hp.1 (by decide) (by decide) fun d2 e0 e1 => ?_
      simp! [bl_int]
      have go : ∀ m : Int, 0 < m → m ≤ 10 → spTk [.ref r, .int m] et (fun p et => R p et) := fun m m0 m1 => tk hp.1 m0 (by omega) fun d3 f0 f1 => by
        have := hR (.val d3.toNat) (by simp [Sm.dep]) (show d3.toNat ≤ 9 by omega)
        have e : ((d3.toNat : Nat) : Int) = d3 := by omega
        simp only [Sm.pv, e] at this
        exact this
      by_cases h5 : d2 = 0
      · simp only [h5, decide_true, if_true]
        exact ⟨_, atI_c1 _ _ _, go 10 (by decide) (by decide)⟩
      · simp only [h5, decide_false, Bool.false_eq_true, if_false]
        exact ⟨_, atI_c0 _ _, go 3 (by decide) (by decide)⟩
    unfold r__law_sum_1
    simp! [gNe_words hw]
    refine ⟨by decide, ?_⟩
    cases ws with
    | nil => simpa using val
    | cons x xs =>
      simp only [List.isEmpty_cons, Bool.not_false, if_true]
      refine tk hp.1 (by decide) (by decide) fun d2 e0 e1 => ?_
      simp!
      by_cases h3 : 0 < d2
      · simp only [h3, decide_true, if_true]
        unfold r__law_sum_2
        simp!
        refine pick hp.1 (by simp) (by simp at lw ⊢; omega) fun y hy => ?_
        obtain ⟨z, hz, rfl⟩ : ∃ z ∈ x :: xs, y = .str z := by
          obtain ⟨z, hz, e⟩ := List.mem_map.mp (show y ∈ (x :: xs).map PV.str from hy)
          exact ⟨z, hz, e.symm⟩
        exact hR (.wrd z) (by simp [Sm.dep]) hz
      · have h3' : decide (0 < d2) = false := by simpa using h3
        simp only [h3', Bool.false_eq_true, if_false]
        exact val
  by_cases h1 : (deep : Int) < 1
  · simp only [h1, decide_true, if_true]
    exact leaf
  have h1' : decide ((deep : Int) < 1) = false := by simpa using h1
  simp only [h1', Bool.false_eq_true, if_false]
  by_cases h2 : d < 3
  · simp only [h2, decide_true, if_true]
    exact leaf
  have h2' : decide (d < 3) = false := by simpa using h2
  simp only [h2', Bool.false_eq_true, if_false]
  obtain ⟨k, rfl⟩ : ∃ k, deep = k + 1 := ⟨deep - 1, by omega⟩
  have ek : (((k + 1 : Nat) : Int) - 1) = (k : Int) := by omega
  have rest : r__law_sum_6 spTk (spSum j) [.val (.ref r), .val (.lst (ws.map .str)), .val (.lst (bs.map .str)), .val (.int ((k + 1 : Nat) : Int)), .val (.int d), .no] et (retK R) := by
    unfold r__law_sum_6
    simp!
    by_cases h4 : d = 4
    · simp only [h4, decide_true, if_true]
      unfold r__law_sum_7
      simp! [ek]
      refine ⟨r, k, ws, bs, rfl, hp, by omega, hw, hb, lw, lb, fun s hs ho => ?_⟩
      exact ⟨by decide, hR (.not s) (by show s.dep + 1 ≤ _; omega) ho⟩
    · simp only [h4, decide_false, Bool.false_eq_true, if_false]
      unfold r__law_sum_8
      simp!
      refine ⟨by decide, ?_⟩
      refine tk hp.1 (by decide) (by decide) fun d2 e0 e1 => ?_
      obtain ⟨y, hy, e⟩ := atI_some (xs := [.str "plus", .str "minus", .str "less", .str "same", .str "both"]) e0 (by simpa using e1)
      obtain ⟨t, rfl⟩ := two_of hy
      simp! [e]
      unfold r__law_sum_9
      simp! [ek]
      refine ⟨r, k, ws, bs, rfl, hp, by omega, hw, hb, lw, lb, fun s1 hs1 ho1 => ?_⟩
      refine ⟨r, k, ws, bs, rfl, hp, by omega, hw, hb, lw, lb, fun s2 hs2 ho2 => ?_⟩
      exact ⟨by decide, hR (.two t s1 s2) (by show max s1.dep s2.dep + 1 ≤ _; omega) ⟨ho1, ho2⟩⟩
  unfold r__law_sum_4
  simp! [gNe_words hb]
  by_cases h3 : d = 3
  · simp only [h3, decide_true, if_true]
    refine ⟨by decide, ?_⟩
    cases bs with
    | nil => subst h3; simpa using rest
    | cons x xs =>
      simp only [List.isEmpty_cons, Bool.not_false, if_true]
      unfold r__law_sum_5
      simp!
      refine pick hp.1 (by simp) (by simp at lb ⊢; omega) fun y hy => ?_
      obtain ⟨z, hz, rfl⟩ : ∃ z ∈ x :: xs, y = .str z := by
        obtain ⟨z, hz, e⟩ := List.mem_map.mp (show y ∈ (x :: xs).map PV.str from hy)
        exact ⟨z, hz, e.symm⟩
      exact ⟨by decide, hR (.wts z) (by simp [Sm.dep]) hz⟩
  · simp only [h3, decide_false, Bool.false_eq_true, if_false]
    exact rest
inductive Row where
  | put (x : Str) (s : Sm) | unl (s : Sm) (k : Nat) | go (k : Nat) | doo (g : Option Str) (rm dd : Str) (s : Sm) | wait (b : Str) (s : Sm)
  | call (b : Str) | all (b : Str) | tell (s : Sm) | take (p : Str) | give (p : Str) | pass (p q : Str) | say (s : Sm)
def optPV : Option Str → PV
  | none => .non
  | some x => .str x
def Row.pv : Row → PV
  | .put x s => .tup [.str "put", .str x, s.pv]
  | .unl s k => .tup [.str "unless", s.pv, .int k]
  | .go k => .tup [.str "go", .int k]
  | .doo g rm dd s => .tup [.str "do", optPV g, .str rm, .str dd, s.pv]
  | .wait b s => .tup [.str "wait", .str b, s.pv]
  | .call b => .tup [.str "call", .str b]
  | .all b => .tup [.str "all", .str b]
  | .tell s => .tup [.str "tell", s.pv]
  | .take p => .tup [.str "take", .str p]
  | .give p => .tup [.str "give", .str p]
  | .pass p q => .tup [.str "pass", .str p, .str q]
  | .say s => .tup [.str "say", s.pv]
def okS (ws bs : List Str) (s : Sm) : Prop := s.ok ws bs ∧ s.dep ≤ 5
def Row.okD (ws ts bs : List Str) (gs : List (Str × Str)) (n : Nat) : Row → Prop
  | .put x s => x ∈ ts ∧ okS ws bs s
  | .unl s k => okS ws bs s ∧ k ≤ n
  | .go k => k ≤ n
  | .doo g rm dd s => (∀ x, g = some x → x ∈ ts) ∧ (rm, dd) ∈ gs ∧ okS ws bs s
  | .wait b s => b ∈ bs ∧ okS ws bs s
  | .call b => b ∈ bs
  | .all b => b ∈ bs
  | .tell s => okS ws bs s
  | _ => False
def Row.okH (ws ps : List Str) (gs : List (Str × Str)) (n : Nat) : Row → Prop
  | .put x s => x ∈ ws ∧ okS ws [] s
  | .unl s k => okS ws [] s ∧ k ≤ n
  | .go k => k ≤ n
  | .doo g rm dd s => (∀ x, g = some x → x ∈ ws) ∧ (rm, dd) ∈ gs ∧ okS ws [] s
  | .take p => p ∈ ps
  | .give p => p ∈ ps
  | .pass p q => p ∈ ps ∧ q ∈ ps
  | .say s => okS ws [] s
  | _ => False
theorem Row.okD_mono {ws ts bs : List Str} {gs : List (Str × Str)} {n m : Nat} (h : n ≤ m) : ∀ r : Row, r.okD ws ts bs gs n → r.okD ws ts bs gs m
  | .put _ _, h' => h'
  | .unl _ _, h' => ⟨h'.1, Nat.le_trans h'.2 h⟩
  | .go _, h' => Nat.le_trans h' h
  | .doo _ _ _ _, h' => h'
  | .wait _ _, h' => h'
  | .call _, h' => h'
  | .all _, h' => h'
  | .tell _, h' => h'
theorem Row.okH_mono {ws ps : List Str} {gs : List (Str × Str)} {n m : Nat} (h : n ≤ m) : ∀ r : Row, r.okH ws ps gs n → r.okH ws ps gs m
  | .put _ _, h' => h'
  | .unl _ _, h' => ⟨h'.1, Nat.le_trans h'.2 h⟩
  | .go _, h' => Nat.le_trans h' h
  | .doo _ _ _ _, h' => h'
  | .take _, h' => h'
  | .give _, h' => h'
  | .pass _ _, h' => h'
  | .say _, h' => h'
theorem ok_nobell {ws bs : List Str} : ∀ s : Sm, s.ok ws [] → s.ok ws bs
  | .val _, h => h
  | .wrd _, h => h
  | .wts _, h => by cases h
  | .not a, h => ok_nobell a h
  | .two _ a b, h => ⟨ok_nobell a h.1, ok_nobell b h.2⟩
theorem sumi {j r deep : Nat} {ws bs : List Str} {et : Hi} {R : PV → Hi → Prop} (hp : Pot r et) (hd : deep < j) (hw : ∀ x ∈ ws, isWord x = true) (hb : ∀ x ∈ bs, isWord x = true) (lw : ws.length < 1000) (lb : bs.length < 1000) (h : ∀ s : Sm, s.dep ≤ deep + 1 → s.ok ws bs → R s.pv et) :
    spSum j [.ref r, .lst (ws.map .str), .lst (bs.map .str), .int deep] et R := ⟨r, deep, ws, bs, rfl, hp, hd, hw, hb, lw, lb, h⟩
theorem pickS {r : Nat} {xs : List Str} {et : Hi} {R : PV → Hi → Prop} (hp : Pot r et) (h0 : xs ≠ []) (h1 : xs.length < 1000) (h : ∀ x ∈ xs, R (.str x) et) : spPick [.ref r, .lst (xs.map .str)] et R :=
  pick hp.1 (by rw [List.length_map]; exact List.length_pos_iff.mpr h0) (by rw [List.length_map]; omega) fun y hy => by
    obtain ⟨z, hz, rfl⟩ := List.mem_map.mp hy
    exact h z hz
def spWaits : FSpec := fun args et R => ∃ (r n : Nat) (ws bs : List Str), args = [.ref r, .lst (ws.map .str), .lst (bs.map .str), .int n] ∧ Pot r et ∧ (∀ x ∈ ws, isWord x = true) ∧ (∀ x ∈ bs, isWord x = true) ∧ ws.length < 1000 ∧ bs.length < 1000 ∧ bs ≠ [] ∧ ("given" : Str) ∈ ws ∧
  ∀ rows : List Row, rows.length ≤ 3 → 1 ≤ rows.length → (∀ row ∈ rows, ∀ ts gs, row.okD ws ts bs gs (n + rows.length)) → R (.lst (rows.map Row.pv)) et
def goalPV (g : Str × Str) : PV := .tup [.str g.1, .str g.2]
def okG (gs : List (Str × Str)) : Prop := ∀ g ∈ gs, isWord g.1 = true ∧ isWord g.2 = true
theorem doks_goals {gs : List (Str × Str)} (h : okG gs) : doks (gs.map goalPV) = true ∧ dpts (gs.map goalPV) ≤ 1 := by
  induction gs with
  | nil => exact ⟨rfl, Nat.zero_le _⟩
  | cons g gs ih =>
    obtain ⟨h1, h2⟩ := ih fun x hx => h x (by simp [hx])
    obtain ⟨h3, h4⟩ := h g (by simp)
    refine ⟨by simp [doks, dok, goalPV, h1, isWord_strOk h3, isWord_strOk h4], ?_⟩
    simp only [List.map_cons, dpts, goalPV, dpt]; omega
theorem gNe_goals {gs : List (Str × Str)} (h : okG gs) : gNe (.lst (gs.map goalPV)) (.lst []) = some (.bl (!gs.isEmpty)) := by
  obtain ⟨h1, h2⟩ := doks_goals h
  rw [gNe_nil h1 (by omega)]
  cases gs <;> rfl
def spDo : FSpec := fun args et R => ∃ (r : Nat) (gs : List (Str × Str)) (ts ws : List Str), args = [.ref r, .lst (gs.map goalPV), .lst (ts.map .str), .lst (ws.map .str)] ∧ Pot r et ∧ gs ≠ [] ∧ gs.length < 1000 ∧ ts.length < 1000 ∧ ws.length < 1000 ∧ (∀ x ∈ ws, isWord x = true) ∧
  ∀ (g : Option Str) (rm dd : Str) (s : Sm), (∀ x, g = some x → x ∈ ts) → (rm, dd) ∈ gs → s.ok ws [] → s.dep ≤ 5 → R (Row.doo g rm dd s).pv et
def spDeed : FSpec := fun args et R => ∃ (r most : Nat) (mn : Str) (ts bs : List Str) (gs : List (Str × Str)), args = [.ref r, .tup [.str mn, .lst (ts.map .str), .lst (bs.map .str)], .lst (gs.map goalPV), .int most] ∧ Pot r et ∧ 0 < most ∧ most ≤ 10 ∧
  (∀ x ∈ ts, isWord x = true) ∧ (∀ x ∈ bs, isWord x = true) ∧ okG gs ∧ ts.length < 100 ∧ bs.length < 100 ∧ gs.length < 1000 ∧
  ∀ rows : List Row, 1 ≤ rows.length → rows.length ≤ 30 → (∀ row ∈ rows, row.okD (ts ++ [("given" : Str)]) ts bs gs rows.length) → R (.tup (rows.map Row.pv)) et
abbrev epD (r most : Nat) (mn : Str) (ts bs ws : List Str) (gs : List (Str × Str)) (L : List PV) (s9 s10 s11 : Mw.Slot) : En := [.val (.ref r), .val (.tup [.str mn, .lst (ts.map .str), .lst (bs.map .str)]), .val (.lst (gs.map goalPV)), .val (.int most), .val (.str mn), .val (.lst (ts.map .str)), .val (.lst (bs.map .str)), .val (.lst (ws.map .str)), .own (.lst L), s9, s10, s11]
theorem deed_ok (args : List PV) (et : Hi) (R : PV → Hi → Prop) (h : spDeed args et R) : r__law_deed spTk spWaits spPick spDo (spSum 3) (env0 N__law_deed args) et (retK R) := by
  obtain ⟨r, most, mn, ts, bs, gs, rfl, hp, hm0, hm1, ht, hb, hg, htl, hbl, hgl, hR⟩ := h
  show r__law_deed _ _ _ _ _ [.val (.ref r), .val (.tup [.str mn, .lst (ts.map .str), .lst (bs.map .str)]), .val (.lst (gs.map goalPV)), .val (.int most), .no, .no, .no, .no, .no, .no, .no, .no] et (retK R)
  have big : (2000 : Nat) ≤ sizeLine := by decide
  generalize hW : ts ++ [("given" : Str)] = ws at hR
  have hw : ∀ x ∈ ws, isWord x = true := fun x hx => by
    rw [← hW] at hx
    rcases List.mem_append.mp hx with hx | hx
    · exact ht x hx
    · rw [List.mem_singleton.mp hx]; decide +kernel
  have hwl : ws.length < 1000 := by rw [← hW]; simp; omega
  have hgv : ("given" : Str) ∈ ws := by rw [← hW]; simp
  have hsub : ∀ x ∈ ts, x ∈ ws := fun x hx => by rw [← hW]; simp [hx]
  unfold r__law_deed
  simp!
  refine ⟨_, rfl, ?_⟩
  unfold r__law_deed_0
  have ec : gCat (.lst (ts.map .str)) (.lst [.str "given"]) = some (.lst (ws.map .str)) := by
    show (if (ts.map PV.str).length + [PV.str "given"].length ≤ sizeLine then some (PV.lst (ts.map .str ++ [.str "given"])) else none) = _
    rw [if_pos (by rw [List.length_map]; simp; omega), ← hW, List.map_append]; rfl
  simp! [ec]
  refine ⟨by decide, ?_⟩
  unfold r__law_deed_1
  simp!
  refine ⟨by decide, ?_⟩
  unfold r__law_deed_2
  simp!
  refine tk hp.1 (by omega) (by omega) fun dn n0 n1 => ?_
  simp!
  refine ⟨1 + dn, rfl, by omega, by omega, ?_⟩
  obtain ⟨n, hn⟩ : ∃ n : Nat, (1 + dn).toNat = n + 1 := ⟨dn.toNat, by omega⟩
  have hn10 : n + 1 ≤ 10 := by omega
  rw [hn]
  refine ⟨fun i ep et1 => et1 = et ∧ ∃ (rows : List Row) (s9 s10 s11 : Mw.Slot), ep = [.val (.ref r), .val (.tup [.str mn, .lst (ts.map .str), .lst (bs.map .str)]), .val (.lst (gs.map goalPV)), .val (.int most), .val (.str mn), .val (.lst (ts.map .str)), .val (.lst (bs.map .str)), .val (.lst (ws.map .str)), .own (.lst (rows.map Row.pv)), s9, s10, s11] ∧
    i ≤ rows.length ∧ rows.length ≤ 3 * i ∧ ∀ row ∈ rows, row.okD ws ts bs gs rows.length, ⟨rfl, [], _, _, _, rfl, Nat.le_refl _, Nat.le_refl _, by simp⟩, ?_⟩
  rintro i ep et1 ⟨rfl, rows, s9, s10, s11, rfl, hi1, hi2, hrows⟩
  refine ⟨rfl, fun p hpi => ⟨_, rfl, ?_⟩, fun e => ?_⟩
  · have hi : i < n + 1 := by
      have := (List.getElem?_eq_some_iff.mp hpi).1
      simpa [rng] using this
    have fin : ∀ (more : List Row) (t9 t10 t11 : Mw.Slot), 1 ≤ more.length → more.length ≤ 3 → (∀ row ∈ more, row.okD ws ts bs gs (rows.length + more.length)) →
        ∃ (rows' : List Row) (s9 s10 s11 : Mw.Slot), epD r most mn ts bs ws gs (rows.map Row.pv ++ more.map Row.pv) t9 t10 t11 = epD r most mn ts bs ws gs (rows'.map Row.pv) s9 s10 s11 ∧ i + 1 ≤ rows'.length ∧ rows'.length ≤ 3 * (i + 1) ∧ ∀ row ∈ rows', row.okD ws ts bs gs rows'.length := fun more t9 t10 t11 h1 h2 h3 => by
      refine ⟨rows ++ more, t9, t10, t11, by rw [List.map_append], by rw [List.length_append]; omega, by rw [List.length_append]; omega, fun row hrow => ?_⟩
      rw [List.length_append]
      rcases List.mem_append.mp hrow with h | h
      · exact Row.okD_mono (by omega) row (hrows row h)
      · exact h3 row h
    have hrl : (rows.map Row.pv).length = rows.length := List.length_map _
    have app : ∀ (d : PV → PV) (row : Row), gmAppend d (.lst (rows.map Row.pv)) [row.pv] = some (.lst (rows.map Row.pv ++ [row].map Row.pv), .non) := fun d row => by
      show (if (rows.map Row.pv).length < sizeLine then some (PV.lst (rows.map Row.pv ++ [row.pv]), PV.non) else none) = _
      rw [if_pos (by omega)]; rfl
    have app2 : ∀ (d : PV → PV) (r1 row : Row), gmAppend d (.lst (rows.map Row.pv ++ [r1].map Row.pv)) [row.pv] = some (.lst (rows.map Row.pv ++ [r1, row].map Row.pv), .non) := fun d r1 row => by
      show (if (rows.map Row.pv ++ [r1].map Row.pv).length < sizeLine then some (PV.lst (rows.map Row.pv ++ [r1].map Row.pv ++ [row.pv]), PV.non) else none) = _
      rw [if_pos (by rw [List.length_append]; simp; omega)]; simp
    have ext : ∀ (d : PV → PV) (more : List Row), d (.lst (more.map Row.pv)) = .lst (more.map Row.pv) → more.length ≤ 3 → gmExtend d (.lst (rows.map Row.pv)) [.lst (more.map Row.pv)] = some (.lst (rows.map Row.pv ++ more.map Row.pv), .non) := fun d more hd h3 => by
      unfold gmExtend
      simp only [hd]
      rw [if_pos (by rw [List.length_map, List.length_map]; omega)]
    have glen : gLen [.lst (rows.map Row.pv)] = some (.int rows.length) := by show some (PV.int ((rows.map Row.pv).length : Int)) = _; rw [hrl]
    unfold r__law_deed_3
    simp!
    refine tk hp.1 (by decide) (by decide) fun d d0 d1 => ?_
    have tell : ∀ (t9 t11 : Mw.Slot) (Q : Fl → En → Hi → Prop), (∀ s, okS ws bs s → Q .nx (epD r most mn ts bs ws gs (rows.map Row.pv ++ [Row.tell s].map Row.pv) t9 (.val (.int d)) t11) et1) → r__law_deed_16 (spSum 3) (epD r most mn ts bs ws gs (rows.map Row.pv) t9 (.val (.int d)) t11) et1 Q := fun t9 t11 Q hQ => by
      unfold r__law_deed_16
      simp! [epD]
      refine sumi (deep := 1) hp (by decide) hw hb hwl (by omega) fun s hs ho => ⟨by decide, ?_⟩
      exact ⟨_, _, app _ (.tell s), hQ s ⟨ho, by omega⟩⟩
    have put : ∀ (t9 t11 : Mw.Slot) (Q : Fl → En → Hi → Prop), (∀ more : List Row, 1 ≤ more.length → more.length ≤ 3 → (∀ row ∈ more, row.okD ws ts bs gs (rows.length + more.length)) → Q .nx (epD r most mn ts bs ws gs (rows.map Row.pv ++ more.map Row.pv) t9 (.val (.int d)) t11) et1) → r__law_deed_14 spPick (spSum 3) (epD r most mn ts bs ws gs (rows.map Row.pv) t9 (.val (.int d)) t11) et1 Q := fun t9 t11 Q hQ => by
      have other : r__law_deed_16 (spSum 3) (epD r most mn ts bs ws gs (rows.map Row.pv) t9 (.val (.int d)) t11) et1 Q := tell t9 t11 Q fun s hs => hQ [.tell s] (by simp) (by simp) fun row hrow => by rw [List.mem_singleton.mp hrow]; exact hs
      unfold r__law_deed_14
      simp! [epD, gNe_words ht]
      by_cases h8 : d < 8
      · simp only [h8, decide_true, if_true]
        refine ⟨by decide, ?_⟩
        cases hts : ts with
        | nil =>
          subst hts
          simp only [List.isEmpty_nil, Bool.not_true, Bool.false_eq_true, if_false]
          exact other
        | cons x xs =>
          simp only [List.isEmpty_cons, Bool.not_false, if_true]
          rw [← hts]
          unfold r__law_deed_15
          simp!
          refine pickS hp (by rw [hts]; simp) (by omega) fun x hx => ?_
          refine sumi (deep := 2) hp (by decide) hw hb hwl (by omega) fun s hs ho => ⟨by decide, ?_⟩
          exact ⟨_, _, app _ (.put x s), hQ [.put x s] (by simp) (by simp) fun row hrow => by rw [List.mem_singleton.mp hrow]; exact ⟨hx, ho, by omega⟩⟩
      · have h8' : decide (d < 8) = false := by simpa using h8
        simp only [h8', Bool.false_eq_true, if_false]
        exact other
    have unl : ∀ (t9 t11 : Mw.Slot) (Q : Fl → En → Hi → Prop), (∀ more : List Row, 1 ≤ more.length → more.length ≤ 3 → (∀ row ∈ more, row.okD ws ts bs gs (rows.length + more.length)) → Q .nx (epD r most mn ts bs ws gs (rows.map Row.pv ++ more.map Row.pv) t9 (.val (.int d)) t11) et1) → r__law_deed_11 spTk spPick (spSum 3) (epD r most mn ts bs ws gs (rows.map Row.pv) t9 (.val (.int d)) t11) et1 Q := fun t9 t11 Q hQ => by
      unfold r__law_deed_11
      simp! [epD]
      by_cases h5 : d = 5
      · simp only [h5, decide_true, if_true]
        unfold r__law_deed_12
        simp! [glen]
        refine sumi (deep := 2) hp (by decide) hw hb hwl (by omega) fun s hs ho => ⟨by decide, ?_⟩
        refine ⟨_, _, app _ (.unl s (rows.length + 2)), ?_⟩
        unfold r__law_deed_13
        simp!
        refine tk hp.1 (by decide) (by decide) fun d2 e0 e1 => ⟨by decide, ?_⟩
        have e : (PV.int d2) = (Sm.val d2.toNat).pv := by simp only [Sm.pv]; congr 1; omega
        rw [e]
        refine ⟨_, _, app2 _ (.unl s (rows.length + 2)) (.tell (.val d2.toNat)), ?_⟩
        rw [h5] at hQ
        refine hQ [.unl s (rows.length + 2), .tell (.val d2.toNat)] (by simp) (by simp) fun row hrow => ?_
        simp only [List.mem_cons, List.not_mem_nil, or_false] at hrow
        rcases hrow with rfl | rfl
        · exact ⟨⟨ho, by omega⟩, by simp⟩
        · exact ⟨show d2.toNat ≤ 9 by omega, by simp [Sm.dep]⟩
      · simp only [h5, decide_false, Bool.false_eq_true, if_false]
        exact put t9 t11 Q hQ
    have doo : ∀ (t9 t11 : Mw.Slot) (Q : Fl → En → Hi → Prop), (∀ more : List Row, 1 ≤ more.length → more.length ≤ 3 → (∀ row ∈ more, row.okD ws ts bs gs (rows.length + more.length)) → Q .nx (epD r most mn ts bs ws gs (rows.map Row.pv ++ more.map Row.pv) t9 (.val (.int d)) t11) et1) → r__law_deed_9 spTk spPick spDo (spSum 3) (epD r most mn ts bs ws gs (rows.map Row.pv) t9 (.val (.int d)) t11) et1 Q := fun t9 t11 Q hQ => by
      unfold r__law_deed_9
      simp! [epD, gNe_goals hg]
      by_cases h4 : d = 4
      · simp only [h4, decide_true, if_true]
        refine ⟨by decide, ?_⟩
        cases hgs : gs with
        | nil =>
          subst hgs
          simp only [List.isEmpty_nil, Bool.not_true, Bool.false_eq_true, if_false]
          rw [h4] at unl hQ
          exact unl t9 t11 Q hQ
        | cons x xs =>
          simp only [List.isEmpty_cons, Bool.not_false, if_true]
          rw [← hgs]
          unfold r__law_deed_10
          simp!
          refine ⟨r, gs, ts, ws, rfl, hp, by rw [hgs]; simp, hgl, by omega, hwl, hw, fun g rm dd s k1 k2 k3 k4 => ?_⟩
          rw [h4] at hQ
          exact ⟨_, _, app _ (.doo g rm dd s), hQ [.doo g rm dd s] (by simp) (by simp) fun row hrow => by rw [List.mem_singleton.mp hrow]; exact ⟨k1, k2, ok_nobell s k3, k4⟩⟩
      · simp only [h4, decide_false, Bool.false_eq_true, if_false]
        exact unl t9 t11 Q hQ
    have call : ∀ (t9 t11 : Mw.Slot) (Q : Fl → En → Hi → Prop), (∀ (more : List Row) (u11 : Mw.Slot), 1 ≤ more.length → more.length ≤ 3 → (∀ row ∈ more, row.okD ws ts bs gs (rows.length + more.length)) → Q .nx (epD r most mn ts bs ws gs (rows.map Row.pv ++ more.map Row.pv) t9 (.val (.int d)) u11) et1) → r__law_deed_6 spTk spPick spDo (spSum 3) (epD r most mn ts bs ws gs (rows.map Row.pv) t9 (.val (.int d)) t11) et1 Q := fun t9 t11 Q hQ => by
      unfold r__law_deed_6
      simp! [epD, gNe_words hb]
      by_cases h4 : d < 4
      · simp only [h4, decide_true, if_true]
        refine ⟨by decide, ?_⟩
        cases hbs : bs with
        | nil =>
          subst hbs
          simp only [List.isEmpty_nil, Bool.not_true, Bool.false_eq_true, if_false]
          exact doo t9 t11 Q fun more => hQ more t11
        | cons x xs =>
          simp only [List.isEmpty_cons, Bool.not_false, if_true]
          rw [← hbs]
          unfold r__law_deed_7
          simp!
          refine ⟨by decide, ?_⟩
          have cont : ∀ w : Str, (w = "call" ∨ w = "all") → r__law_deed_8 spPick (epD r most mn ts bs ws gs (rows.map Row.pv) t9 (.val (.int d)) (.val (.str w))) et1 Q := fun w hw' => by
            unfold r__law_deed_8
            simp! [epD]
            refine pickS hp (by rw [hbs]; simp) (by omega) fun b hbm => ⟨by decide, ?_⟩
            rcases hw' with rfl | rfl
            · exact ⟨_, _, app _ (.call b), hQ [.call b] _ (by simp) (by simp) fun row hrow => by rw [List.mem_singleton.mp hrow]; exact hbm⟩
            · exact ⟨_, _, app _ (.all b), hQ [.all b] _ (by simp) (by simp) fun row hrow => by rw [List.mem_singleton.mp hrow]; exact hbm⟩
          by_cases hmn : mn = "when free"
          · have hm1 : decide (mn = ("when free" : Str)) = true := decide_eq_true hmn
            by_cases h3 : d = 3
            · have h31 : decide (d = 3) = true := decide_eq_true h3
              simp only [hm1, h31, if_true, bl_int, Option.some.injEq, exists_eq_left']
              exact ⟨_, rfl, cont "all" (.inr rfl)⟩
            · have h31 : decide (d = 3) = false := decide_eq_false h3
              simp only [hm1, h31, if_true, Bool.false_eq_true, if_false, bl_int, Option.some.injEq, exists_eq_left']
              exact ⟨_, rfl, cont "call" (.inl rfl)⟩
          · have hm1 : decide (mn = ("when free" : Str)) = false := decide_eq_false hmn
            simp only [hm1, Bool.false_eq_true, if_false, bl_int, Option.some.injEq, exists_eq_left']
            exact ⟨_, rfl, cont "call" (.inl rfl)⟩
      · have h4' : decide (d < 4) = false := by simpa using h4
        simp only [h4', Bool.false_eq_true, if_false]
        exact doo t9 t11 Q fun more => hQ more t11
    unfold r__law_deed_4
    simp! [gNe_words hb]
    by_cases h2 : d < 2
    · simp only [h2, decide_true, if_true]
      refine ⟨by decide, ?_⟩
      cases hbs : bs with
      | nil =>
        subst hbs
        simp only [List.isEmpty_nil, Bool.not_true, Bool.false_eq_true, if_false]
        exact call _ _ _ fun more u11 h1 h2 h3 => ⟨rfl, fin more _ _ _ h1 h2 h3⟩
      | cons x xs =>
        simp only [List.isEmpty_cons, Bool.not_false, if_true]
        rw [← hbs]
        unfold r__law_deed_5
        simp! [glen]
        refine ⟨r, rows.length, ws, bs, rfl, hp, hw, hb, hwl, by omega, by rw [hbs]; simp, hgv, fun more h3 h1 hok => ?_⟩
        exact ⟨_, _, ext _ more rfl h3, rfl, fin more _ _ _ h1 h3 fun row hrow => hok row hrow ts gs⟩
    · have h2' : decide (d < 2) = false := by simpa using h2
      simp only [h2', Bool.false_eq_true, if_false]
      exact call _ _ _ fun more u11 h1 h2 h3 => ⟨rfl, fin more _ _ _ h1 h2 h3⟩
  · have hm : i = n + 1 := by rw [e]; simp [rng]
    subst hm
    unfold r__law_deed_17
    have gt : gTuple [.lst (rows.map Row.pv)] = some (.tup (rows.map Row.pv)) := rfl
    simp! [gt]
    exact hR rows (by omega) (by omega) hrows
theorem lc_key {α β : Type} {src want : List PV} {tg : PV → En → Option En} {me : EM PV} {epw : En} {et : Hi} {R : PV → Hi → Prop} {xs : List α} (f : α → PV) (g : β → PV) (key : β → α) (P : β → Prop) (h : src.map (deref et) = want) (hl : xs.length ≤ sizeLine)
    (step : ∀ x ∈ xs, ∃ ep1, tg (f x) epw = some ep1 ∧ ∀ Q : PV → Hi → Prop, (∀ b, key b = x → P b → Q (g b) et) → me ep1 et Q) (fin : ∀ bs : List β, bs.map key = xs → (∀ b ∈ bs, P b) → R (.lst (bs.map g)) et) : lcGo src want tg mYes me epw (xs.map f) et R := by
  refine ⟨fun i acc et1 => et1 = et ∧ i ≤ xs.length ∧ ∃ bs : List β, acc = bs.map g ∧ bs.map key = xs.take i ∧ ∀ b ∈ bs, P b, ⟨rfl, Nat.zero_le _, [], rfl, rfl, by simp⟩, ?_⟩
  rintro i acc et1 ⟨rfl, hi, bs, rfl, hk, hP⟩
  refine ⟨h, fun p hp => ?_, fun e => ?_⟩
  · rw [List.getElem?_map] at hp
    obtain ⟨x, hx, rfl⟩ : ∃ x, xs[i]? = some x ∧ p = f x := by
      cases e : xs[i]? with
      | none => rw [e] at hp; cases hp
      | some c => rw [e] at hp; cases hp; exact ⟨c, rfl, rfl⟩
    have hlt := (List.getElem?_eq_some_iff.mp hx).1
    obtain ⟨ep1, h1, h2⟩ := step x (List.mem_of_getElem? hx)
    refine ⟨ep1, h1, ?_⟩
    simp only [mYes, if_true]
    refine h2 _ fun b hb hPb => ⟨?_, rfl, hlt, bs ++ [b], by rw [List.map_append]; rfl, ?_, fun c hc => ?_⟩
    · rw [List.length_map]
      have := congrArg List.length hk
      rw [List.length_map, List.length_take] at this
      omega
    · rw [List.map_append, hk, List.take_succ, hx]; simp [hb]
    · rcases List.mem_append.mp hc with hc | hc
      · exact hP c hc
      · rw [List.mem_singleton.mp hc]; exact hPb
  · have hi2 : i = xs.length := by rw [e, List.length_map]
    subst hi2
    rw [List.take_length] at hk
    exact fin bs hk hP
theorem lc_map {α : Type} {src want : List PV} {tg : PV → En → Option En} {me : EM PV} {epw : En} {et : Hi} {R : PV → Hi → Prop} {xs : List α} (f g : α → PV) (h : src.map (deref et) = want) (hl : xs.length ≤ sizeLine)
    (step : ∀ x ∈ xs, ∃ ep1, tg (f x) epw = some ep1 ∧ ∀ Q : PV → Hi → Prop, Q (g x) et → me ep1 et Q) (fin : R (.lst (xs.map g)) et) : lcGo src want tg mYes me epw (xs.map f) et R :=
  lc_key f g id (fun _ => True) h hl (fun x hx => by
    obtain ⟨ep1, h1, h2⟩ := step x hx
    exact ⟨ep1, h1, fun Q hQ => h2 Q (hQ x rfl trivial)⟩) fun bs hb _ => by rw [List.map_id] at hb; subst hb; exact fin
abbrev Deed := Str × List Row
def progPV (p : List Row) : PV := .tup (p.map Row.pv)
def deedPV (d : Deed) : PV := .tup [.str d.1, progPV d.2]
def pairPV (p : Str × Int) : PV := .tup [.str p.1, .int p.2]
def sortS (t : Bool) : Str := if t = true then "turns" else "row"
def bellPV (b : Str × Bool) : PV := .tup [.str b.1, .str (sortS b.2)]
def mnS (f : Bool) : Str := if f = true then "when free" else "at once"
structure Rm where
  name : Str
  free : Bool
  things : List (Str × Int)
  bells : List (Str × Bool)
  deeds : List Deed
def Rm.pv (r : Rm) : PV := .tup [.str r.name, .str (mnS r.free), .tup (r.things.map pairPV), .tup (r.bells.map bellPV), .tup (r.deeds.map deedPV)]
def Rm.ts (r : Rm) : List Str := r.things.map (·.1)
def Rm.bs (r : Rm) : List Str := r.bells.map (·.1)
def Rm.goals (r : Rm) : List (Str × Str) := r.deeds.map fun d => (r.name, d.1)
structure RoomOk (gs : List (Str × Str)) (r : Rm) : Prop where
  nm : isWord r.name = true
  tw : ∀ x ∈ r.ts, isWord x = true
  tn : r.ts.Nodup
  tv : ∀ p ∈ r.things, 0 ≤ p.2 ∧ p.2 ≤ 9
  bw : ∀ x ∈ r.bs, isWord x = true
  bn : r.bs.Nodup
  dw : ∀ d ∈ r.deeds, isWord d.1 = true
  dn : (r.deeds.map (·.1)).Nodup
  d0 : r.deeds ≠ []
  tl : r.things.length ≤ 6
  bl : r.bells.length ≤ 6
  dl : r.deeds.length ≤ 6
  rows : ∀ d ∈ r.deeds, 1 ≤ d.2.length ∧ d.2.length ≤ 30 ∧ ∀ row ∈ d.2, row.okD (r.ts ++ [("given" : Str)]) r.ts r.bs (gs ++ r.goals) d.2.length
theorem Row.okD_goals {ws ts bs : List Str} {gs gs' : List (Str × Str)} {n : Nat} (h : ∀ g ∈ gs, g ∈ gs') : ∀ r : Row, r.okD ws ts bs gs n → r.okD ws ts bs gs' n
  | .put _ _, h' => h'
  | .unl _ _, h' => h'
  | .go _, h' => h'
  | .doo _ _ _ _, h' => ⟨h'.1, h _ h'.2.1, h'.2.2⟩
  | .wait _ _, h' => h'
  | .call _, h' => h'
  | .all _, h' => h'
  | .tell _, h' => h'
theorem bel_sm (n : Nat) : ∀ s : Sm, bel n s.pv = true
  | .val _ => rfl
  | .wrd _ => rfl
  | .wts _ => rfl
  | .not a => by simp [Sm.pv, bel, bels, bel_sm n a]
  | .two _ a b => by simp [Sm.pv, bel, bels, bel_sm n a, bel_sm n b]
theorem bel_row (n : Nat) (r : Row) : bel n r.pv = true := by
  cases r with
  | doo g rm dd s => cases g <;> simp [Row.pv, optPV, bel, bels, bel_sm]
  | _ => simp [Row.pv, bel, bels, bel_sm]
theorem bels_map {α : Type} {n : Nat} {f : α → PV} (h : ∀ x, bel n (f x) = true) (xs : List α) : bels n (xs.map f) = true := by
  induction xs with
  | nil => rfl
  | cons x xs ih => simp [bels, h, ih]
theorem bel_deed (n : Nat) (d : Deed) : bel n (deedPV d) = true := by simp [deedPV, progPV, bel, bels, bels_map (bel_row n)]
theorem bel_pair (n : Nat) (d : Str × Int) : bel n (pairPV d) = true := by simp [pairPV, bel, bels]
theorem bel_bell (n : Nat) (d : Str × Bool) : bel n (bellPV d) = true := by simp [bellPV, bel, bels]
theorem bel_room (n : Nat) (r : Rm) : bel n r.pv = true := by simp [Rm.pv, bel, bels, bels_map (bel_deed n), bels_map (bel_pair n), bels_map (bel_bell n)]
mutual
theorem bel_mono {n m : Nat} (h : n ≤ m) : ∀ p : PV, bel n p = true → bel m p = true
  | .ref k, hp => by simp only [bel, decide_eq_true_eq] at *; omega
  | .tup xs, hp => by simp only [bel] at *; exact bels_mono h xs hp
  | .lst xs, hp => by simp only [bel] at *; exact bels_mono h xs hp
  | .dic xs, hp => by simp only [bel] at *; exact belk_mono h xs hp
  | .non, _ => rfl
  | .bl _, _ => rfl
  | .int _, _ => rfl
  | .str _, _ => rfl
  | .scr _, _ => rfl
  | .glo _, _ => rfl
  | .ty _, _ => rfl
  | .dik xs, hp => by simp only [bel] at *; exact belk_mono h xs hp
theorem bels_mono {n m : Nat} (h : n ≤ m) : ∀ p : List PV, bels n p = true → bels m p = true
  | [], _ => rfl
  | x :: xs, hp => by
    simp only [bels, Bool.and_eq_true] at *
    exact ⟨bel_mono h x hp.1, bels_mono h xs hp.2⟩
theorem belk_mono {n m : Nat} (h : n ≤ m) : ∀ p : List (Key × PV), belk n p = true → belk m p = true
  | [], _ => rfl
  | (_, x) :: xs, hp => by
    simp only [belk, Bool.and_eq_true] at *
    exact ⟨bel_mono h x hp.1, belk_mono h xs hp.2⟩
end
theorem belf_mono {n m : Nat} (h : n ≤ m) : ∀ p : List (Str × PV), belf n p = true → belf m p = true
  | [], _ => rfl
  | (_, x) :: xs, hp => by
    simp only [belf, Bool.and_eq_true] at *
    exact ⟨bel_mono h x hp.1, belf_mono h xs hp.2⟩
theorem beln_mono {n m : Nat} (h : n ≤ m) : ∀ p : List (PV × PV), beln n p = true → beln m p = true
  | [], _ => rfl
  | (x, y) :: xs, hp => by
    simp only [beln, Bool.and_eq_true] at *
    exact ⟨⟨bel_mono h x hp.1.1, bel_mono h y hp.1.2⟩, beln_mono h xs hp.2⟩
theorem belC_mono {n m : Nat} (h : n ≤ m) {d : Cell} (hd : belC n d) : belC m d := by
  cases d with
  | lst xs => exact bels_mono h xs hd
  | dic xs => exact belk_mono h xs hd
  | ins c fs => exact belf_mono h fs hd
  | potO k c => exact Nat.lt_of_lt_of_le hd h
  | dead => trivial
  | potI => trivial
  | inv _ => trivial
  | nd kvs => exact beln_mono h kvs hd
  | exc _ _ => trivial
theorem Pot.push {r : Nat} {et : Hi} {c : Cell} (h : Pot r et) (hc : belC (et.length + 1) c) : Pot r (et ++ [c]) := by
  refine ⟨by rw [List.getElem?_append_left (List.getElem?_eq_some_iff.mp h.1).1]; exact h.1, fun d hd => ?_⟩
  rw [List.length_append, List.length_singleton]
  rcases List.mem_append.mp hd with hd | hd
  · exact belC_mono (by omega) (h.2 d hd)
  · rw [List.mem_singleton.mp hd]; exact hc
theorem last_at' (et : Hi) (c : Cell) : (et ++ [c])[et.length]? = some c := by rw [List.getElem?_append_right (Nat.le_refl _)]; simp
theorem set_last (et : Hi) (c c' : Cell) : (et ++ [c]).set et.length c' = et ++ [c'] := by rw [List.set_append_right _ _ (Nat.le_refl _)]; simp
theorem der_last (et : Hi) (xs : List PV) : deref (et ++ [.lst xs]) (.ref et.length) = .lst xs := deref_ref (last_at' et _)
def spRoomJ : FSpec := fun args et R => ∃ (r bm : Nat) (name : Str) (gs : List (Str × Str)) (mns : List Bool), args = [.ref r, .str name, .lst (gs.map goalPV), .lst (mns.map fun m => .str (mnS m)), .int bm] ∧ Pot r et ∧ isWord name = true ∧ okG gs ∧ gs.length < 900 ∧ mns ≠ [] ∧ mns.length < 100 ∧ bm ≤ 5 ∧
  ∀ (rm : Rm) (c : Cell), rm.name = name → RoomOk gs rm → rm.free ∈ mns → rm.bells.length ≤ bm → R rm.pv (et ++ [c])
theorem WordsOf.len6 {stem : Str} {n : Nat} {ws : List Str} (h : WordsOf stem n ws) (hn : n ≤ 6) : ws.length ≤ 6 := by rw [h.len]; exact hn
theorem atI_draw {xs : List PV} {d : Int} (ys : List Nat) (e : xs = ys.map fun (k : Nat) => PV.int k) (d0 : 0 ≤ d) (d1 : d < xs.length) : ∃ k ∈ ys, atI xs d = some (.int (k : Nat)) := by
  obtain ⟨x, hx, h⟩ := atI_some d0 d1
  rw [e] at hx
  obtain ⟨k, hk, rfl⟩ := List.mem_map.mp hx
  exact ⟨k, hk, h⟩
theorem rep_if {α : Type} (b : Bool) (l : List α) : (List.replicate (if b = true then (1 : Int) else 0).toNat l).flatten = if b = true then l else [] := by cases b <;> simp
theorem room_ok (args : List PV) (et : Hi) (R : PV → Hi → Prop) (h : spRoomJ args et R) : r__law_room spPick spWords spTk spDeed (env0 N__law_room args) et (retK R) := by
  obtain ⟨r, bm, name, gs, mns, rfl, hp, hnm, hg, hgl, hm0, hml, hbm, hR⟩ := h
  show r__law_room _ _ _ _ [.val (.ref r), .val (.str name), .val (.lst (gs.map goalPV)), .val (.lst (mns.map fun m => .str (mnS m))), .val (.int bm), .no, .no, .no, .no, .no, .no, .no, .no, .no, .no, .no] et (retK R)
  have big : (2000 : Nat) ≤ sizeLine := by decide
  unfold r__law_room
  simp!
  refine pick hp.1 (by rw [List.length_map]; exact List.length_pos_iff.mpr hm0) (by rw [List.length_map]; omega) fun y hy => ?_
  obtain ⟨free, hfree, rfl⟩ := List.mem_map.mp hy
  unfold r__law_room_0
  simp!
  refine ⟨by decide, tk hp.1 (by decide) (by decide) fun d d0 d1 => ?_⟩
  obtain ⟨k, hk, e⟩ := atI_draw (xs := [.int 1, .int 1, .int 2, .int 0]) [1, 1, 2, 0] rfl d0 (by simpa using d1)
  simp! [e]
  have hk2 : k ≤ 2 := by simp at hk; omega
  refine ⟨r, "", k, rfl, hp, by omega, by decide, fun ts hts => ?_⟩
  have htw := hts.words (.inl rfl)
  have htl := hts.len6 (by omega)
  unfold r__law_room_1
  simp!
  refine tk hp.1 (by omega) (by omega) fun d d0 d1 => ?_
  refine ⟨r, "", d.toNat, by rw [Int.toNat_of_nonneg d0], hp, by omega, by decide, fun bs hbs => ?_⟩
  have hbw := hbs.words (.inl rfl)
  have hbl : bs.length ≤ bm := by rw [hbs.len]; omega
  unfold r__law_room_2
  simp!
  refine ⟨by decide, ?_⟩
  show r__law_room_3 _ _ _ [.val (.ref r), .val (.str name), .val (.lst (gs.map goalPV)), .val (.lst (mns.map fun m => .str (mnS m))), .val (.int bm), .val (.str (mnS free)), .val (.lst (ts.map .str)), .val (.lst (bs.map .str)), .val (.ref et.length), .no, .no, .no, .no, .no, .no, .no] (et ++ [.lst []]) (retK R)
  have hp1 : Pot r (et ++ [.lst []]) := hp.push rfl
  unfold r__law_room_3
  simp!
  refine tk hp1.1 (by decide) (by decide) fun d d0 d1 => ?_
  simp!
  refine ⟨r, "", (1 + d).toNat, by rw [Int.toNat_of_nonneg (by omega)], hp1, by omega, by decide, fun ws hws => ?_⟩
  have hww := hws.words (.inl rfl)
  have hwl := hws.len6 (by omega)
  simp! [itemsP]
  refine ⟨fun i ep et1 => ∃ (deeds : List Deed) (s9 s10 s11 s12 : Mw.Slot), et1 = et ++ [.lst (deeds.map deedPV)] ∧ ep = [.val (.ref r), .val (.str name), .val (.lst (gs.map goalPV)), .val (.lst (mns.map fun m => .str (mnS m))), .val (.int bm), .val (.str (mnS free)), .val (.lst (ts.map .str)), .val (.lst (bs.map .str)), .val (.ref et.length), s9, s10, s11, s12, .no, .no, .no] ∧
    deeds.map (·.1) = ws.take i ∧ i ≤ ws.length ∧ ∀ d ∈ deeds, 1 ≤ d.2.length ∧ d.2.length ≤ 30 ∧ ∀ row ∈ d.2, row.okD (ts ++ [("given" : Str)]) ts bs (gs ++ deeds.map fun d => (name, d.1)) d.2.length, ⟨[], _, _, _, _, rfl, rfl, rfl, Nat.zero_le _, by simp⟩, ?_⟩
  rintro i ep et1 ⟨deeds, s9, s10, s11, s12, rfl, rfl, hdn, hi, hd⟩
  have hdl : deeds.length ≤ 6 := by
    have := congrArg List.length hdn
    rw [List.length_map, List.length_take] at this; omega
  have hdw : ∀ d ∈ deeds, isWord d.1 = true := fun d hd' => hww d.1 (List.mem_of_mem_take (hdn ▸ List.mem_map_of_mem hd'))
  have hpc : ∀ ds : List Deed, Pot r (et ++ [.lst (ds.map deedPV)]) := fun ds => hp.push (bels_map (bel_deed _) ds)
  have hn := last_at' et (.lst (deeds.map deedPV))
  have hde := der_last et (deeds.map deedPV)
  refine ⟨rfl, fun p hpi => ⟨_, rfl, ?_⟩, fun e => ?_⟩
  · rw [List.getElem?_map] at hpi
    obtain ⟨x, hx, rfl⟩ : ∃ x, ws[i]? = some x ∧ p = .str x := by
      cases e : ws[i]? with
      | none => rw [e] at hpi; cases hpi
      | some c => rw [e] at hpi; cases hpi; exact ⟨c, rfl, rfl⟩
    have hxi := (List.getElem?_eq_some_iff.mp hx).1
    unfold r__law_room_4
    simp! [itemsP, hde]
    refine lc_map deedPV (fun d => goalPV (name, d.1)) (by simp [hde]) (by omega) (fun d hd' => ⟨_, rfl, fun Q hQ => ?_⟩) ?_
    · simp!
      exact ⟨_, rfl, by decide, hQ⟩
    · unfold r__law_room_5
      simp!
      refine tk (hpc deeds).1 (by decide) (by decide) fun d5 e0 e1 => ?_
      generalize hb5 : decide (d5 = 0) = b5
      have erep : gRep (.lst (deeds.map fun d => goalPV (name, d.1))) (.int (if b5 = true then 1 else 0)) = some (.lst ((if b5 = true then deeds.map (fun d => (name, d.1)) else []).map goalPV)) := by
        unfold gRep
        simp only
        rw [if_pos (by rw [List.length_map]; cases b5 <;> simp <;> omega), rep_if]
        cases b5 <;> simp
      generalize hhs : (if b5 = true then deeds.map (fun d => (name, d.1)) else []) = hs at erep
      have hhm : ∀ g ∈ hs, g ∈ deeds.map fun d => (name, d.1) := fun g hg' => by
        rw [← hhs] at hg'
        cases b5 <;> simp at hg' ⊢
        exact hg'
      have hhl : hs.length ≤ 6 := by rw [← hhs]; cases b5 <;> simp; omega
      have ecat : gCat (.lst (gs.map goalPV)) (.lst (hs.map goalPV)) = some (.lst ((gs ++ hs).map goalPV)) := by
        unfold gCat
        simp only
        rw [if_pos (by rw [List.length_map, List.length_map]; omega), List.map_append]
      simp! [hb5, bl_int, erep, ecat]
      unfold r__law_room_6
      simp! [hde]
      refine ⟨by decide, r, 4, mnS free, ts, bs, gs ++ hs, rfl, hpc deeds, by decide, by decide, htw, hbw, ?_, by omega, by omega, by simp; omega, fun rows h1 h2 h3 => ?_⟩
      · intro g hg'
        rcases List.mem_append.mp hg' with hg' | hg'
        · exact hg g hg'
        · obtain ⟨d, hd', rfl⟩ := List.mem_map.mp (hhm g hg')
          exact ⟨hnm, hdw d hd'⟩
      · have app : gmAppend (deref (et ++ [.lst (deeds.map deedPV)])) (.lst (deeds.map deedPV)) [.tup [.str x, .tup (rows.map Row.pv)]] = some (.lst ((deeds ++ [(x, rows)]).map deedPV), .non) := by
          show (if (deeds.map deedPV).length < sizeLine then some (PV.lst (deeds.map deedPV ++ [deedPV (x, rows)]), PV.non) else none) = _
          rw [if_pos (by rw [List.length_map]; omega), List.map_append]; rfl
        refine ⟨by decide, _, _, _, (by rw [hde]; exact app), (by rw [hde]), rfl, ?_⟩
        refine ⟨deeds ++ [(x, rows)], _, _, _, _, set_last .., rfl, by rw [List.map_append, hdn, List.take_succ, hx]; rfl, by omega, fun d hd' => ?_⟩
        have sub1 : ∀ g ∈ gs ++ deeds.map (fun d => (name, d.1)), g ∈ gs ++ (deeds ++ [(x, rows)]).map fun d => (name, d.1) := fun g hg' => by
          rw [List.map_append, ← List.append_assoc]; exact List.mem_append_left _ hg'
        rcases List.mem_append.mp hd' with hd' | hd'
        · obtain ⟨a1, a2, a3⟩ := hd d hd'
          exact ⟨a1, a2, fun row hrow => Row.okD_goals sub1 row (a3 row hrow)⟩
        · rw [List.mem_singleton.mp hd']
          refine ⟨h1, h2, fun row hrow => Row.okD_goals (fun g hg' => sub1 g ?_) row (h3 row hrow)⟩
          rcases List.mem_append.mp hg' with hg' | hg'
          · exact List.mem_append_left _ hg'
          · exact List.mem_append_right _ (hhm g hg')
  · have hi2 : i = ws.length := by rw [e, List.length_map]
    subst hi2
    rw [List.take_length] at hdn
    unfold r__law_room_7
    simp! [itemsP]
    refine lc_key PV.str bellPV (·.1) (fun _ => True) rfl (by omega) (fun b hb' => ⟨_, rfl, fun Q hQ => ?_⟩) fun bells hbk _ => ?_
    · simp!
      refine ⟨by decide, tk (hpc deeds).1 (by decide) (by decide) fun d2 e0 e1 => ?_⟩
      have et2 : atI [PV.str "row", PV.str "turns"] d2 = some (.str (sortS (decide (d2 = 1)))) := by
        rcases (show d2 = 0 ∨ d2 = 1 by omega) with rfl | rfl <;> rfl
      simp! [et2]
      exact ⟨by decide, hQ (b, _) rfl trivial⟩
    · have gt : ∀ l, gTuple [.lst l] = some (.tup l) := fun _ => rfl
      simp! [gt]
      unfold r__law_room_8
      simp! [itemsP]
      refine lc_key PV.str pairPV (·.1) (fun p => 0 ≤ p.2 ∧ p.2 ≤ 9) rfl (by omega) (fun b hb' => ⟨_, rfl, fun Q hQ => ?_⟩) fun things htk htv => ?_
      · simp!
        refine tk (hpc deeds).1 (by decide) (by decide) fun d2 e0 e1 => ?_
        exact ⟨by decide, hQ (b, d2) rfl ⟨e0, by omega⟩⟩
      · simp! [gt, hde]
        refine ⟨by decide, ?_⟩
        have e1 : things.map (·.1) = ts := htk
        have e2 : bells.map (·.1) = bs := hbk
        have l1 : things.length = ts.length := by rw [← e1, List.length_map]
        have l2 : bells.length = bs.length := by rw [← e2, List.length_map]
        refine hR ⟨name, free, things, bells, deeds⟩ _ rfl ?_ hfree (by show bells.length ≤ bm; omega)
        refine ⟨hnm, ?_, ?_, htv, ?_, ?_, hdw, by rw [hdn]; exact hws.nd, ?_, by show things.length ≤ 6; omega, by show bells.length ≤ 6; omega, hdl, ?_⟩
        · show ∀ x ∈ things.map (·.1), _; rw [e1]; exact htw
        · show (things.map (·.1)).Nodup; rw [e1]; exact hts.nd
        · show ∀ x ∈ bells.map (·.1), _; rw [e2]; exact hbw
        · show (bells.map (·.1)).Nodup; rw [e2]; exact hbs.nd
        · intro z
          have z' : deeds = [] := z
          have := hws.len
          rw [← hdn, z'] at this; simp at this; omega
        · show ∀ d ∈ deeds, 1 ≤ d.2.length ∧ d.2.length ≤ 30 ∧ ∀ row ∈ d.2, row.okD (things.map (·.1) ++ [("given" : Str)]) (things.map (·.1)) (bells.map (·.1)) (gs ++ deeds.map fun d => (name, d.1)) d.2.length
          rw [e1, e2]; exact hd
def spRoom : FSpec := fun args et R => ∃ (r bm : Nat) (name : Str) (gs : List (Str × Str)) (mns : List Bool), args = [.ref r, .str name, .lst (gs.map goalPV), .lst (mns.map fun m => .str (mnS m)), .int bm] ∧ Pot r et ∧ isWord name = true ∧ okG gs ∧ gs.length < 900 ∧ mns ≠ [] ∧ mns.length < 100 ∧ bm ≤ 5 ∧
  ∀ (rm : Rm), rm.name = name → RoomOk gs rm → rm.free ∈ mns → rm.bells.length ≤ bm → R rm.pv et
theorem RoomOk.mono {gs gs' : List (Str × Str)} {r : Rm} (h : ∀ g ∈ gs, g ∈ gs') (o : RoomOk gs r) : RoomOk gs' r :=
  { o with rows := fun d hd => ⟨(o.rows d hd).1, (o.rows d hd).2.1, fun row hrow => Row.okD_goals (fun g hg => by
      rcases List.mem_append.mp hg with hg | hg
      · exact List.mem_append_left _ (h g hg)
      · exact List.mem_append_right _ hg) row ((o.rows d hd).2.2 row hrow)⟩ }
def goalsOf (rs : List Rm) : List (Str × Str) := rs.flatMap Rm.goals
structure RoomsOk (rs : List Rm) : Prop where
  srt : (rs.map (·.name)).Pairwise leS
  nd : (rs.map (·.name)).Nodup
  ok : ∀ rm ∈ rs, RoomOk (goalsOf rs) rm
def RoomIn (mns : List Bool) (bm : Nat) (rm : Rm) : Prop := rm.free ∈ mns ∧ rm.bells.length ≤ bm
theorem okG_of {gs : List (Str × Str)} {rs : List Rm} (h : ∀ rm ∈ rs, RoomOk gs rm) : okG (goalsOf rs) := fun g hg => by
  obtain ⟨rm, hrm, hg⟩ := List.mem_flatMap.mp hg
  obtain ⟨d, hd, rfl⟩ := List.mem_map.mp hg
  exact ⟨(h rm hrm).nm, (h rm hrm).dw d hd⟩
theorem goals_len {gs : List (Str × Str)} {rs : List Rm} (h : ∀ rm ∈ rs, RoomOk gs rm) : (goalsOf rs).length ≤ 6 * rs.length := by
  induction rs with
  | nil => simp [goalsOf]
  | cons r rs ih =>
    have h1 := ih fun x hx => h x (by simp [hx])
    have h2 := (h r (by simp)).dl
    unfold goalsOf at *
    rw [List.flatMap_cons, List.length_append, List.length_cons]
    have : r.goals.length = r.deeds.length := List.length_map _
    omega
theorem perm_of_map {α β : Type} {f : α → β} : ∀ {l : List α} {qs : List β}, qs.Perm (l.map f) → ∃ l' : List α, l'.Perm l ∧ qs = l'.map f := by
  intro l qs h
  generalize hm : l.map f = ms at h
  induction h generalizing l with
  | nil => exact ⟨[], by rw [List.map_eq_nil_iff.mp hm], rfl⟩
  | cons x _ ih =>
    cases l with
    | nil => cases hm
    | cons a l =>
      cases hm
      obtain ⟨l', h1, h2⟩ := ih rfl
      exact ⟨a :: l', h1.cons a, by rw [h2]; rfl⟩
  | swap x y r =>
    match l, hm with
    | a :: b :: l, hm =>
      cases hm
      exact ⟨b :: a :: l, .swap a b l, rfl⟩
  | trans _ _ ih1 ih2 =>
    obtain ⟨l', h1, h2⟩ := ih2 hm
    obtain ⟨l'', h3, h4⟩ := ih1 h2.symm
    exact ⟨l'', h3.trans h1, h4⟩
def spRoomsJ : FSpec := fun args et R => ∃ (r many bm : Nat) (mns : List Bool), args = [.ref r, .int many, .lst (mns.map fun m => .str (mnS m)), .int bm] ∧ Pot r et ∧ many ≤ 6 ∧ mns ≠ [] ∧ mns.length < 100 ∧ bm ≤ 5 ∧
  ∀ (rs : List Rm) (junk : Hi), rs.length = many → RoomsOk rs → (∀ rm ∈ rs, RoomIn mns bm rm) → R (.tup (rs.map Rm.pv)) (et ++ junk)
theorem rooms_ok (args : List PV) (et : Hi) (R : PV → Hi → Prop) (h : spRoomsJ args et R) : r__law_rooms spWordsS spTk spRoom (env0 N__law_rooms args) et (retK R) := by
  obtain ⟨r, many, bm, mns, rfl, hp, hm6, hm0, hml, hbm, hR⟩ := h
  show r__law_rooms _ _ _ [.val (.ref r), .val (.int many), .val (.lst (mns.map fun m => .str (mnS m))), .val (.int bm), .no, .no, .no, .no, .no, .no] et (retK R)
  have big : (2000 : Nat) ≤ sizeLine := by decide
  unfold r__law_rooms
  simp!
  refine ⟨r, "", many, rfl, hp.1, hm6, by decide, fun ws left hws => ?_⟩
  have hww := hws.words (.inl rfl)
  unfold r__law_rooms_0
  simp!
  refine ⟨by decide, ?_⟩
  unfold r__law_rooms_1
  simp!
  have cellE : ∀ (names : List Str) (rs : List Rm), (et ++ [Cell.lst (left.map .str), .lst (names.map .str)]) ++ [.lst (rs.map Rm.pv)] = et ++ [Cell.lst (left.map .str), .lst (names.map .str), .lst (rs.map Rm.pv)] := fun _ _ => by simp
  have e0 := cellE ws []
  simp only [List.map_nil] at e0
  rw [e0]
  have lenE : (et ++ [Cell.lst (left.map .str), .lst (ws.map .str)]).length = et.length + 2 := by simp
  rw [lenE]
  have gN : ∀ (names : List Str) (rs : List Rm), (et ++ [Cell.lst (left.map .str), .lst (names.map .str), .lst (rs.map Rm.pv)])[et.length + 1]? = some (.lst (names.map .str)) := fun _ _ => by rw [List.getElem?_append_right (by omega)]; simp
  have gR : ∀ (names : List Str) (rs : List Rm), (et ++ [Cell.lst (left.map .str), .lst (names.map .str), .lst (rs.map Rm.pv)])[et.length + 2]? = some (.lst (rs.map Rm.pv)) := fun _ _ => by rw [List.getElem?_append_right (by omega)]; simp
  have dN : ∀ (names : List Str) (rs : List Rm), deref (et ++ [Cell.lst (left.map .str), .lst (names.map .str), .lst (rs.map Rm.pv)]) (.ref (et.length + 1)) = .lst (names.map .str) := fun a b => deref_ref (gN a b)
  have dR : ∀ (names : List Str) (rs : List Rm), deref (et ++ [Cell.lst (left.map .str), .lst (names.map .str), .lst (rs.map Rm.pv)]) (.ref (et.length + 2)) = .lst (rs.map Rm.pv) := fun a b => deref_ref (gR a b)
  have sN : ∀ (names names' : List Str) (rs : List Rm), (et ++ [Cell.lst (left.map .str), .lst (names.map .str), .lst (rs.map Rm.pv)]).set (et.length + 1) (.lst (names'.map .str)) = et ++ [Cell.lst (left.map .str), .lst (names'.map .str), .lst (rs.map Rm.pv)] := fun _ _ _ => by
    rw [List.set_append_right _ _ (by omega)]; simp
  have sR : ∀ (names : List Str) (rs rs' : List Rm), (et ++ [Cell.lst (left.map .str), .lst (names.map .str), .lst (rs.map Rm.pv)]).set (et.length + 2) (.lst (rs'.map Rm.pv)) = et ++ [Cell.lst (left.map .str), .lst (names.map .str), .lst (rs'.map Rm.pv)] := fun _ _ _ => by
    rw [List.set_append_right _ _ (by omega)]; simp
  have hpt : ∀ (names : List Str) (rs : List Rm), Pot r (et ++ [Cell.lst (left.map .str), .lst (names.map .str), .lst (rs.map Rm.pv)]) := fun names rs => by
    have := ((hp.push (c := .lst (left.map .str)) (bels_strs _ left)).push (c := .lst (names.map .str)) (bels_strs _ names)).push (c := .lst (rs.map Rm.pv)) (bels_map (bel_room _) rs)
    simpa using this
  refine ⟨fun k ep et1 => ∃ (names : List Str) (rs : List Rm) (s6 s7 s8 s9 : Mw.Slot), k = names.length ∧ et1 = et ++ [Cell.lst (left.map .str), .lst (names.map .str), .lst (rs.map Rm.pv)] ∧ ep = [.val (.ref r), .val (.int many), .val (.lst (mns.map fun m => .str (mnS m))), .val (.int bm), .val (.ref (et.length + 1)), .val (.ref (et.length + 2)), s6, s7, s8, s9] ∧
    (names ++ rs.map (·.name)).Perm ws ∧ (∀ rm ∈ rs, RoomOk (goalsOf rs) rm) ∧ ∀ rm ∈ rs, RoomIn mns bm rm, ⟨ws.length, ws, [], _, _, _, _, rfl, rfl, rfl, by simp, by simp, by simp⟩, ?_⟩
  rintro k ep et1 ⟨names, rs, s6, s7, s8, s9, rfl, rfl, rfl, pm, hok, hin⟩
  have hln : names.length + rs.length = many := by
    have := pm.length_eq
    rw [List.length_append, List.length_map, hws.len] at this; exact this
  have hnw : ∀ x ∈ names, isWord x = true := fun x hx => hww x (pm.mem_iff.mp (List.mem_append_left _ hx))
  simp! [dN, gNe_words hnw]
  refine ⟨by decide, ?_⟩
  cases hnm : names with
  | nil =>
    subst hnm
    simp only [List.isEmpty_nil, Bool.not_true, Bool.false_eq_true, if_false]
    unfold r__law_rooms_7
    simp!
    have hnd : (rs.map (·.name)).Nodup := (by simpa using pm : (rs.map (·.name)).Perm ws).nodup_iff.mpr hws.nd
    refine ⟨rs.map Rm.pv, rs.map (·.name), dR [] rs, by rw [List.map_map, List.map_map]; rfl, hnd, fun qs ks' pq hk hs => ?_⟩
    obtain ⟨rs', p1, rfl⟩ := perm_of_map pq
    have gt : ∀ l, gTuple [.lst l] = some (.tup l) := fun _ => rfl
    simp! [gt]
    have hkk : ks' = rs'.map (·.name) := by
      have : (rs'.map Rm.pv).map keyT = (rs'.map (·.name)).map some := by rw [List.map_map, List.map_map]; rfl
      rw [this] at hk
      exact (List.map_inj_right (fun x y h => by simpa using h)).mp hk.symm
    have gm : ∀ g ∈ goalsOf rs, g ∈ goalsOf rs' := fun g hg => by
      obtain ⟨rm, h1, h2⟩ := List.mem_flatMap.mp hg
      exact List.mem_flatMap.mpr ⟨rm, p1.mem_iff.mpr h1, h2⟩
    refine hR rs' _ ?_ ⟨by rw [← hkk]; exact hs, (p1.map _).nodup_iff.mpr hnd, fun rm hrm => (hok rm (p1.mem_iff.mp hrm)).mono gm⟩ fun rm hrm => hin rm (p1.mem_iff.mp hrm)
    rw [p1.length_eq]; simp at hln; exact hln
  | cons nm0 nms =>
    rw [← hnm]
    have hne : names.isEmpty = false := by rw [hnm]; rfl
    have hn0 : 0 < names.length := by rw [hnm]; simp
    simp only [hne, Bool.not_false, if_true]
    unfold r__law_rooms_2
    simp!
    refine ⟨by decide, ?_⟩
    unfold r__law_rooms_3
    simp! [dR, itemsP]
    refine ⟨fun i ep et1 => et1 = et ++ [Cell.lst (left.map .str), .lst (names.map .str), .lst (rs.map Rm.pv)] ∧ ∃ s7 s8, ep = [.val (.ref r), .val (.int many), .val (.lst (mns.map fun m => .str (mnS m))), .val (.int bm), .val (.ref (et.length + 1)), .val (.ref (et.length + 2)), .own (.lst ((goalsOf (rs.take i)).map goalPV)), s7, s8, s9], ⟨rfl, _, _, rfl⟩, ?_⟩
    rintro i ep et1 ⟨rfl, t7, t8, rfl⟩
    refine ⟨by simp only [List.map_cons, List.map_nil, dR], fun p hpi => ⟨_, rfl, ?_⟩, fun e => ?_⟩
    · rw [List.getElem?_map] at hpi
      obtain ⟨rm, hrm, rfl⟩ : ∃ rm, rs[i]? = some rm ∧ p = rm.pv := by
        cases e : rs[i]? with
        | none => rw [e] at hpi; cases hpi
        | some c => rw [e] at hpi; cases hpi; exact ⟨c, rfl, rfl⟩
      have hmem := List.mem_of_getElem? hrm
      have ro := hok rm hmem
      unfold r__law_rooms_4
      simp! [Rm.pv, itemsP]
      refine lc_map deedPV (fun d => goalPV (rm.name, d.1)) rfl (by have := ro.dl; omega) (fun d hd' => ⟨_, rfl, fun Q hQ => ?_⟩) ?_
      · simp! [deedPV]
        exact ⟨by decide, hQ⟩
      · have eg : goalsOf (rs.take (i + 1)) = goalsOf (rs.take i) ++ rm.goals := by
          unfold goalsOf
          rw [List.take_succ, hrm, List.flatMap_append]; simp
        have hgl : (goalsOf (rs.take (i + 1))).length ≤ 100 := by
          have h1 := goals_len (gs := goalsOf rs) (rs := rs.take (i + 1)) fun x hx => hok x (List.mem_of_mem_take hx)
          have h2 : (rs.take (i + 1)).length ≤ rs.length := by rw [List.length_take]; omega
          omega
        rw [eg, List.length_append] at hgl
        have hgm : (rm.deeds.map fun d => goalPV (rm.name, d.1)) = rm.goals.map goalPV := by unfold Rm.goals; rw [List.map_map]; rfl
        rw [hgm]
        have ext : ∀ d', d' (.lst (rm.goals.map goalPV)) = .lst (rm.goals.map goalPV) → gmExtend d' (.lst ((goalsOf (rs.take i)).map goalPV)) [.lst (rm.goals.map goalPV)] = some (.lst ((goalsOf (rs.take (i + 1))).map goalPV), .non) := fun d' hd' => by
          unfold gmExtend
          simp only [hd']
          rw [if_pos (by rw [List.length_map, List.length_map]; omega), eg, List.map_append]
        exact ⟨_, _, ext _ rfl, rfl, _, _, rfl⟩
    · have hi2 : i = rs.length := by rw [e, List.length_map]
      subst hi2
      rw [List.take_length]
      unfold r__law_rooms_5
      have hg : gLen [.lst (names.map .str)] = some (.int names.length) := by show some (PV.int ((names.map PV.str).length : Int)) = _; rw [List.length_map]
      simp! [dN, hg]
      refine tk (hpt names rs).1 (by omega) (by omega) fun d d0 d1 => ?_
      obtain ⟨j, rfl⟩ : ∃ j : Nat, d = (j : Int) := ⟨d.toNat, by omega⟩
      have hj : j < names.length := by omega
      have hix : ixN (names.map PV.str).length (j : Int) = some j := by unfold ixN; rw [List.length_map, if_pos (by omega), if_pos (by omega)]; simp
      have hpop : ∀ d', gmPopAt d' (.lst (names.map .str)) [.int j] = some (.lst ((names.eraseIdx j).map .str), .str names[j]) := fun d' => by
        unfold gmPopAt
        simp only
        rw [if_pos ⟨by omega, by omega⟩, hix]
        simp [List.getElem?_eq_getElem hj, er_map]
      refine ⟨_, _, _, by rw [dN]; exact hpop _, by rw [dN], rfl, ?_⟩
      rw [sN]
      unfold r__law_rooms_6
      simp! [dR]
      have hx : names[j] ∈ names := List.getElem_mem hj
      have hgl := goals_len hok
      refine ⟨r, bm, names[j], goalsOf rs, mns, rfl, hpt _ _, hnw _ hx, okG_of hok, by omega, hm0, hml, hbm, fun rm k1 k2 k3 k4 => ?_⟩
      have app : ∀ d', gmAppend d' (.lst (rs.map Rm.pv)) [rm.pv] = some (.lst ((rs ++ [rm]).map Rm.pv), .non) := fun d' => by
        show (if (rs.map Rm.pv).length < sizeLine then some (PV.lst (rs.map Rm.pv ++ [rm.pv]), PV.non) else none) = _
        rw [if_pos (by rw [List.length_map]; omega), List.map_append]; rfl
      refine ⟨_, _, _, by rw [dR]; exact app _, by rw [dR], rfl, ?_⟩
      rw [sR]
      have hel : (names.eraseIdx j).length + 1 = names.length := by rw [List.length_eraseIdx, if_pos hj]; omega
      have gsub : ∀ g ∈ goalsOf rs, g ∈ goalsOf (rs ++ [rm]) := fun g hg => by unfold goalsOf at *; rw [List.flatMap_append]; exact List.mem_append_left _ hg
      refine ⟨_, by omega, names.eraseIdx j, rs ++ [rm], _, _, _, _, rfl, rfl, rfl, ?_, fun x hx => ?_, fun x hx => ?_⟩
      · refine List.Perm.trans ?_ pm
        rw [List.map_append, ← List.append_assoc]
        have e1 : (names ++ rs.map (·.name)).Perm ((names[j] :: names.eraseIdx j) ++ rs.map (·.name)) := (er_perm hj).append_right _
        refine List.Perm.trans ?_ e1.symm
        rw [show [rm].map (·.name) = [names[j]] by simp [k1]]
        exact List.perm_append_singleton _ _
      · rcases List.mem_append.mp hx with hx | hx
        · exact (hok x hx).mono gsub
        · rw [List.mem_singleton.mp hx]; exact k2.mono gsub
      · rcases List.mem_append.mp hx with hx | hx
        · exact hin x hx
        · rw [List.mem_singleton.mp hx]; exact ⟨k3, k4⟩
def spOwn : FSpec := fun args et R => ∃ (r most : Nat) (ws ps : List Str) (gs : List (Str × Str)), args = [.ref r, .lst (gs.map goalPV), .lst (ws.map .str), .lst (ps.map .str), .int most] ∧ Pot r et ∧ 0 < most ∧ most ≤ 10 ∧
  (∀ x ∈ ws, isWord x = true) ∧ (∀ x ∈ ps, isWord x = true) ∧ okG gs ∧ ws.length < 100 ∧ ps.length < 100 ∧ gs.length < 1000 ∧
  ∀ rows : List Row, 1 ≤ rows.length → rows.length ≤ 30 → (∀ row ∈ rows, row.okH ws ps gs rows.length) → R (.tup (rows.map Row.pv)) et
abbrev Hand := List (Str × Int) × List Row
def handPV (h : Hand) : PV := .tup [.tup (h.1.map pairPV), progPV h.2]
structure Wld where
  rooms : List Rm
  passes : List (Str × Int)
  shared : List (Str × Int)
  hands : List Hand
def Wld.pv (w : Wld) : PV := .tup [.tup (w.rooms.map Rm.pv), .tup (w.passes.map pairPV), .tup (w.shared.map pairPV), .tup (w.hands.map handPV)]
abbrev nm (ps : List (Str × Int)) : List Str := ps.map (·.1)
structure PairsOk (ps : List (Str × Int)) : Prop where
  w : ∀ x ∈ nm ps, isWord x = true
  n : (nm ps).Nodup
  v : ∀ p ∈ ps, 0 ≤ p.2 ∧ p.2 ≤ 9
  l : ps.length ≤ 6
structure HandOk (gs : List (Str × Str)) (sh ps : List Str) (h : Hand) : Prop where
  own : PairsOk h.1
  l1 : 1 ≤ h.2.length
  l2 : h.2.length ≤ 30
  rows : ∀ row ∈ h.2, row.okH (nm h.1 ++ sh) ps gs h.2.length
structure WorldOk (w : Wld) : Prop where
  rooms : RoomsOk w.rooms
  rl : w.rooms.length ≤ 6
  bl : ∀ rm ∈ w.rooms, rm.bells.length ≤ 5
  passes : PairsOk w.passes
  shared : PairsOk w.shared
  hands : ∀ h ∈ w.hands, HandOk (goalsOf w.rooms) (nm w.shared) (nm w.passes) h
  h0 : w.hands ≠ []
  hl : w.hands.length ≤ 10
theorem WordsOf.pairs {stem : Str} {n : Nat} {ws : List Str} (h : WordsOf stem n ws) (hs : stem = "" ∨ stem = "p" ∨ stem = "o") (hn : n ≤ 6) {ps : List (Str × Int)} (e : ps.map (·.1) = ws) (hv : ∀ p ∈ ps, 0 ≤ p.2 ∧ p.2 ≤ 9) : PairsOk ps := by
  refine ⟨?_, ?_, hv, ?_⟩
  · show ∀ x ∈ ps.map (·.1), _; rw [e]; exact h.words hs
  · show (ps.map (·.1)).Nodup; rw [e]; exact h.nd
  · have : ps.length = ws.length := by rw [← e, List.length_map]
    rw [this, h.len]; exact hn
def spWorld : FSpec := fun args et R => ∃ (r many pm : Nat) (rs : List Rm), args = [.ref r, .tup (rs.map Rm.pv), .int many, .int pm] ∧ Pot r et ∧ RoomsOk rs ∧ rs.length ≤ 6 ∧ (∀ rm ∈ rs, rm.bells.length ≤ 5) ∧ 0 < many ∧ many ≤ 10 ∧ pm ≤ 5 ∧
  ∀ w : Wld, w.rooms = rs → w.hands.length = many → w.passes.length ≤ pm → WorldOk w → R w.pv et
theorem world_ok (args : List PV) (et : Hi) (R : PV → Hi → Prop) (h : spWorld args et R) : r__law_world spWords spTk spOwn (env0 N__law_world args) et (retK R) := by
  obtain ⟨r, many, pm, rs, rfl, hp, hrs, hrl, hrb, hm0, hm1, hpm, hR⟩ := h
  show r__law_world _ _ _ [.val (.ref r), .val (.tup (rs.map Rm.pv)), .val (.int many), .val (.int pm), .no, .no, .no, .no, .no, .no, .no, .no, .no, .no, .no] et (retK R)
  have big : (2000 : Nat) ≤ sizeLine := by decide
  unfold r__law_world
  simp!
  refine ⟨by decide, ?_⟩
  unfold r__law_world_0
  simp! [itemsP]
  refine ⟨fun i ep et1 => et1 = et ∧ ∃ s5 s6, ep = [.val (.ref r), .val (.tup (rs.map Rm.pv)), .val (.int many), .val (.int pm), .own (.lst ((goalsOf (rs.take i)).map goalPV)), s5, s6, .no, .no, .no, .no, .no, .no, .no, .no], ⟨rfl, _, _, rfl⟩, ?_⟩
  rintro i ep et1 ⟨rfl, t5, t6, rfl⟩
  refine ⟨rfl, fun p hpi => ⟨_, rfl, ?_⟩, fun e => ?_⟩
  · rw [List.getElem?_map] at hpi
    obtain ⟨rm, hrm, rfl⟩ : ∃ rm, rs[i]? = some rm ∧ p = rm.pv := by
      cases e : rs[i]? with
      | none => rw [e] at hpi; cases hpi
      | some c => rw [e] at hpi; cases hpi; exact ⟨c, rfl, rfl⟩
    have hmem := List.mem_of_getElem? hrm
    have ro := hrs.ok rm hmem
    unfold r__law_world_1
    simp! [Rm.pv, itemsP]
    refine lc_map deedPV (fun d => goalPV (rm.name, d.1)) rfl (by have := ro.dl; omega) (fun d hd' => ⟨_, rfl, fun Q hQ => ?_⟩) ?_
    · simp! [deedPV]
      exact ⟨by decide, hQ⟩
    · have eg : goalsOf (rs.take (i + 1)) = goalsOf (rs.take i) ++ rm.goals := by
        unfold goalsOf
        rw [List.take_succ, hrm, List.flatMap_append]; simp
      have hgl : (goalsOf (rs.take (i + 1))).length ≤ 100 := by
        have h1 := goals_len (gs := goalsOf rs) (rs := rs.take (i + 1)) fun x hx => hrs.ok x (List.mem_of_mem_take hx)
        have h2 : (rs.take (i + 1)).length ≤ rs.length := by rw [List.length_take]; omega
        omega
      rw [eg, List.length_append] at hgl
      have hgm : (rm.deeds.map fun d => goalPV (rm.name, d.1)) = rm.goals.map goalPV := by unfold Rm.goals; rw [List.map_map]; rfl
      rw [hgm]
      have ext : ∀ d', d' (.lst (rm.goals.map goalPV)) = .lst (rm.goals.map goalPV) → gmExtend d' (.lst ((goalsOf (rs.take i)).map goalPV)) [.lst (rm.goals.map goalPV)] = some (.lst ((goalsOf (rs.take (i + 1))).map goalPV), .non) := fun d' hd' => by
        unfold gmExtend
        simp only [hd']
        rw [if_pos (by rw [List.length_map, List.length_map]; omega), eg, List.map_append]
      exact ⟨_, _, ext _ rfl, rfl, _, _, rfl⟩
  · have hi2 : i = rs.length := by rw [e, List.length_map]
    subst hi2
    rw [List.take_length]
    have hG := okG_of hrs.ok
    have hGl := goals_len hrs.ok
    generalize hgs : goalsOf rs = gs at hG hGl
    unfold r__law_world_2
    simp!
    refine tk hp.1 (by omega) (by omega) fun d d0 d1 => ?_
    refine ⟨r, "p", d.toNat, by rw [Int.toNat_of_nonneg d0], hp, by omega, by decide, fun ps hps => ?_⟩
    have hpw := hps.words (.inr (.inl rfl))
    have hpl : ps.length ≤ pm := by rw [hps.len]; omega
    unfold r__law_world_3
    simp!
    refine ⟨by decide, tk hp.1 (by decide) (by decide) fun d3 f0 f1 => ?_⟩
    obtain ⟨k, hk, e3⟩ := atI_draw (xs := [.int 0, .int 0, .int 1, .int 2]) [0, 0, 1, 2] rfl f0 (by simpa using f1)
    have hk2 : k ≤ 2 := by simp at hk; omega
    simp! [e3]
    refine ⟨r, "o", k, rfl, hp, by omega, by decide, fun sh hsh => ?_⟩
    have hsw := hsh.words (.inr (.inr rfl))
    have hsl : sh.length ≤ 2 := by rw [hsh.len]; omega
    unfold r__law_world_4
    simp!
    refine ⟨by decide, ?_⟩
    unfold r__law_world_5
    simp!
    refine ⟨many, rfl, by omega, by omega, ?_⟩
    rw [Int.toNat_natCast]
    refine ⟨fun i ep et2 => et2 = et1 ∧ ∃ (hs : List Hand) (s4 s5 s6 s10 s11 s12 s13 : Mw.Slot), ep = [.val (.ref r), .val (.tup (rs.map Rm.pv)), .val (.int many), .val (.int pm), s4, s5, s6, .val (.lst (ps.map .str)), .val (.lst (sh.map .str)), .own (.lst (hs.map handPV)), s10, s11, s12, s13, .no] ∧ (s4 = .own (.lst (gs.map goalPV)) ∨ s4 = .val (.lst (gs.map goalPV))) ∧
      hs.length = i ∧ i ≤ many ∧ ∀ h ∈ hs, HandOk gs sh ps h, ⟨rfl, [], _, _, _, _, _, _, _, rfl, .inl rfl, rfl, Nat.zero_le _, by simp⟩, ?_⟩
    rintro i ep et1 ⟨rfl, hs, s4, s5, s6, s10, s11, s12, s13, rfl, h4, hhl, him, hho⟩
    refine ⟨rfl, fun p hpi => ⟨_, rfl, ?_⟩, fun e => ?_⟩
    · have hi : i < many := by
        have := (List.getElem?_eq_some_iff.mp hpi).1
        simpa [rng] using this
      unfold r__law_world_6
      simp!
      refine ⟨by decide, tk hp.1 (by decide) (by decide) fun d4 g0 g1 => ?_⟩
      obtain ⟨k4, hk4, e4⟩ := atI_draw (xs := [.int 0, .int 1, .int 1, .int 2]) [0, 1, 1, 2] rfl g0 (by simpa using g1)
      have hk42 : k4 ≤ 2 := by simp at hk4; omega
      simp! [e4]
      refine ⟨r, "", k4, rfl, hp, by omega, by decide, fun ws hws => ?_⟩
      have hww := hws.words (.inl rfl)
      have hwl : ws.length ≤ 2 := by rw [hws.len]; omega
      unfold r__law_world_7
      have frz : frzS [Mw.Slot.val (.ref r), .val (.tup (rs.map Rm.pv)), .val (.int many), .val (.int pm), s4, s5, s6, .val (.lst (ps.map .str)), .val (.lst (sh.map .str)), .own (.lst (hs.map handPV)), .val p, .val (.lst (ws.map .str)), s12, s13, .no] 4 =
          [.val (.ref r), .val (.tup (rs.map Rm.pv)), .val (.int many), .val (.int pm), .val (.lst (gs.map goalPV)), s5, s6, .val (.lst (ps.map .str)), .val (.lst (sh.map .str)), .own (.lst (hs.map handPV)), .val p, .val (.lst (ws.map .str)), s12, s13, .no] := by
        rcases h4 with rfl | rfl <;> rfl
      have ec : gAdd (.lst (ws.map .str)) (.lst (sh.map .str)) = some (.lst ((ws ++ sh).map .str)) := by
        show (if (ws.map PV.str).length + (sh.map PV.str).length ≤ sizeLine then some (PV.lst (ws.map .str ++ sh.map .str)) else none) = _
        rw [if_pos (by rw [List.length_map, List.length_map]; omega), List.map_append]
      show (mSeq (mFrz [4] _) _) _ _ _
      unfold mSeq mFrz
      simp only [List.foldl_cons, List.foldl_nil]
      rw [frz]
      simp only [mSet, mCall, mCons, mNil, mVar, mBin, mPeek, mC, slotV, List.getElem?_cons_zero, List.getElem?_cons_succ, Option.some.injEq, Slot.val.injEq, exists_eq_left', deref_lst, ec, List.length_cons, List.length_nil, true_and, List.set_cons_zero, List.set_cons_succ]
      refine ⟨r, 4, ws ++ sh, ps, gs, rfl, hp, by decide, by decide, fun x hx => ?_, hpw, hG, by simp; omega, by omega, by omega, fun rows l1 l2 hrows => ?_⟩
      · rcases List.mem_append.mp hx with hx | hx
        · exact hww x hx
        · exact hsw x hx
      unfold r__law_world_8
      simp! [itemsP]
      refine lc_key PV.str pairPV (·.1) (fun p => 0 ≤ p.2 ∧ p.2 ≤ 9) rfl (by omega) (fun b hb' => ⟨_, rfl, fun Q hQ => ?_⟩) fun own hok hov => ?_
      · simp!
        refine tk hp.1 (by decide) (by decide) fun d2 e0 e1 => ?_
        exact ⟨by decide, hQ (b, d2) rfl ⟨e0, by omega⟩⟩
      · have gt : ∀ l, gTuple [.lst l] = some (.tup l) := fun _ => rfl
        simp! [gt]
        have app : ∀ d', gmAppend d' (.lst (hs.map handPV)) [.tup [.tup (own.map pairPV), .tup (rows.map Row.pv)]] = some (.lst ((hs ++ [(own, rows)]).map handPV), .non) := fun d' => by
          show (if (hs.map handPV).length < sizeLine then some (PV.lst (hs.map handPV ++ [handPV (own, rows)]), PV.non) else none) = _
          rw [if_pos (by rw [List.length_map]; omega), List.map_append]; rfl
        refine ⟨by decide, _, _, app _, hs ++ [(own, rows)], _, _, _, _, _, _, _, rfl, .inr rfl, by simp [hhl], hi, fun h hh => ?_⟩
        rcases List.mem_append.mp hh with hh | hh
        · exact hho h hh
        · rw [List.mem_singleton.mp hh]
          refine ⟨hws.pairs (.inl rfl) (by omega) hok hov, l1, l2, ?_⟩
          show ∀ row ∈ rows, row.okH (own.map (·.1) ++ sh) ps gs rows.length
          rw [hok]; exact hrows
    · have hm : i = many := by rw [e]; simp [rng]
      subst hm
      unfold r__law_world_9
      simp! [itemsP]
      refine lc_key PV.str pairPV (·.1) (fun p => 0 ≤ p.2 ∧ p.2 ≤ 9) rfl (by omega) (fun b hb' => ⟨_, rfl, fun Q hQ => ?_⟩) fun counted hck hcv => ?_
      · simp!
        refine tk hp.1 (by decide) (by decide) fun d2 e0 e1 => ?_
        exact ⟨by decide, hQ (b, d2) rfl ⟨e0, by omega⟩⟩
      · have gt : ∀ l, gTuple [.lst l] = some (.tup l) := fun _ => rfl
        simp! [gt]
        unfold r__law_world_10
        simp! [itemsP]
        refine lc_key PV.str pairPV (·.1) (fun p => 0 ≤ p.2 ∧ p.2 ≤ 9) rfl (by omega) (fun b hb' => ⟨_, rfl, fun Q hQ => ?_⟩) fun shared hsk hsv => ?_
        · simp!
          refine tk hp.1 (by decide) (by decide) fun d2 e0 e1 => ?_
          exact ⟨by decide, hQ (b, d2) rfl ⟨e0, by omega⟩⟩
        · simp! [gt]
          refine ⟨by decide, ?_⟩
          have cl : counted.length = ps.length := by rw [← hck, List.length_map]
          refine hR ⟨rs, counted, shared, hs⟩ rfl hhl (by show counted.length ≤ pm; omega) ⟨hrs, hrl, hrb, hps.pairs (.inr (.inl rfl)) (by omega) hck hcv, hsh.pairs (.inr (.inr rfl)) (by omega) hsk hsv, ?_, ?_, by show hs.length ≤ 10; omega⟩
          · show ∀ h ∈ hs, HandOk (goalsOf rs) (shared.map (·.1)) (counted.map (·.1)) h
            rw [hsk, hck, hgs]; exact hho
          · intro z
            have z' : hs = [] := z
            rw [z'] at hhl; simp at hhl; omega
def okPot (args : List PV) : Prop := ∃ (ns : List Int) (k : Nat), args = [.scr ns, .int k] ∧ k ≤ 1000
end Cw
namespace Sc
open PySem L2 Mw Lw Cw
abbrev k_NOBODY : PV := .int (-1)
def r_room_begun_0 (S_first_values : FSpec) : SM := (mRet (mTup (mCons (mCall 1 S_first_values (mCons (mVar 3) mNil)) (mCons (mC k_NOBODY) (mCons (mTup mNil) (mCons (mTup mNil) (mCons (mBin gRepT (mTup (mCons (mTup mNil) mNil)) (mArg gLen (mCons (mPeek 4) mNil))) mNil)))))))
def r_room_begun (S_first_values : FSpec) : SM := (mSeq (mAsg (tgT [(tgN 1), (tgN 2), (tgN 3), (tgN 4), (tgN 5)]) (mVar 0)) (r_room_begun_0 S_first_values))
abbrev N_room_begun : List Str := ["room", "name", "manner", "things", "bells", "deeds"]
structure RoomS where
  vals : List Int
  inside : Int
  line : List Int
  late : List Int
  rows : List (List (Int × Int))
structure FrameS where
  room : Int
  deed : Int
  row : Int
  given : Int
  answer : Int
abbrev PassS := Int × List Int
abbrev HandN := List Int × List FrameS
structure Scene where
  rooms : List RoomS
  passes : List PassS
  shared : List Int
  hands : List HandN
def intsPV (l : List Int) : PV := .tup (l.map .int)
def waitPV (p : Int × Int) : PV := .tup [.int p.1, .int p.2]
def rowPV (q : List (Int × Int)) : PV := .tup (q.map waitPV)
def RoomS.pv (r : RoomS) : PV := .tup [intsPV r.vals, .int r.inside, intsPV r.line, intsPV r.late, .tup (r.rows.map rowPV)]
def FrameS.pv (f : FrameS) : PV := .tup [.int f.room, .int f.deed, .int f.row, .int f.given, .int f.answer]
def passPV (p : PassS) : PV := .tup [.int p.1, intsPV p.2]
def handNPV (h : HandN) : PV := .tup [intsPV h.1, .tup (h.2.map FrameS.pv)]
def Scene.pv (s : Scene) : PV := .tup [.tup (s.rooms.map RoomS.pv), .tup (s.passes.map passPV), intsPV s.shared, .tup (s.hands.map handNPV)]
abbrev vals (ps : List (Str × Int)) : List Int := ps.map (·.2)
def ownFrame : FrameS := ⟨-1, -1, 0, 0, 0⟩
def roomBegun (r : Rm) : RoomS := ⟨vals r.things, -1, [], [], r.bells.map fun _ => []⟩
def begun (w : Wld) : Scene := ⟨w.rooms.map roomBegun, w.passes.map fun p => (p.2, []), vals w.shared, w.hands.map fun h => (vals h.1, [ownFrame])⟩
def spFirst : FSpec := fun args et R => ∃ ps : List (Str × Int), args = [.tup (ps.map pairPV)] ∧ ps.length ≤ 1000 ∧ R (intsPV (vals ps)) et
theorem rep_one {α : Type} (n : Nat) (x : α) : (List.replicate n [x]).flatten = List.replicate n x := by
  induction n with
  | zero => rfl
  | succ n ih => rw [List.replicate_succ, List.flatten_cons, ih, List.replicate_succ]; rfl
theorem map_const {α β : Type} (l : List α) (y : β) : l.map (fun _ => y) = List.replicate l.length y := by
  induction l with
  | nil => rfl
  | cons x l ih => rw [List.map_cons, ih, List.length_cons, List.replicate_succ]
def spRoomB : FSpec := fun args et R => ∃ r : Rm, args = [r.pv] ∧ r.things.length ≤ 1000 ∧ r.bells.length ≤ 1000 ∧ R (roomBegun r).pv et
theorem room_ok (args : List PV) (et : Hi) (R : PV → Hi → Prop) (h : spRoomB args et R) : r_room_begun spFirst (env0 N_room_begun args) et (retK R) := by
  obtain ⟨r, rfl, h1, h2, hR⟩ := h
  show r_room_begun _ [.val r.pv, .no, .no, .no, .no, .no] et (retK R)
  unfold r_room_begun
  simp! [Rm.pv]
  refine ⟨_, rfl, ?_⟩
  unfold r_room_begun_0
  have hg : gLen [.tup (r.bells.map bellPV)] = some (.int r.bells.length) := by show some (PV.int ((r.bells.map bellPV).length : Int)) = _; rw [List.length_map]
  have hrep : gRepT (.tup [.tup []]) (.int r.bells.length) = some (.tup ((r.bells.map fun _ => ([] : List (Int × Int))).map rowPV)) := by
    show (if [PV.tup []].isEmpty = false ∧ 0 ≤ (r.bells.length : Int) ∧ (r.bells.length : Int) ≤ 1000 ∧ [PV.tup []].length ≤ 1000 then some (PV.tup (List.replicate (r.bells.length : Int).toNat [PV.tup []]).flatten) else none) = _
    rw [if_pos ⟨rfl, by omega, by omega, by decide⟩, rep_one, List.map_map, Int.toNat_natCast]
    rw [show ((rowPV ∘ fun _ => []) : Str × Bool → PV) = fun _ => PV.tup [] from rfl, map_const]
  simp!
  refine ⟨r.things, rfl, h1, ?_⟩
  simp! [hg, hrep]
  refine ⟨by decide, by decide, by decide, by decide, by decide, ?_⟩
  exact hR
end Sc
namespace Sa
open PySem L2 Mw Lw Cw Sc
def plain : Nat → PV → Bool
  | _ + 1, .int _ => true
  | _ + 1, .str _ => true
  | _ + 1, .non => true
  | n + 1, .tup xs => decide (xs.length ≤ 1000) && xs.all (plain n)
  | _, _ => false
end Sa
namespace St
open PySem L2 Mw Lw Cw Sc
abbrev k_NOBODY : PV := .int (-1)
def r_program_of_0 : SM := (mRet (mBin gIx (mBin gIx (mBin gIx (mPeek 0) (mC (.int 3))) (mPeek 1)) (mC (.int 1))))
def r_program_of_1 : SM := (mRet (mBin gIx (mBin gIx (mBin gIx (mBin gIx (mBin gIx (mPeek 0) (mC (.int 0))) (mBin gIx (mPeek 2) (mC (.int 0)))) (mC (.int 4))) (mBin gIx (mPeek 2) (mC (.int 1)))) (mC (.int 1))))
def r_program_of : SM := (mSeq (mIf (mBinT gEq (mBin gIx (mPeek 2) (mC (.int 0))) (mC k_NOBODY)) (r_program_of_0) mNext) (r_program_of_1))
abbrev N_program_of : List Str := ["world", "hand", "frame"]
def progOf (w : Wld) (h : Nat) (f : FrameS) : List Row :=
  if f.room = -1 then ((w.hands[h]?).map (·.2)).getD [] else (((w.rooms[f.room.toNat]?).bind fun r => r.deeds[f.deed.toNat]?).map (·.2)).getD []
def FrameIn (w : Wld) (h : Nat) (f : FrameS) : Prop :=
  (f.room = -1 ∧ h < w.hands.length) ∨ ∃ (ri di : Nat) (rm : Rm) (d : Deed), f.room = ri ∧ w.rooms[ri]? = some rm ∧ f.deed = di ∧ rm.deeds[di]? = some d
theorem atI_map {α : Type} {f : α → PV} {l : List α} {n : Nat} {x : α} (h : l[n]? = some x) : atI (l.map f) (n : Int) = some (f x) := atI_nat (by rw [List.getElem?_map, h]; rfl)
def spProg : FSpec := fun args et R => ∃ (w : Wld) (h : Nat) (f : FrameS), args = [w.pv, .int h, f.pv] ∧ FrameIn w h f ∧ R (progPV (progOf w h f)) et
theorem prog_ok (args : List PV) (et : Hi) (R : PV → Hi → Prop) (h : spProg args et R) : r_program_of (env0 N_program_of args) et (retK R) := by
  obtain ⟨w, h, f, rfl, hf, hR⟩ := h
  show r_program_of [.val w.pv, .val (.int h), .val f.pv] et (retK R)
  unfold r_program_of
  simp! [FrameS.pv]
  rcases hf with ⟨h1, h2⟩ | ⟨ri, di, rm, d, h1, h2, h3, h4⟩
  · have e1 : decide (f.room = -1) = true := decide_eq_true h1
    simp only [e1, if_true]
    unfold r_program_of_0
    have eh := List.getElem?_eq_getElem h2
    simp! [Wld.pv, atI_map (f := handPV) eh, handPV]
    have : progOf w h f = (w.hands[h]).2 := by unfold progOf; rw [if_pos h1, eh]; rfl
    rw [this] at hR
    exact hR
  · have h10 : f.room ≠ -1 := by omega
    have e1 : decide (f.room = -1) = false := decide_eq_false h10
    simp only [e1, Bool.false_eq_true, if_false]
    unfold r_program_of_1
    simp! [Wld.pv, h1, h3, atI_map (f := Rm.pv) h2, Rm.pv, atI_map (f := deedPV) h4, deedPV]
    have : progOf w h f = d.2 := by
      unfold progOf
      rw [if_neg h10, h1, h3, Int.toNat_natCast, Int.toNat_natCast, h2]
      simp [h4]
    rw [this] at hR
    exact hR
inductive Stand where
  | pass (n : Str) | row (n : Str) | late (n : Str) | bell (r b : Str) | done | out | within (n : Str) | called (n : Str)
  deriving DecidableEq
def Stand.pv : Stand → PV
  | .pass n => .tup [.str "pass", .str n]
  | .row n => .tup [.str "row", .str n]
  | .late n => .tup [.str "late", .str n]
  | .bell r b => .tup [.str "bell", .str r, .str b]
  | .done => .tup [.str "done"]
  | .out => .tup [.str "out"]
  | .within n => .tup [.str "within", .str n]
  | .called n => .tup [.str "called", .str n]
def atPass1 (h : Int) (z : (Str × Int) × PassS) : Option Stand := if h ∈ z.2.2 then some (.pass z.1.1) else none
def atPass (w : Wld) (s : Scene) (h : Int) : Option Stand := (w.passes.zip s.passes).findSome? (atPass1 h)
def atBell1 (r : Str) (h : Int) (z : (Str × Bool) × List (Int × Int)) : Option Stand := if h ∈ z.2.map (·.2) then some (.bell r z.1.1) else none
def atBell (r : Rm) (q : RoomS) (h : Int) : Option Stand := (r.bells.zip q.rows).findSome? (atBell1 r.name h)
def atRoom1 (h : Int) (z : Rm × RoomS) : Option Stand := if h ∈ z.2.line then some (.row z.1.name) else if h ∈ z.2.late then some (.late z.1.name) else atBell z.1 z.2 h
def atRoom (w : Wld) (s : Scene) (h : Int) : Option Stand := (w.rooms.zip s.rooms).findSome? (atRoom1 h)
def lastF (s : Scene) (h : Nat) : FrameS := (((s.hands[h]?).map (·.2)).bind (·.getLast?)).getD ownFrame
def roomName (w : Wld) (i : Int) : Str := ((w.rooms[i.toNat]?).map (·.name)).getD ""
def insideOf (s : Scene) (i : Int) : Int := ((s.rooms[i.toNat]?).map (·.inside)).getD (-1)
def free (w : Wld) (s : Scene) (h : Nat) : Stand :=
  if (lastF s h).room = -1 then (if (lastF s h).row = (progOf w h (lastF s h)).length then .done else .out)
  else if insideOf s (lastF s h).room = h then .within (roomName w (lastF s h).room) else .called (roomName w (lastF s h).room)
def stand (w : Wld) (s : Scene) (h : Nat) : Stand := ((atPass w s h).or (atRoom w s h)).getD (free w s h)
end St
namespace Fl
open PySem L2 Mw Lw Cw Sc St Vl
abbrev k_NOBODY : PV := .int (-1)
inductive Ro where
  | floor | rooms | room (i : Nat) | vals (i : Nat) | line (i : Nat) | late (i : Nat) | rws (i : Nat) | rw (i j : Nat)
  | passes | pass (i : Nat) | pline (i : Nat) | shared | hands | hand (i : Nat) | cont (i : Nat) | frames (i : Nat) | frame (i j : Nat)
  deriving DecidableEq
def roomFs (ad : Ro → Nat) (i : Nat) (x : Int) : List (Str × PV) := [("contents", .ref (ad (.vals i))), ("inside", .int x), ("line", .ref (ad (.line i))), ("late_ones", .ref (ad (.late i))), ("waiting_rows", .ref (ad (.rws i)))]
def passFs (ad : Ro → Nat) (i : Nat) (x : Int) : List (Str × PV) := [("on_hand", .int x), ("line", .ref (ad (.pline i)))]
def frameFs (f : FrameS) : List (Str × PV) := [("room", .int f.room), ("deed", .int f.deed), ("row", .int f.row), ("given", .int f.given), ("answer", .int f.answer)]
def handFs (ad : Ro → Nat) (i : Nat) : List (Str × PV) := [("contents", .ref (ad (.cont i))), ("frames", .ref (ad (.frames i)))]
def floorFs (ad : Ro → Nat) (w : Wld) : List (Str × PV) := [("world", w.pv), ("rooms", .ref (ad .rooms)), ("passes", .ref (ad .passes)), ("shared", .ref (ad .shared)), ("hands", .ref (ad .hands))]
def intsC (l : List Int) : Cell := .lst (l.map .int)
def refsC (n : Nat) (f : Nat → Nat) : Cell := .lst ((List.range n).map fun i => .ref (f i))
def cellOf (ad : Ro → Nat) (w : Wld) (s : Scene) : Ro → Option Cell
  | .floor => some (.ins "Floor" (floorFs ad w))
  | .rooms => some (refsC s.rooms.length fun i => ad (.room i))
  | .room i => s.rooms[i]?.map fun r => .ins "RoomNow" (roomFs ad i r.inside)
  | .vals i => s.rooms[i]?.map fun r => intsC r.vals
  | .line i => s.rooms[i]?.map fun r => intsC r.line
  | .late i => s.rooms[i]?.map fun r => intsC r.late
  | .rws i => s.rooms[i]?.map fun r => refsC r.rows.length fun j => ad (.rw i j)
  | .rw i j => (s.rooms[i]?.bind fun r => r.rows[j]?).map fun q => .lst (q.map waitPV)
  | .passes => some (refsC s.passes.length fun i => ad (.pass i))
  | .pass i => s.passes[i]?.map fun p => .ins "PassNow" (passFs ad i p.1)
  | .pline i => s.passes[i]?.map fun p => intsC p.2
  | .shared => some (intsC s.shared)
  | .hands => some (refsC s.hands.length fun i => ad (.hand i))
  | .hand i => s.hands[i]?.map fun _ => .ins "HandNow" (handFs ad i)
  | .cont i => s.hands[i]?.map fun h => intsC h.1
  | .frames i => s.hands[i]?.map fun h => refsC h.2.length fun j => ad (.frame i j)
  | .frame i j => (s.hands[i]?.bind fun h => h.2[j]?).map fun f => .ins "Frame" (frameFs f)
structure FloorAt (et : Hi) (n0 : Nat) (ad : Ro → Nat) (w : Wld) (s : Scene) : Prop where
  at_ : ∀ r c, cellOf ad w s r = some c → et[ad r]? = some c
  inj : ∀ r r', (cellOf ad w s r).isSome = true → (cellOf ad w s r').isSome = true → ad r = ad r' → r = r'
  lo : ∀ r, (cellOf ad w s r).isSome = true → n0 ≤ ad r
def Beside (et et' : Hi) (ad : Ro → Nat) (w : Wld) (s : Scene) : Prop :=
  et.length ≤ et'.length ∧ ∀ b c, et[b]? = some c → (∀ r, (cellOf ad w s r).isSome = true → b ≠ ad r) → et'[b]? = some c
theorem Beside.refl (et : Hi) (ad : Ro → Nat) (w : Wld) (s : Scene) : Beside et et ad w s := ⟨Nat.le_refl _, fun _ _ h _ => h⟩
theorem FloorAt.upd {et : Hi} {n0 : Nat} {ad : Ro → Nat} {w : Wld} {s s' : Scene} (F : FloorAt et n0 ad w s) (r0 : Ro) (c0 : Cell) (h0 : (cellOf ad w s r0).isSome = true) (h1 : cellOf ad w s' r0 = some c0)
    (h2 : ∀ r, r ≠ r0 → cellOf ad w s' r = cellOf ad w s r) : FloorAt (et.set (ad r0) c0) n0 ad w s' := by
  obtain ⟨c1, hc1⟩ := Option.isSome_iff_exists.mp h0
  have hlt : ad r0 < et.length := (List.getElem?_eq_some_iff.mp (F.at_ r0 c1 hc1)).1
  have h3 : ∀ r, (cellOf ad w s' r).isSome = true → (cellOf ad w s r).isSome = true := fun r h => by
    by_cases e : r = r0
    · rw [e]; exact h0
    · rw [← h2 r e]; exact h
  refine ⟨fun r c hc => ?_, fun r r' h h' e => F.inj r r' (h3 r h) (h3 r' h') e, fun r h => F.lo r (h3 r h)⟩
  by_cases e : r = r0
  · subst e
    rw [h1] at hc; cases hc
    rw [List.getElem?_set_self hlt]
  · rw [h2 r e] at hc
    have hne : ad r0 ≠ ad r := fun z => e (F.inj r r0 (by rw [hc]; rfl) h0 z.symm)
    rw [List.getElem?_set_ne hne]
    exact F.at_ r c hc
theorem Beside.upd {et et1 : Hi} {ad : Ro → Nat} {w : Wld} {s : Scene} (B : Beside et et1 ad w s) (r0 : Ro) (c0 : Cell) (h0 : (cellOf ad w s r0).isSome = true) : Beside et (et1.set (ad r0) c0) ad w s :=
  ⟨by rw [List.length_set]; exact B.1, fun b c h hn => by
    rw [List.getElem?_set_ne (hn r0 h0).symm]
    exact B.2 b c h hn⟩
def _root_.Sc.Scene.setR (s : Scene) (i : Nat) (q : RoomS) : Scene := { s with rooms := s.rooms.set i q }
def _root_.Sc.Scene.setP (s : Scene) (i : Nat) (p : PassS) : Scene := { s with passes := s.passes.set i p }
def _root_.Sc.Scene.setH (s : Scene) (i : Nat) (h : HandN) : Scene := { s with hands := s.hands.set i h }
theorem set_get {α : Type} {l : List α} {i k : Nat} {x y : α} (h : l[i]? = some x) : (l.set i y)[k]? = if k = i then some y else l[k]? := by
  rw [List.getElem?_set]
  have := (List.getElem?_eq_some_iff.mp h).1
  by_cases e : i = k
  · subst e; simp [this]
  · rw [if_neg e, if_neg (Ne.symm e)]
theorem Beside.trans {et et1 et2 : Hi} {ad : Ro → Nat} {w : Wld} {s s1 : Scene} (B : Beside et et1 ad w s) (C : Beside et1 et2 ad w s1) (h : ∀ r, (cellOf ad w s1 r).isSome = true → (cellOf ad w s r).isSome = true) : Beside et et2 ad w s :=
  ⟨Nat.le_trans B.1 C.1, fun b c e hn => C.2 b c (B.2 b c e hn) fun r hr => hn r (h r hr)⟩
section
variable {et : Hi} {n0 : Nat} {ad : Ro → Nat} {w : Wld} {s : Scene} {i : Nat} {q : RoomS}
end
theorem lc_sel {α : Type} {src want : List PV} {tg : PV → En → Option En} {mt : EM Bool} {me : EM PV} {epw : En} {xs : List α} {et : Hi} {R : PV → Hi → Prop} (f g : α → PV) (keep : α → Bool) (h : src.map (deref et) = want) (hl : xs.length ≤ sizeLine)
    (step : ∀ x ∈ xs, ∃ ep1, tg (f x) epw = some ep1 ∧ (∀ Q : Bool → Hi → Prop, Q (keep x) et → mt ep1 et Q) ∧ (keep x = true → ∀ Q : PV → Hi → Prop, Q (g x) et → me ep1 et Q)) (fin : R (.lst ((xs.filter keep).map g)) et) : lcGo src want tg mt me epw (xs.map f) et R := by
  refine ⟨fun i acc et1 => et1 = et ∧ acc = ((xs.take i).filter keep).map g ∧ i ≤ xs.length, ⟨rfl, by simp, Nat.zero_le _⟩, ?_⟩
  rintro i acc et1 ⟨rfl, rfl, hi⟩
  refine ⟨h, fun p hp => ?_, fun e => ?_⟩
  · rw [List.getElem?_map] at hp
    cases hx : xs[i]? with
    | none => rw [hx] at hp; cases hp
    | some x =>
      rw [hx] at hp; cases hp
      have hlt := (List.getElem?_eq_some_iff.mp hx).1
      obtain ⟨ep1, h1, h2, h3⟩ := step x (List.mem_of_getElem? hx)
      have et' : (xs.take (i + 1)).filter keep = (xs.take i).filter keep ++ [x].filter keep := by rw [List.take_succ, hx, List.filter_append]; rfl
      refine ⟨ep1, h1, h2 _ ?_⟩
      cases hk : keep x with
      | true =>
        simp only [if_true]
        refine h3 hk _ ⟨?_, rfl, ?_, hlt⟩
        · rw [List.length_map]
          have := List.length_filter_le keep (xs.take i)
          rw [List.length_take] at this; omega
        · rw [et']; simp [hk]
      | false =>
        simp only [Bool.false_eq_true, if_false]
        refine ⟨trivial, ?_, hlt⟩
        rw [et']; simp [hk]
  · rw [e, List.length_map, List.take_length]; exact fin
def comeIn (q : RoomS) (h : Int) : RoomS := if q.inside = -1 then { q with inside := h } else { q with line := q.line ++ [h] }
def leave (q : RoomS) : RoomS := match q.late with
  | x :: r => { q with inside := x, late := r }
  | [] => match q.line with
    | x :: r => { q with inside := x, line := r }
    | [] => { q with inside := -1 }
def insAt (l : List (Int × Int)) (t h : Int) : List (Int × Int) := l.take (l.filter fun p => decide (p.1 ≤ t)).length ++ [(t, h)] ++ l.drop (l.filter fun p => decide (p.1 ≤ t)).length
def standAt (q : RoomS) (b : Nat) (t h : Int) : RoomS := { q with rows := q.rows.set b (insAt ((q.rows[b]?).getD []) t h) }
def callFirst (q : RoomS) (b : Nat) : Int × RoomS := match q.rows[b]? with
  | some (p :: r) => (p.2, { q with rows := q.rows.set b r })
  | _ => (-1, q)
section
variable {et : Hi} {n0 : Nat} {ad : Ro → Nat} {w : Wld} {s : Scene} {i : Nat} {p : PassS}
end
def takeOne (p : PassS) (h : Int) : PassS := if 0 < p.1 then (p.1 - 1, p.2) else (p.1, p.2 ++ [h])
def giveOne (p : PassS) : PassS := match p.2 with
  | _ :: r => (p.1, r)
  | [] => (if 9 ≤ p.1 + 1 then 9 else p.1 + 1, [])
section
variable {et : Hi} {n0 : Nat} {ad : Ro → Nat} {w : Wld} {s : Scene} {i : Nat} {h : HandN}
theorem F_at_frame (F : FloorAt et n0 ad w s) (hh : s.hands[i]? = some h) {j : Nat} {f : FrameS} (hf : h.2[j]? = some f) : et[ad (.frame i j)]? = some (.ins "Frame" (frameFs f)) := F.at_ (.frame i j) _ (by simp [cellOf, hh, hf])
end
end Fl
namespace Fl
open PySem L2 Mw Lw Cw Sc St Vl
def keysW (ps : List (Str × Int)) : List Key := ps.map fun p => .inr p.1
def dictZ (ns : List (Str × Int)) (vs : List Int) : List (Key × PV) := mergeP [] ((keysW ns).zip (vs.map .int))
def contOf (s : Scene) (i : Nat) : List Int := ((s.hands[i]?).map (·.1)).getD []
def handsThings (w : Wld) (i : Nat) : List (Str × Int) := ((w.hands[i]?).map (·.1)).getD []
def roomThings (w : Wld) (r : Int) : List (Str × Int) := ((w.rooms[r.toNat]?).map (·.things)).getD []
def roomVals (s : Scene) (r : Int) : List Int := ((s.rooms[r.toNat]?).map (·.vals)).getD []
def roomBells (w : Wld) (r : Int) : List (Str × Bool) := ((w.rooms[r.toNat]?).map (·.bells)).getD []
def roomRows (s : Scene) (r : Int) : List (List (Int × Int)) := ((s.rooms[r.toNat]?).map (·.rows)).getD []
def thingsOf (w : Wld) (s : Scene) (i : Nat) (f : FrameS) : List (Key × PV) :=
  if f.room = -1 then dictZ (handsThings w i ++ w.shared) (contOf s i ++ s.shared)
  else putP (dictZ (roomThings w f.room) (roomVals s f.room)) (.inr "given") (.int f.given)
def waitsOf (w : Wld) (s : Scene) (f : FrameS) : List (Key × PV) :=
  if f.room = -1 then [] else mergeP [] (((roomBells w f.room).map fun b => (.inr b.1 : Key)).zip ((roomRows s f.room).map fun l => .int (l.length : Nat)))
structure HandAt (w : Wld) (s : Scene) (i : Nat) (wh : Hand) (h : HandN) (f : FrameS) : Prop where
  hw : w.hands[i]? = some wh
  hs : s.hands[i]? = some h
  la : h.2.getLast? = some f
  l1 : wh.1.length ≤ 1000
  l2 : w.shared.length ≤ 1000
  l3 : h.1.length ≤ 1000
  l4 : s.shared.length ≤ 1000
structure RoomAt (w : Wld) (s : Scene) (f : FrameS) (ri : Nat) (rm : Rm) (q : RoomS) : Prop where
  er : f.room = (ri : Nat)
  wr : w.rooms[ri]? = some rm
  sr : s.rooms[ri]? = some q
  l1 : rm.things.length ≤ 1000
  l2 : rm.bells.length ≤ 1000
  l3 : q.vals.length ≤ 1000
  l4 : q.rows.length ≤ 1000
def InRoom (w : Wld) (s : Scene) (f : FrameS) : Prop := f.room = -1 ∨ ∃ ri rm q, RoomAt w s f ri rm q
section
variable {et : Hi} {n0 : Nat} {ad : Ro → Nat} {w : Wld} {s : Scene} {i : Nat} {wh : Hand} {h : HandN} {f : FrameS}
theorem HandAt.ne (A : HandAt w s i wh h f) : h.2 ≠ [] := fun e => by have := A.la; rw [e] at this; cases this
theorem HandAt.get (A : HandAt w s i wh h f) : h.2[h.2.length - 1]? = some f := by
  have := A.la
  rwa [List.getLast?_eq_getElem?] at this
theorem HandAt.frame (A : HandAt w s i wh h f) (F : FloorAt et n0 ad w s) : et[ad (.frame i (h.2.length - 1))]? = some (.ins "Frame" (frameFs f)) := F_at_frame F A.hs A.get
end
def intIn (ks : List (Key × PV)) (x : Str) : Int := match valP ks (.inr x) with
  | some (.int v) => v
  | _ => 0
def reckon (w : Wld) (s : Scene) (i : Nat) (f : FrameS) (m : Sm) : Int := ev (intIn (thingsOf w s i f)) (intIn (waitsOf w s f)) m
def SmAt (w : Wld) (s : Scene) (i : Nat) (f : FrameS) (m : Sm) : Prop := m.dep ≤ 5 ∧ inD (thingsOf w s i f) (waitsOf w s f) (intIn (thingsOf w s i f)) (intIn (waitsOf w s f)) m
section
variable {et : Hi} {n0 : Nat} {ad : Ro → Nat} {w : Wld} {s : Scene} {i : Nat} {h : HandN}
end
def idxS (ns : List Str) (x : Str) : Option Nat := ns.findIdx? fun z => decide (z = x)
def setShared (w : Wld) (s : Scene) (x : Str) (v : Int) : Scene := match idxS (nm w.shared) x with
  | some k => { s with shared := s.shared.set k v }
  | none => s
def setThing (w : Wld) (s : Scene) (i : Nat) (f : FrameS) (x : Str) (v : Int) : Scene :=
  if f.room = -1 then match idxS (nm (handsThings w i)) x, s.hands[i]? with
    | some k, some h => s.setH i (h.1.set k v, h.2)
    | _, _ => setShared w s x v
  else match idxS (nm (roomThings w f.room)) x, s.rooms[f.room.toNat]? with
    | some k, some q => s.setR f.room.toNat { q with vals := q.vals.set k v }
    | _, _ => setShared w s x v
end Fl
namespace Fl
open PySem L2 Mw Lw Cw Sc St Vl
local macro_rules | `(tactic| dsimp!) => `(tactic| first | (show (0 : Nat) < 1000; decide) | (show (1 : Nat) < 1000; decide) | (show (2 : Nat) < 1000; decide) | (show (3 : Nat) < 1000; decide) | (show (4 : Nat) < 1000; decide) | (show (5 : Nat) < 1000; decide))
end Fl
namespace Fl
open PySem L2 Mw Lw Cw Sc St Vl
local macro_rules | `(tactic| dsimp!) => `(tactic| first | (show (0 : Nat) < 1000; decide) | (show (1 : Nat) < 1000; decide) | (show (2 : Nat) < 1000; decide) | (show (3 : Nat) < 1000; decide) | (show (4 : Nat) < 1000; decide) | (show (5 : Nat) < 1000; decide))
def szR (q : RoomS) : Nat := 5 + q.rows.length
def sR (s : Scene) : Nat := (s.rooms.map szR).sum
def rl (s : Scene) (i : Nat) : Nat := ((s.rooms[i]?).map (·.rows.length)).getD 0
def fl (s : Scene) (i : Nat) : Nat := ((s.hands[i]?).map (·.2.length)).getD 0
end Fl
namespace Fl
open PySem L2 Mw Lw Cw Sc St Vl
local macro_rules | `(tactic| dsimp!) => `(tactic| first | (show (0 : Nat) < 1000; decide) | (show (1 : Nat) < 1000; decide) | (show (2 : Nat) < 1000; decide) | (show (3 : Nat) < 1000; decide) | (show (4 : Nat) < 1000; decide) | (show (5 : Nat) < 1000; decide))
section
variable {p : Nat} {w : Wld} {s : Scene} {i : Nat}
end
end Fl
namespace Sp
open PySem L2 Mw Lw Cw Sc St Vl Fl
abbrev k_NOBODY : PV := .int (-1)
def Low (n0 : Nat) (et et' : Hi) : Prop := et.length ≤ et'.length ∧ ∀ b, b < n0 → et'[b]? = et[b]?
theorem Low.refl {n0 : Nat} {et : Hi} : Low n0 et et := ⟨Nat.le_refl _, fun _ _ => rfl⟩
theorem Low.trans {n0 : Nat} {et et1 et2 : Hi} (a : Low n0 et et1) (b : Low n0 et1 et2) : Low n0 et et2 := ⟨Nat.le_trans a.1 b.1, fun k h => (b.2 k h).trans (a.2 k h)⟩
def Post (n0 : Nat) (et : Hi) (ad : Ro → Nat) (w : Wld) (s' : Scene) (R : PV → Hi → Prop) (v : PV) : Prop := ∀ et' ad', FloorAt et' n0 ad' w s' → ad' .floor = ad .floor → Low n0 et et' → R v et'
def setF (s : Scene) (i : Nat) (f' : FrameS) : Scene := match s.hands[i]? with
  | some h => s.setH i (h.1, h.2.set (h.2.length - 1) f')
  | none => s
section
variable {et : Hi} {n0 : Nat} {ad : Ro → Nat} {w : Wld} {s : Scene} {i : Nat} {wh : Hand} {h : HandN} {f : FrameS} {R : PV → Hi → Prop} {v : PV}
end
def ThingIn (w : Wld) (s : Scene) (f : FrameS) (wh : Hand) (h : HandN) (x : Str) : Prop :=
  f.room = -1 ∧ x ∈ nm wh.1 ++ nm w.shared ∧ h.1.length = wh.1.length ∧ s.shared.length = w.shared.length ∨ ∃ ri rm q, RoomAt w s f ri rm q ∧ x ∈ nm rm.things ∧ q.vals.length = rm.things.length
def putS (w : Wld) (s : Scene) (i : Nat) (f : FrameS) (x : Str) (m : Sm) : Scene := setThing w s i f x (reckon w s i f m)
def unlS (w : Wld) (s : Scene) (i : Nat) (f : FrameS) (m : Sm) (k : Nat) : Scene := if reckon w s i f m = 0 then setF s i { f with row := k } else s
structure PassAt (w : Wld) (s : Scene) (x : Str) (k : Nat) (p : PassS) : Prop where
  ix : idxS (nm w.passes) x = some k
  wl : w.passes.length ≤ 1000
  sr : s.passes[k]? = some p
  l : p.2.length ≤ 1000
structure BellAt (rm : Rm) (q : RoomS) (b : Str) (bi : Nat) (turns : Bool) (l : List (Int × Int)) : Prop where
  ix : idxS rm.bs b = some bi
  wb : rm.bells[bi]? = some (b, turns)
  sr : q.rows[bi]? = some l
  ll : l.length ≤ 1000
  ln : q.line.length ≤ 1000
  lt : q.late.length ≤ 1000
def turnOf (turns : Bool) (v : Int) : Int := if turns = true then v else 0
def waitQ (q : RoomS) (bi : Nat) (t : Int) (i : Nat) : RoomS := leave (standAt q bi t i)
def callQ (free : Bool) (q : RoomS) (bi : Nat) (i : Nat) : RoomS :=
  if 0 ≤ (callFirst q bi).1 ∧ free = false then { (callFirst q bi).2 with inside := (callFirst q bi).1, late := (callFirst q bi).2.late ++ [(i : Int)] } else (callFirst q bi).2
end Sp
namespace Sp
open PySem L2 Mw Lw Cw Sc St Vl Fl
def allQ (q : RoomS) (bi : Nat) : RoomS := { q with rows := q.rows.set bi [] }
section
variable {et : Hi} {n0 : Nat} {ad : Ro → Nat} {w : Wld} {s : Scene} {i : Nat} {h : HandN} {f0 : FrameS}
end
structure DeedAt (w : Wld) (s : Scene) (rm dd : Str) (ri di : Nat) (r : Rm) (q : RoomS) : Prop where
  ix : idxS (w.rooms.map (·.name)) rm = some ri
  wl : w.rooms.length ≤ 1000
  wr : w.rooms[ri]? = some r
  dx : idxS (r.deeds.map (·.1)) dd = some di
  dl : r.deeds.length ≤ 1000
  sr : s.rooms[ri]? = some q
  ll : q.line.length ≤ 1000
def deedS (w : Wld) (s : Scene) (i : Nat) (h : HandN) (f : FrameS) (m : Sm) (ri di : Nat) (q : RoomS) : Scene := (s.setH i (h.1, h.2 ++ [⟨ri, di, 0, reckon w s i f m, 0⟩])).setR ri (comeIn q i)
def putOpt (w : Wld) (s : Scene) (i : Nat) (f : FrameS) (v : Int) : Row → Scene
  | .doo (some x) _ _ _ => setThing w s i f x v
  | _ => s
def endS (w : Wld) (s : Scene) (i : Nat) (h : HandN) (f : FrameS) (ri : Nat) (q : RoomS) (f2 : FrameS) (row : Row) : Scene := putOpt w ((s.setH i (h.1, h.2.dropLast)).setR ri (leave q)) i f2 f.answer row
structure EndAt (w : Wld) (s : Scene) (i : Nat) (wh : Hand) (h : HandN) (f : FrameS) (ri : Nat) (q : RoomS) (f2 : FrameS) (g : Option Str) (rm dd : Str) (m : Sm) : Prop where
  fr : f.room = (ri : Nat)
  sr : s.rooms[ri]? = some q
  ln : q.line.length ≤ 1000
  lt : q.late.length ≤ 1000
  la : h.2.dropLast.getLast? = some f2
  fi : FrameIn w i f2
  r1 : 1 ≤ f2.row
  rw : (progOf w i f2)[(f2.row - 1).toNat]? = some (.doo g rm dd m)
  rl : f2.row ≤ (progOf w i f2).length
  th : ∀ x, g = some x → ThingIn w ((s.setH i (h.1, h.2.dropLast)).setR ri (leave q)) f2 wh (h.1, h.2.dropLast) x
end Sp
namespace Sp
open PySem L2 Mw Lw Cw Sc St Vl Fl
inductive RowTo (w : Wld) (s : Scene) (i : Nat) (wh : Hand) (h : HandN) (f : FrameS) : Row → Scene → Option Int → Prop where
  | put {x m} (a : ThingIn w s f wh h x) (b : SmAt w s i f m) : RowTo w s i wh h f (.put x m) (putS w s i f x m) none
  | unl {m k} (b : SmAt w s i f m) : RowTo w s i wh h f (.unl m k) (unlS w s i f m k) none
  | go {k} : RowTo w s i wh h f (.go k) (setF s i { f with row := (k : Nat) }) none
  | doo {g rm dd m ri di r q} (a : DeedAt w s rm dd ri di r q) (b : SmAt w s i f m) (c : h.2.length ≤ 1000) : RowTo w s i wh h f (.doo g rm dd m) (deedS w s i h f m ri di q) none
  | wait {b m ri rm q bi turns l} (a : RoomAt w s f ri rm q) (c : BellAt rm q b bi turns l) (d : SmAt w s i f m) : RowTo w s i wh h f (.wait b m) (s.setR ri (waitQ q bi (turnOf turns (reckon w s i f m)) i)) none
  | call {b ri rm q bi turns l} (a : RoomAt w s f ri rm q) (c : BellAt rm q b bi turns l) : RowTo w s i wh h f (.call b) (s.setR ri (callQ rm.free q bi i)) none
  | all {b ri rm q bi turns l} (a : RoomAt w s f ri rm q) (c : BellAt rm q b bi turns l) (d : ∀ p ∈ l, 0 ≤ p.2) : RowTo w s i wh h f (.all b) (s.setR ri (allQ q bi)) none
  | tell {m} (b : SmAt w s i f m) : RowTo w s i wh h f (.tell m) (setF s i { f with answer := reckon w s i f m }) none
  | take {x k p} (a : PassAt w s x k p) : RowTo w s i wh h f (.take x) (s.setP k (takeOne p i)) none
  | give {x k p} (a : PassAt w s x k p) : RowTo w s i wh h f (.give x) (s.setP k (giveOne p)) none
  | pass {x y k p k2 p2} (a : PassAt w s x k p) (b : PassAt w (s.setP k (giveOne p)) y k2 p2) : RowTo w s i wh h f (.pass x y) ((s.setP k (giveOne p)).setP k2 (takeOne p2 i)) none
  | say {m} (b : SmAt w s i f m) : RowTo w s i wh h f (.say m) s (some (reckon w s i f m))
def fNext (f : FrameS) : FrameS := { f with row := f.row + 1 }
def hNext (h : HandN) (f : FrameS) : HandN := (h.1, h.2.set (h.2.length - 1) (fNext f))
theorem HandAt.next {w : Wld} {s : Scene} {i : Nat} {wh : Hand} {h : HandN} {f : FrameS} (A : HandAt w s i wh h f) : HandAt w (setF s i (fNext f)) i wh (hNext h f) (fNext f) := by
  refine ⟨A.hw, ?_, ?_, A.l1, A.l2, A.l3, ?_⟩
  · unfold setF; rw [A.hs]
    show (s.hands.set i _)[i]? = _
    rw [set_get A.hs, if_pos rfl]; rfl
  · show (h.2.set (h.2.length - 1) (fNext f)).getLast? = _
    have hp := List.length_pos_iff.mpr A.ne
    rw [List.getLast?_eq_getElem?, List.length_set, List.getElem?_set_self (by omega)]
  · unfold setF; rw [A.hs]; exact A.l4
theorem setF_rooms {s : Scene} {i : Nat} {f : FrameS} : (setF s i f).rooms = s.rooms := by unfold setF; split <;> rfl
theorem InRoom.next {w : Wld} {s : Scene} {i : Nat} {f f' : FrameS} (h : InRoom w s f) (e : f'.room = f.room) : InRoom w (setF s i f') f' := by
  rcases h with h | ⟨ri, rm, q, h⟩
  · exact .inl (e.trans h)
  · exact .inr ⟨ri, rm, q, e.trans h.er, h.wr, by rw [setF_rooms]; exact h.sr, h.l1, h.l2, h.l3, h.l4⟩
end Sp
namespace Sp
open PySem L2 Mw Lw Cw Sc St Vl Fl
def canS : Stand → Bool
  | .out => true | .within _ => true | .called _ => true | _ => false
def isCalled : Stand → Bool
  | .called _ => true | _ => false
def mayS (w : Wld) (s : Scene) : List Nat := (List.range w.hands.length).filter fun k => canS (stand w s k)
inductive StepTo (w : Wld) (s : Scene) (i : Nat) : Scene → Option Int → Prop where
  | called {wh h f ri q} (A : HandAt w s i wh h f) (c : isCalled (stand w s i) = true) (fr : f.room = (ri : Nat)) (sr : s.rooms[ri]? = some q) (l : q.line.length ≤ 1000) : StepTo w s i (s.setR ri (comeIn q i)) none
  | ended {wh h f ri q f2 g rm dd m} (A : HandAt w s i wh h f) (c : isCalled (stand w s i) = false) (fi : FrameIn w i f) (b : f.row = (progOf w i f).length) (E : EndAt w s i wh h f ri q f2 g rm dd m) :
      StepTo w s i (endS w s i h f ri q f2 (.doo g rm dd m)) none
  | row {wh h f row s' ev} (A : HandAt w s i wh h f) (I : InRoom w s f) (c : isCalled (stand w s i) = false) (fi : FrameIn w i f) (r0 : 0 ≤ f.row) (b : f.row ≠ (progOf w i f).length) (rw : (progOf w i f)[f.row.toNat]? = some row)
      (to : RowTo w (setF s i (fNext f)) i wh (hNext h f) (fNext f) row s' ev) : StepTo w s i s' ev
end Sp
namespace Sp
open PySem L2 Mw Lw Cw Sc St Vl Fl
structure QOk (rm : Rm) (q : RoomS) (N : Nat) : Prop where
  v : q.vals.length = rm.things.length
  r : q.rows.length = rm.bells.length
  ln : q.line.length ≤ N
  lt : q.late.length ≤ N
  l : ∀ l ∈ q.rows, l.length ≤ N ∧ ∀ p ∈ l, 0 ≤ p.2
structure FrOk (w : Wld) (i : Nat) (fs : List FrameS) (j : Nat) (f : FrameS) : Prop where
  fi : FrameIn w i f
  r0 : 0 ≤ f.row
  rl : f.row ≤ (progOf w i f).length
  own : j = 0 ↔ f.room = -1
  low : j + 1 < fs.length → 1 ≤ f.row ∧ ∃ g rm dd m, (progOf w i f)[(f.row - 1).toNat]? = some (.doo g rm dd m)
structure HOk (w : Wld) (i : Nat) (wh : Hand) (h : HandN) (N : Nat) : Prop where
  c : h.1.length = wh.1.length
  n : h.2.length ≤ N + 1
  ne : h.2 ≠ []
  f : ∀ (j : Nat) (f : FrameS), h.2[j]? = some f → FrOk w i h.2 j f
structure SceneOk (w : Wld) (s : Scene) (N : Nat) : Prop where
  rl : s.rooms.length = w.rooms.length
  rooms : ∀ (i : Nat) (rm : Rm) (q : RoomS), w.rooms[i]? = some rm → s.rooms[i]? = some q → QOk rm q N
  pl : s.passes.length = w.passes.length
  passes : ∀ p ∈ s.passes, p.2.length ≤ N
  sl : s.shared.length = w.shared.length
  hl : s.hands.length = w.hands.length
  hands : ∀ (i : Nat) (wh : Hand) (h : HandN), w.hands[i]? = some wh → s.hands[i]? = some h → HOk w i wh h N
theorem QOk.mono {rm : Rm} {q : RoomS} {N M : Nat} (h : QOk rm q N) (l : N ≤ M) : QOk rm q M := ⟨h.v, h.r, Nat.le_trans h.ln l, Nat.le_trans h.lt l, fun x hx => ⟨Nat.le_trans (h.l x hx).1 l, (h.l x hx).2⟩⟩
theorem HOk.mono {w : Wld} {i : Nat} {wh : Hand} {h : HandN} {N M : Nat} (a : HOk w i wh h N) (l : N ≤ M) : HOk w i wh h M := ⟨a.c, by have := a.n; omega, a.ne, a.f⟩
theorem SceneOk.mono {w : Wld} {s : Scene} {N M : Nat} (a : SceneOk w s N) (l : N ≤ M) : SceneOk w s M :=
  ⟨a.rl, fun i rm q h1 h2 => (a.rooms i rm q h1 h2).mono l, a.pl, fun p hp => Nat.le_trans (a.passes p hp) l, a.sl, a.hl, fun i wh h h1 h2 => (a.hands i wh h h1 h2).mono l⟩
section
variable {w : Wld} {s : Scene} {N : Nat}
theorem SceneOk.setR (a : SceneOk w s N) {ri : Nat} {q q' : RoomS} (hq : s.rooms[ri]? = some q) (h : ∀ rm, w.rooms[ri]? = some rm → QOk rm q' N) : SceneOk w (s.setR ri q') N := by
  refine ⟨by show (s.rooms.set ri q').length = _; rw [List.length_set]; exact a.rl, fun i rm x h1 h2 => ?_, a.pl, a.passes, a.sl, a.hl, a.hands⟩
  have h2' : (s.rooms.set ri q')[i]? = some x := h2
  rw [set_get hq] at h2'
  split at h2'
  · rename_i e; subst e; cases h2'; exact h rm h1
  · exact a.rooms i rm x h1 h2'
theorem SceneOk.setP (a : SceneOk w s N) {k : Nat} {p : PassS} (hl : p.2.length ≤ N) : SceneOk w (s.setP k p) N := by
  refine ⟨a.rl, a.rooms, by show (s.passes.set k p).length = _; rw [List.length_set]; exact a.pl, fun x hx => ?_, a.sl, a.hl, a.hands⟩
  rcases List.mem_or_eq_of_mem_set hx with h | h
  · exact a.passes x h
  · rw [h]; exact hl
theorem SceneOk.setH (a : SceneOk w s N) {i : Nat} {h h' : HandN} (hh : s.hands[i]? = some h) (hok : ∀ wh, w.hands[i]? = some wh → HOk w i wh h' N) : SceneOk w (s.setH i h') N := by
  refine ⟨a.rl, a.rooms, a.pl, a.passes, a.sl, by show (s.hands.set i h').length = _; rw [List.length_set]; exact a.hl, fun k wh x h1 h2 => ?_⟩
  have h2' : (s.hands.set i h')[k]? = some x := h2
  rw [set_get hh] at h2'
  split at h2'
  · rename_i e; subst e; cases h2'; exact hok wh h1
  · exact a.hands k wh x h1 h2'
theorem SceneOk.room (a : SceneOk w s N) {ri : Nat} {rm : Rm} (h : w.rooms[ri]? = some rm) : ∃ q, s.rooms[ri]? = some q ∧ QOk rm q N := by
  have hl : ri < s.rooms.length := by rw [a.rl]; exact (List.getElem?_eq_some_iff.mp h).1
  exact ⟨_, List.getElem?_eq_getElem hl, a.rooms ri rm _ h (List.getElem?_eq_getElem hl)⟩
theorem SceneOk.hand (a : SceneOk w s N) {i : Nat} {wh : Hand} (h : w.hands[i]? = some wh) : ∃ x, s.hands[i]? = some x ∧ HOk w i wh x N := by
  have hl : i < s.hands.length := by rw [a.hl]; exact (List.getElem?_eq_some_iff.mp h).1
  exact ⟨_, List.getElem?_eq_getElem hl, a.hands i wh _ h (List.getElem?_eq_getElem hl)⟩
end
section
variable {w : Wld} {s : Scene} {N i : Nat} {wh : Hand} {h : HandN} {f : FrameS}
end
end Sp
namespace Sp
open PySem L2 Mw Lw Cw Sc St Vl Fl
section
variable {w : Wld} {s : Scene} {N i : Nat} {wh : Hand} {h : HandN} {f : FrameS}
theorem HOk.last (a : HOk w i wh h N) (A : h.2.getLast? = some f) : FrOk w i h.2 (h.2.length - 1) f := a.f _ _ (by rwa [List.getLast?_eq_getElem?] at A)
end
end Sp
namespace Sp
open PySem L2 Mw Lw Cw Sc St Vl Fl
section
variable {w : Wld} {s : Scene} {N i : Nat}
end
end Sp
namespace Sp
open PySem L2 Mw Lw Cw Sc St Vl Fl
section
variable {w : Wld} {s : Scene} {i : Nat} {wh : Hand} {h : HandN} {f : FrameS}
noncomputable def stepC (w : Wld) (s : Scene) (i : Nat) : Scene × Option Int := by
  classical exact if h : ∃ p : Scene × Option Int, StepTo w s i p.1 p.2 then h.choose else (s, none)
end
end Sp
namespace Sp
open PySem L2 Mw Lw Cw Sc St Vl Fl
def Nine (v : Int) : Prop := 0 ≤ v ∧ v ≤ 9
structure N9 (s : Scene) : Prop where
  rooms : ∀ q ∈ s.rooms, ∀ v ∈ q.vals, Nine v
  passes : ∀ p ∈ s.passes, Nine p.1
  shared : ∀ v ∈ s.shared, Nine v
  cont : ∀ h ∈ s.hands, ∀ v ∈ h.1, Nine v
  frames : ∀ h ∈ s.hands, ∀ f ∈ h.2, Nine f.given ∧ Nine f.answer
section
variable {w : Wld} {s : Scene} {N i : Nat} {wh : Hand} {h : HandN} {f : FrameS}
theorem N9.setR (n : N9 s) (k : Nat) {q : RoomS} (h : ∀ v ∈ q.vals, Nine v) : N9 (s.setR k q) := by
  refine ⟨fun x hx v hv => ?_, n.passes, n.shared, n.cont, n.frames⟩
  rcases List.mem_or_eq_of_mem_set (show x ∈ s.rooms.set k q from hx) with hx | hx
  · exact n.rooms x hx v hv
  · subst hx; exact h v hv
theorem N9.setP (n : N9 s) (k : Nat) {p : PassS} (h : Nine p.1) : N9 (s.setP k p) := by
  refine ⟨n.rooms, fun x hx => ?_, n.shared, n.cont, n.frames⟩
  rcases List.mem_or_eq_of_mem_set (show x ∈ s.passes.set k p from hx) with hx | hx
  · exact n.passes x hx
  · subst hx; exact h
theorem N9.setH (n : N9 s) (k : Nat) {h' : HandN} (h1 : ∀ v ∈ h'.1, Nine v) (h2 : ∀ f ∈ h'.2, Nine f.given ∧ Nine f.answer) : N9 (s.setH k h') := by
  refine ⟨n.rooms, n.passes, n.shared, fun x hx => ?_, fun x hx => ?_⟩
  · rcases List.mem_or_eq_of_mem_set (show x ∈ s.hands.set k h' from hx) with hx | hx
    · exact n.cont x hx
    · subst hx; exact h1
  · rcases List.mem_or_eq_of_mem_set (show x ∈ s.hands.set k h' from hx) with hx | hx
    · exact n.frames x hx
    · subst hx; exact h2
theorem set_nine {l : List Int} {k : Nat} {v : Int} (h : ∀ x ∈ l, Nine x) (hv : Nine v) : ∀ x ∈ l.set k v, Nine x := fun x hx => by
  rcases List.mem_or_eq_of_mem_set hx with hx | hx
  · exact h x hx
  · subst hx; exact hv
theorem N9.setF (n : N9 s) (k : Nat) {f' : FrameS} (h : Nine f'.given ∧ Nine f'.answer) : N9 (setF s k f') := by
  unfold Sp.setF
  split
  · rename_i y e
    have hm := List.mem_of_getElem? e
    refine n.setH k (n.cont y hm) fun g hg => ?_
    rcases List.mem_or_eq_of_mem_set hg with hg | hg
    · exact n.frames y hm g hg
    · subst hg; exact h
  · exact n
theorem N9.setShared (n : N9 s) (x : Str) {v : Int} (hv : Nine v) : N9 (setShared w s x v) := by
  unfold Fl.setShared
  split
  · exact ⟨n.rooms, n.passes, set_nine n.shared hv, n.cont, n.frames⟩
  · exact n
theorem N9.setThing (n : N9 s) (g : FrameS) (x : Str) {v : Int} (hv : Nine v) : N9 (setThing w s i g x v) := by
  unfold Fl.setThing
  split
  · split
    · rename_i k y _ e
      exact n.setH i (set_nine (n.cont y (List.mem_of_getElem? e)) hv) (n.frames y (List.mem_of_getElem? e))
    · exact n.setShared x hv
  · split
    · rename_i k q _ e
      exact n.setR _ (set_nine (n.rooms q (List.mem_of_getElem? e)) hv)
    · exact n.setShared x hv
end
end Sp
namespace Lk
open PySem L2 Mw Lw Cw Sc St Vl Fl Sp
end Lk
namespace Wk
open PySem L2 Mw Lw Cw Sc St Vl Fl Sp
def evL (i : Nat) : Option Int → List PV
  | none => []
  | some v => [.tup [.int i, .int v]]
noncomputable def walkF (w : Wld) (p : Scene × List PV) (i : Nat) : Scene × List PV := ((stepC w p.1 i).1, p.2 ++ evL i (stepC w p.1 i).2)
noncomputable def walkS (w : Wld) (ks : List Nat) : Scene × List PV := ks.foldl (walkF w) (begun w, [])
def WayOk (w : Wld) (ks : List Nat) : Prop := ∀ (j i : Nat), ks[j]? = some i → i ∈ mayS w (walkS w (ks.take j)).1
theorem WayOk.take {w : Wld} {ks : List Nat} (h : WayOk w ks) (n : Nat) : WayOk w (ks.take n) := fun j i e => by
  rw [List.getElem?_take] at e
  split at e
  · rename_i hj
    rw [List.take_take, Nat.min_eq_left (by omega)]; exact h j i e
  · cases e
theorem WayOk.snoc {w : Wld} {ks : List Nat} {i : Nat} (h : WayOk w ks) (hi : i ∈ mayS w (walkS w ks).1) : WayOk w (ks ++ [i]) := fun j k e => by
  rcases Nat.lt_or_ge j ks.length with hj | hj
  · rw [List.getElem?_append_left hj] at e
    rw [List.take_append_of_le_length (by omega)]; exact h j k e
  · rw [List.getElem?_append_right hj] at e
    have hl := (List.getElem?_eq_some_iff.mp e).1
    have e0 : j = ks.length := by simp at hl; omega
    subst e0
    simp at e; subst e
    simpa using hi
theorem WayOk.nil {w : Wld} : WayOk w [] := fun j i e => by simp at e
end Wk
namespace Lk
open PySem L2 Mw Lw Cw Sc St Vl Fl Sp
theorem rep_one (x : PV) (n : Nat) (hn : n ≤ 100000) : gRep (.lst [x]) (.int n) = some (.lst (List.replicate n x)) := by
  have big : (200000 : Nat) ≤ sizeLine := by rw [sizeLine_eq]; omega
  unfold gRep
  simp only [List.length_singleton, Int.toNat_natCast]
  rw [if_pos (by refine ⟨by omega, by omega, by omega⟩)]
  congr 2
  clear hn
  induction n with
  | zero => rfl
  | succ n ih => rw [List.replicate_succ, List.flatten_cons, ih, List.replicate_succ]; rfl
end Lk
namespace Rt
open PySem L2 Mw Lw Cw Sc St Vl Fl Sp
def isRow (o n : List Int) (i : Int) : Prop := n = o ∨ n = o.drop 1 ∨ n = o ++ [i] ∨ n = o.drop 1 ++ [i]
def isBell (o n : List (Int × Int)) (i : Int) : Prop := n = o ∨ n = o.drop 1 ∨ n = [] ∨ (n.filter (fun p => decide (p.2 ≠ i)) = o ∧ n.length = o.length + 1)
def heir1 (q : RoomS) : Int := match q.late with
  | x :: _ => x
  | [] => match q.line with
    | x :: _ => x
    | [] => -1
def firstsB (rows : List (List (Int × Int))) : List Int := rows.filterMap fun l => l.head?.map (·.2)
def heirs (free : Bool) (q : RoomS) : List Int := heir1 q :: if free = true then [] else firstsB q.rows
structure RoomR (free : Bool) (q q' : RoomS) (i : Int) : Prop where
  ln : isRow q.line q'.line i
  lt : isRow q.late q'.late i
  rl : q'.rows.length = q.rows.length
  rw : ∀ (k : Nat) (l l' : List (Int × Int)), q.rows[k]? = some l → q'.rows[k]? = some l' → isBell l l' i
  w1 : q.inside ≠ i → q'.inside = q.inside ∨ (q.inside = -1 ∧ q'.inside = i)
  w2 : q.inside = i → q'.inside = i ∨ q'.inside ∈ heirs free q
  gone : ∀ x ∈ q.line ++ q.late, x ∉ q'.line ++ q'.late → q'.inside = x
def core (q : RoomS) : Int × List Int × List Int × List (List (Int × Int)) := (q.inside, q.line, q.late, q.rows)
theorem RoomR.congr {free : Bool} {q q' p p' : RoomS} {i : Int} (h : RoomR free q q' i) (e : core q = core p) (e' : core q' = core p') : RoomR free p p' i := by
  obtain ⟨v, a, b, c, d⟩ := q
  obtain ⟨v2, a2, b2, c2, d2⟩ := p
  obtain ⟨v', a', b', c', d'⟩ := q'
  obtain ⟨v2', a2', b2', c2', d2'⟩ := p'
  simp only [core, Prod.mk.injEq] at e e'
  obtain ⟨rfl, rfl, rfl, rfl⟩ := e
  obtain ⟨rfl, rfl, rfl, rfl⟩ := e'
  exact ⟨h.ln, h.lt, h.rl, h.rw, h.w1, h.w2, h.gone⟩
theorem RoomR.refl (free : Bool) (q : RoomS) (i : Int) : RoomR free q q i :=
  ⟨.inl rfl, .inl rfl, rfl, fun k l l' h h' => by rw [h] at h'; cases h'; exact .inl rfl, fun _ => .inl rfl, fun h => .inl h, fun x h h' => absurd h h'⟩
structure Q0 (s s' : Scene) (i : Nat) : Prop where
  r : ∀ j : Nat, (s'.rooms[j]?).map core = (s.rooms[j]?).map core
  p : s'.passes = s.passes
  h : ∀ j : Nat, j ≠ i → s'.hands[j]? = s.hands[j]?
  rl : s'.rooms.length = s.rooms.length
  hl : s'.hands.length = s.hands.length
structure StepR (w : Wld) (s s' : Scene) (i : Nat) : Prop where
  rl : s'.rooms.length = s.rooms.length
  rooms : ∀ (j : Nat) (rm : Rm) (q q' : RoomS), w.rooms[j]? = some rm → s.rooms[j]? = some q → s'.rooms[j]? = some q' → RoomR rm.free q q' i
  pl : s'.passes.length = s.passes.length
  passes : ∀ (j : Nat) (p p' : PassS), s.passes[j]? = some p → s'.passes[j]? = some p' → isRow p.2 p'.2 i
  hands : ∀ j : Nat, j ≠ i → s'.hands[j]? = s.hands[j]?
  hl : s'.hands.length = s.hands.length
section
variable {w : Wld} {s s1 s2 : Scene} {i : Nat}
theorem Q0.refl (s : Scene) (i : Nat) : Q0 s s i := ⟨fun _ => rfl, rfl, fun _ _ => rfl, rfl, rfl⟩
theorem Q0.trans (a : Q0 s s1 i) (b : Q0 s1 s2 i) : Q0 s s2 i := ⟨fun j => (b.r j).trans (a.r j), b.p.trans a.p, fun j hj => (b.h j hj).trans (a.h j hj), b.rl.trans a.rl, b.hl.trans a.hl⟩
theorem Q0.step (a : Q0 s s1 i) : StepR w s s1 i := by
  refine ⟨a.rl, fun j rm q q' _ h1 h2 => ?_, by rw [a.p], fun j p p' h1 h2 => ?_, a.h, a.hl⟩
  · have := a.r j
    rw [h1, h2] at this
    exact (RoomR.refl rm.free q i).congr rfl (Option.some.inj this).symm
  · rw [a.p, h1] at h2; cases h2; exact .inl rfl
theorem StepR.left (a : Q0 s s1 i) (b : StepR w s1 s2 i) : StepR w s s2 i := by
  refine ⟨b.rl.trans a.rl, fun j rm q q' hw h1 h2 => ?_, b.pl.trans (by rw [a.p]), fun j p p' h1 h2 => b.passes j p p' (by rw [a.p]; exact h1) h2, fun j hj => (b.hands j hj).trans (a.h j hj), b.hl.trans a.hl⟩
  have hlt : j < s1.rooms.length := by rw [a.rl]; exact (List.getElem?_eq_some_iff.mp h1).1
  have e1 := List.getElem?_eq_getElem hlt
  have := a.r j
  rw [h1, e1] at this
  exact (b.rooms j rm _ q' hw e1 h2).congr (Option.some.inj this) rfl
theorem StepR.setR {ri : Nat} {q q' : RoomS} (hq : s.rooms[ri]? = some q) (h : ∀ rm, w.rooms[ri]? = some rm → RoomR rm.free q q' i) : StepR w s (s.setR ri q') i := by
  refine ⟨by show (s.rooms.set ri q').length = _; rw [List.length_set], fun j rm x x' hw h1 h2 => ?_, rfl, fun j p p' h1 h2 => ?_, fun _ _ => rfl, rfl⟩
  · have h2' : (s.rooms.set ri q')[j]? = some x' := h2
    rw [set_get hq] at h2'
    split at h2'
    · rename_i e; subst e; cases h2'
      rw [hq] at h1; cases h1; exact h rm hw
    · rw [h1] at h2'; cases h2'; exact RoomR.refl _ _ _
  · have h2' : s.passes[j]? = some p' := h2
    rw [h1] at h2'; cases h2'; exact .inl rfl
theorem StepR.setP {k : Nat} {p p' : PassS} (hp : s.passes[k]? = some p) (h : isRow p.2 p'.2 i) : StepR w s (s.setP k p') i := by
  refine ⟨rfl, fun j rm q q' hw h1 h2 => ?_, by show (s.passes.set k p').length = _; rw [List.length_set], fun j x x' h1 h2 => ?_, fun _ _ => rfl, rfl⟩
  · have h2' : s.rooms[j]? = some q' := h2
    rw [h1] at h2'; cases h2'; exact RoomR.refl _ _ _
  · have h2' : (s.passes.set k p')[j]? = some x' := h2
    rw [set_get hp] at h2'
    split at h2'
    · rename_i e; subst e; cases h2'
      rw [hp] at h1; cases h1; exact h
    · rw [h1] at h2'; cases h2'; exact .inl rfl
end
end Rt
namespace Inn
open PySem L2 Mw Lw Cw Sc St Vl Fl Sp Rt Lk
def cc (c : Int × List Int × List Int × List (List (Int × Int))) (x : Int) : Nat := c.2.1.count x + c.2.2.1.count x + (c.2.2.2.map fun l => (l.map (·.2)).count x).sum
def cq (q : RoomS) (x : Int) : Nat := cc (core q) x
def cnt (s : Scene) (x : Int) : Nat := (s.passes.map fun p => p.2.count x).sum + (s.rooms.map fun q => cq q x).sum
def Here1 (hs : List HandN) (x : Int) (r : Int) : Prop := ∃ (k : Nat) (h : HandN) (f : FrameS), x = k ∧ hs[k]? = some h ∧ h.2.getLast? = some f ∧ f.room = r
def Has (hs : List HandN) (x : Int) (r : Int) : Prop := ∃ (k : Nat) (h : HandN) (f : FrameS), x = k ∧ hs[k]? = some h ∧ f ∈ h.2 ∧ f.room = r
theorem Here1.has {hs : List HandN} {x r : Int} : Here1 hs x r → Has hs x r := fun ⟨k, h, f, e, h1, h2, h3⟩ => ⟨k, h, f, e, h1, List.mem_of_getLast? h2, h3⟩
theorem Has.pos {hs : List HandN} {x r : Int} : Has hs x r → 0 ≤ x := fun ⟨k, _, _, e, _⟩ => by omega
theorem Here1.pos {hs : List HandN} {x r : Int} (h : Here1 hs x r) : 0 ≤ x := h.has.pos
structure RInv (w : Wld) (hs : List HandN) (ex : Int) (ri : Nat) (q : RoomS) : Prop where
  free : ∀ rm, w.rooms[ri]? = some rm → rm.free = true → q.late = []
  nob : q.inside = -1 ∨ (ri : Int) = ex ∨ Has hs q.inside ri
  emp : q.inside = -1 → q.line = [] ∧ q.late = []
  ln : ∀ x ∈ q.line, Here1 hs x ri
  lt : ∀ x ∈ q.late, Here1 hs x ri
  bl : ∀ l ∈ q.rows, ∀ p ∈ l, Here1 hs p.2 ri
  bell : ∀ (rm : Rm) (bi : Nat) (b : Str) (turns : Bool) (l : List (Int × Int)), w.rooms[ri]? = some rm → rm.bells[bi]? = some (b, turns) → q.rows[bi]? = some l → (l.map (·.1)).Pairwise (· ≤ ·) ∧ (turns = false → ∀ p ∈ l, p.1 = 0)
structure InvX (w : Wld) (s : Scene) (ex : Int) : Prop where
  one : ∀ x : Int, cnt s x ≤ 1
  pas : ∀ p ∈ s.passes, (p.1 = 0 ∨ p.2 = []) ∧ ∀ x ∈ p.2, Here1 s.hands x (-1)
  rin : ∀ (ri : Nat) (q : RoomS), s.rooms[ri]? = some q → RInv w s.hands ex ri q
  own : ∀ h ∈ s.hands, ∃ r, h.2[0]? = some ⟨-1, -1, r, 0, 0⟩
abbrev Inv (w : Wld) (s : Scene) : Prop := InvX w s (-1)
theorem sum_set {α : Type} (g : α → Nat) : ∀ {l : List α} {k : Nat} {x y : α}, l[k]? = some x → ((l.set k y).map g).sum + g x = (l.map g).sum + g y
  | [], _, _, _, h => by cases h
  | a :: l, 0, x, y, h => by cases h; simp only [List.set_cons_zero, List.map_cons, List.sum_cons]; omega
  | a :: l, k + 1, x, y, h => by
    have := sum_set g (l := l) (k := k) (x := x) (y := y) h
    simp only [List.set_cons_succ, List.map_cons, List.sum_cons]
    omega
theorem sum_mem {α : Type} (g : α → Nat) : ∀ {l : List α} {x : α}, x ∈ l → g x ≤ (l.map g).sum
  | a :: l, x, h => by
    rw [List.map_cons, List.sum_cons]
    rcases List.mem_cons.mp h with h | h
    · subst h; omega
    · have := sum_mem g h; omega
theorem core_eq {q q' : RoomS} (e : core q' = core q) : q'.inside = q.inside ∧ q'.line = q.line ∧ q'.late = q.late ∧ q'.rows = q.rows := by
  unfold core at e
  simp only [Prod.mk.injEq] at e
  exact e
section
variable {w : Wld} {s s1 : Scene} {i : Nat} {ex : Int}
theorem cnt_setR {ri : Nat} {q q' : RoomS} (hq : s.rooms[ri]? = some q) (x : Int) : cnt (s.setR ri q') x + cq q x = cnt s x + cq q' x := by
  have := sum_set (fun q => cq q x) (y := q') hq
  show (s.passes.map _).sum + ((s.rooms.set ri q').map fun q => cq q x).sum + _ = (s.passes.map _).sum + (s.rooms.map fun q => cq q x).sum + _
  omega
theorem cnt_setP {k : Nat} {p p' : PassS} (hp : s.passes[k]? = some p) (x : Int) : cnt (s.setP k p') x + p.2.count x = cnt s x + p'.2.count x := by
  have := sum_set (fun p : PassS => p.2.count x) (y := p') hp
  show ((s.passes.set k p').map fun p => p.2.count x).sum + (s.rooms.map fun q => cq q x).sum + _ = (s.passes.map fun p => p.2.count x).sum + (s.rooms.map fun q => cq q x).sum + _
  omega
theorem cq_le {ri : Nat} {q : RoomS} (hq : s.rooms[ri]? = some q) (x : Int) : cq q x ≤ cnt s x := by
  have := sum_mem (fun q => cq q x) (List.mem_of_getElem? hq)
  unfold cnt
  omega
theorem cp_le {k : Nat} {p : PassS} (hp : s.passes[k]? = some p) (x : Int) : p.2.count x ≤ cnt s x := by
  have := sum_mem (fun p : PassS => p.2.count x) (List.mem_of_getElem? hp)
  unfold cnt
  omega
theorem InvX.setR (v : InvX w s ex) {ri : Nat} {q q' : RoomS} (hq : s.rooms[ri]? = some q) (hr : RInv w s.hands ex ri q') (c0 : cnt s i = 0) (c1 : ∀ x : Int, x ≠ i → cq q' x ≤ cq q x) (c2 : cq q' i ≤ 1) : InvX w (s.setR ri q') ex := by
  refine ⟨fun x => ?_, v.pas, fun j p hp => ?_, v.own⟩
  · have h1 := cnt_setR (q' := q') hq x
    by_cases e : x = i
    · subst e; omega
    · have := c1 x e; have := v.one x; omega
  · have hp' : (s.rooms.set ri q')[j]? = some p := hp
    rw [set_get hq] at hp'
    split at hp'
    · rename_i e; subst e; cases hp'; exact hr
    · exact v.rin j p hp'
theorem InvX.setP (v : InvX w s ex) {k : Nat} {p p' : PassS} (hp : s.passes[k]? = some p) (h1 : p'.1 = 0 ∨ p'.2 = []) (h2 : ∀ x ∈ p'.2, Here1 s.hands x (-1)) (c0 : cnt s i = 0) (c1 : ∀ x : Int, x ≠ i → p'.2.count x ≤ p.2.count x) (c2 : p'.2.count (i : Int) ≤ 1) : InvX w (s.setP k p') ex := by
  refine ⟨fun x => ?_, fun z hz => ?_, v.rin, v.own⟩
  · have h1 := cnt_setP (p' := p') hp x
    by_cases e : x = i
    · subst e; omega
    · have := c1 x e; have := v.one x; omega
  · rcases List.mem_or_eq_of_mem_set (show z ∈ s.passes.set k p' from hz) with hz | hz
    · exact v.pas z hz
    · subst hz; exact ⟨h1, h2⟩
theorem cq_mem {q : RoomS} {x : Int} (h : cq q x = 0) : x ∉ q.line ∧ x ∉ q.late ∧ ∀ l ∈ q.rows, ∀ p ∈ l, p.2 ≠ x := by
  unfold cq cc core at h
  simp only [Nat.add_eq_zero_iff] at h
  refine ⟨fun z => ?_, fun z => ?_, fun l hl p hp e => ?_⟩
  · have := List.count_pos_iff.mpr z; omega
  · have := List.count_pos_iff.mpr z; omega
  · have h1 := sum_mem (fun l : List (Int × Int) => (l.map (·.2)).count x) hl
    have : 0 < (l.map (·.2)).count x := List.count_pos_iff.mpr (List.mem_map.mpr ⟨p, hp, e⟩)
    have h2 := h.2
    omega
theorem here_other {hs hs' : List HandN} {x r : Int} (hh : ∀ k : Nat, k ≠ i → hs'[k]? = hs[k]?) (hx : x ≠ i) : Here1 hs x r → Here1 hs' x r := fun ⟨k, h, f, e, h1, h2, h3⟩ => ⟨k, h, f, e, by rw [hh k (by omega)]; exact h1, h2, h3⟩
theorem InvX.hand (v : Inv w s) (er : s1.rooms = s.rooms) (ep : s1.passes = s.passes) (hh : ∀ k : Nat, k ≠ i → s1.hands[k]? = s.hands[k]?) {h h' : HandN} (hi : s.hands[i]? = some h) (hi' : s1.hands[i]? = some h') (c0 : cnt s i = 0)
    (ke : ∀ f ∈ h.2, f.room = ex ∨ ∃ f' ∈ h'.2, f'.room = f.room) (ow : ∃ r, h'.2[0]? = some ⟨-1, -1, r, 0, 0⟩) : InvX w s1 ex := by
  have ec : ∀ x, cnt s1 x = cnt s x := fun x => by unfold cnt; rw [er, ep]
  refine ⟨fun x => by rw [ec]; exact v.one x, fun p hp => ?_, fun ri q hq => ?_, fun z hz => ?_⟩
  · rw [ep] at hp
    obtain ⟨a, b⟩ := v.pas p hp
    obtain ⟨k, hk⟩ := List.mem_iff_getElem?.mp hp
    have := cp_le hk i
    refine ⟨a, fun x hx => here_other hh (fun e => ?_) (b x hx)⟩
    subst e
    have := List.count_pos_iff.mpr hx
    omega
  · rw [er] at hq
    have r := v.rin ri q hq
    have := cq_le hq i
    obtain ⟨n1, n2, n3⟩ := cq_mem (q := q) (x := i) (by omega)
    refine ⟨r.free, ?_, r.emp, fun x hx => here_other hh (fun e => n1 (e ▸ hx)) (r.ln x hx), fun x hx => here_other hh (fun e => n2 (e ▸ hx)) (r.lt x hx), fun l hl p hp => here_other hh (n3 l hl p hp) (r.bl l hl p hp), r.bell⟩
    rcases r.nob with e | e | ⟨k, hk, f, e1, e2, e3, e4⟩
    · exact .inl e
    · omega
    · by_cases e : k = i
      · subst e
        rw [hi] at e2; cases e2
        rcases ke f e3 with e5 | ⟨f', h5, h6⟩
        · exact .inr (.inl (by omega))
        · exact .inr (.inr ⟨k, h', f', e1, hi', h5, h6.trans e4⟩)
      · exact .inr (.inr ⟨k, hk, f, e1, by rw [hh k e]; exact e2, e3, e4⟩)
  · obtain ⟨k, hk⟩ := List.mem_iff_getElem?.mp hz
    by_cases e : k = i
    · subst e; rw [hi'] at hk; cases hk; exact ow
    · rw [hh k e] at hk; exact v.own z (List.mem_of_getElem? hk)
structure Al (s s1 : Scene) : Prop where
  r : s1.rooms.map core = s.rooms.map core
  p : s1.passes = s.passes
  h : s1.hands.map (·.2) = s.hands.map (·.2)
theorem Al.refl (s : Scene) : Al s s := ⟨rfl, rfl, rfl⟩
theorem al_here (a : s1.hands.map (·.2) = s.hands.map (·.2)) {x r : Int} : Here1 s.hands x r → Here1 s1.hands x r := fun ⟨k, h, f, e, h1, h2, h3⟩ => by
  have := congrArg (·[k]?) a
  simp only [List.getElem?_map, h1, Option.map_some] at this
  obtain ⟨h', e1, e2⟩ := Option.map_eq_some_iff.mp this
  exact ⟨k, h', f, e, e1, by rw [e2]; exact h2, h3⟩
theorem al_has (a : s1.hands.map (·.2) = s.hands.map (·.2)) {x r : Int} : Has s.hands x r → Has s1.hands x r := fun ⟨k, h, f, e, h1, h2, h3⟩ => by
  have := congrArg (·[k]?) a
  simp only [List.getElem?_map, h1, Option.map_some] at this
  obtain ⟨h', e1, e2⟩ := Option.map_eq_some_iff.mp this
  exact ⟨k, h', f, e, e1, by rw [e2]; exact h2, h3⟩
theorem Al.inv (a : Al s s1) (v : InvX w s ex) : InvX w s1 ex := by
  refine ⟨fun x => ?_, fun p hp => ?_, fun ri q hq => ?_, fun h hh => ?_⟩
  · have : cnt s1 x = cnt s x := by
      unfold cnt
      have e : ∀ t : Scene, (t.rooms.map fun q => cq q x) = (t.rooms.map core).map fun c => cc c x := fun t => by rw [List.map_map]; rfl
      rw [e s1, e s, a.r, a.p]
    rw [this]; exact v.one x
  · rw [a.p] at hp
    obtain ⟨h1, h2⟩ := v.pas p hp
    exact ⟨h1, fun x hx => al_here a.h (h2 x hx)⟩
  · have := congrArg (·[ri]?) a.r
    simp only [List.getElem?_map, hq, Option.map_some] at this
    obtain ⟨q0, e0, e1⟩ := Option.map_eq_some_iff.mp this.symm
    obtain ⟨k1, k2, k3, k4⟩ := core_eq e1.symm
    have r := v.rin ri q0 e0
    refine ⟨fun rm h1 h2 => by rw [k3]; exact r.free rm h1 h2, ?_, ?_, ?_, ?_, ?_, ?_⟩
    · rw [k1]; exact r.nob.imp id fun h => h.imp id (al_has a.h)
    · rw [k1, k2, k3]; exact r.emp
    · rw [k2]; exact fun x hx => al_here a.h (r.ln x hx)
    · rw [k3]; exact fun x hx => al_here a.h (r.lt x hx)
    · rw [k4]; exact fun l hl p hp => al_here a.h (r.bl l hl p hp)
    · rw [k4]; exact r.bell
  · obtain ⟨k, hk⟩ := List.mem_iff_getElem?.mp hh
    have := congrArg (·[k]?) a.h
    simp only [List.getElem?_map, hk, Option.map_some] at this
    obtain ⟨h0, e0, e1⟩ := Option.map_eq_some_iff.mp this.symm
    obtain ⟨r, er⟩ := v.own h0 (List.mem_of_getElem? e0)
    exact ⟨r, by rw [← e1]; exact er⟩
end
section
variable {w : Wld} {hs : List HandN} {ex : Int} {ri : Nat} {q : RoomS} {i : Nat}
end
section
variable {w : Wld} {s : Scene} {i N : Nat}
end
end Inn
namespace Dw
open PySem L2 Mw Lw Cw Sc St Sa Vl Fl Sp Lk Wk Inn
def r__law_pick_2 : SM := (mRet (mVar 2))
def r__law_pick_1 : SM := (mSeq (mSubSet (mBin gDiv (mBin gIx (mPeek 0) (mC (.int 0))) (mPeek 1)) (mVar 0) (mC (.int 0))) (r__law_pick_2))
def r__law_pick_0 : SM := (mSeq (mSet 2 (mBin gMod (mBin gIx (mPeek 0) (mC (.int 0))) (mPeek 1))) (r__law_pick_1))
def r__law_pick_5 : SM := (mRet (mBin gMod (mBin gDiv (mBin gMod (mBin gMul (mBin gIx (mPeek 0) (mC (.int 1))) (mBin gAdd (mBin gMod (mBin gIx (mPeek 0) (mC (.int 1))) (mC (.int 40009))) (mC (.int 3)))) (mC (.int 2147483587))) (mC (.int 11))) (mPeek 1)))
def r__law_pick_4 : SM := (mSeq (mSubSet (mBin gMod (mBin gAdd (mBin gAdd (mBin gMul (mBin gIx (mPeek 0) (mC (.int 1))) (mC (.int 69621))) (mBin gMul (mC (.int 7919)) (mBin gIx (mPeek 0) (mC (.int 2))))) (mC (.int 1))) (mC (.int 2147483629))) (mVar 0) (mC (.int 1))) (r__law_pick_5))
def r__law_pick_3 : SM := (mSeq (mSubSet (mBin gAdd (mBin gIx (mPeek 0) (mC (.int 2))) (mC (.int 1))) (mVar 0) (mC (.int 2))) (r__law_pick_4))
def r__law_pick : SM := (mSeq (mIf (mBinT gGt (mBin gIx (mPeek 0) (mC (.int 0))) (mC (.int 0))) (r__law_pick_0) mNext) (r__law_pick_3))
abbrev N__law_pick : List Str := ["_law_left", "_law_many", "_law_digit"]
def r__law_world_4 : SM := (mExprX (mMut 6 gmExtend (mCons (mLc (mRng2 (mCons (mC (.int 1)) (mCons (mBin gIx (mPeek 5) (mPeek 4)) mNil))) [7] (tgN 7) mYes (mTup (mCons (mBin gIx (mPeek 2) (mPeek 4)) (mCons (mBin gIx (mPeek 2) (mBin gAdd (mC (.int 8)) (mPeek 7))) mNil)))) mNil)))
def r__law_world_15 : SM := (mExprX (mMut 13 gmAppend (mCons (mTup (mCons (mBin gIx (mPeek 2) (mBin gAdd (mC (.int 8)) (mPeek 7))) (mCons (mArg gTuple (mCons (mPeek 17) mNil)) mNil))) mNil)))
def r__law_world_14 (S__law_deed_row : FSpec) : SM := (mSeq (mSet 17 (mLc (mRng1 (mCons (mVar 14) mNil)) [16] (tgN 16) mYes (mCall 4 S__law_deed_row (mCons (mVar 0) (mCons (mTup (mCons (mVar 10) (mCons (mVar 11) (mCons (mVar 12) mNil)))) (mCons (mTup (mCons (mVar 16) (mCons (mVar 14) mNil))) (mCons (mVar 15) mNil))))))) (r__law_world_15))
def r__law_world_13 (S__law_deed_row : FSpec) : SM := (mSeq (mSet 15 (mBin gRep (mPeek 6) (mArg gInt (mCons (mBin gEq (mPeek 7) (mC (.int 0))) mNil)))) (r__law_world_14 S__law_deed_row))
def r__law_world_12 (S__law_pick : FSpec) (S__law_deed_row : FSpec) : SM := (mSeq (mSet 14 (mBin gAdd (mC (.int 1)) (mCall 2 S__law_pick (mCons (mVar 0) (mCons (mC (.int 3)) mNil))))) (r__law_world_13 S__law_deed_row))
def r__law_world_19 : SM := (mExprX (mMut 8 gmAppend (mCons (mTup (mCons (mBin gIx (mPeek 2) (mPeek 4)) (mCons (mVar 12) (mCons (mVar 20) (mCons (mVar 22) (mCons (mArg gTuple (mCons (mPeek 13) mNil)) mNil)))))) mNil)))
def r__law_world_18 (S__law_pick : FSpec) : SM := (mSeq (mSet 22 (mArg gTuple (mCons (mLc (mIter (mVar 11)) [21] (tgN 21) mYes (mTup (mCons (mVar 21) (mCons (mBin gIx (mLst (mCons (mC (.str "row")) (mCons (mC (.str "turns")) mNil))) (mCall 2 S__law_pick (mCons (mVar 0) (mCons (mC (.int 2)) mNil)))) mNil)))) mNil))) (r__law_world_19))
def r__law_world_17 (S__law_pick : FSpec) : SM := (mSeq (mSet 20 (mArg gTuple (mCons (mLc (mIter (mVar 10)) [19] (tgN 19) mYes (mTup (mCons (mVar 19) (mCons (mCall 2 S__law_pick (mCons (mVar 0) (mCons (mC (.int 3)) mNil))) mNil)))) mNil))) (r__law_world_18 S__law_pick))
def r__law_world_16 (S__law_pick : FSpec) : SM := (mSeq (mFrz [13] (mExprX (mMut 9 gmExtend (mCons (mLc (mIter (mVar 13)) [18] (tgN 18) mYes (mTup (mCons (mBin gIx (mPeek 2) (mPeek 4)) (mCons (mBin gIx (mPeek 18) (mC (.int 0))) mNil)))) mNil)))) (r__law_world_17 S__law_pick))
def r__law_world_11 (S__law_pick : FSpec) (S__law_deed_row : FSpec) : SM := (mSeq (mFor (mRng1 (mCons (mBin gIx (mPeek 5) (mPeek 4)) mNil)) (tgN 7) (r__law_world_12 S__law_pick S__law_deed_row)) (r__law_world_16 S__law_pick))
def r__law_world_10 (S__law_pick : FSpec) (S__law_deed_row : FSpec) : SM := (mSeq (mSetN 13 (mLst mNil)) (r__law_world_11 S__law_pick S__law_deed_row))
def r__law_world_9 (S__law_pick : FSpec) (S__law_deed_row : FSpec) : SM := (mSeq (mSet 12 (mBin gIx (mLst (mCons (mC (.str "at once")) (mCons (mC (.str "when free")) mNil))) (mCall 2 S__law_pick (mCons (mVar 0) (mCons (mC (.int 2)) mNil))))) (r__law_world_10 S__law_pick S__law_deed_row))
def r__law_world_8 (S__law_pick : FSpec) (S__law_deed_row : FSpec) : SM := (mSeq (mSet 11 (mSl gSlA (mSl gSlA (mPeek 2) (mO1 (mBin gIx (mLst (mCons (mC (.int 0)) (mCons (mC (.int 16)) mNil))) (mCall 2 S__law_pick (mCons (mVar 0) (mCons (mC (.int 2)) mNil))))) mO0) mO0 (mO1 (mBin gIx (mLst (mCons (mC (.int 1)) (mCons (mC (.int 0)) (mCons (mC (.int 1)) (mCons (mC (.int 2)) mNil))))) (mCall 2 S__law_pick (mCons (mVar 0) (mCons (mC (.int 4)) mNil))))))) (r__law_world_9 S__law_pick S__law_deed_row))
def r__law_world_7 (S__law_pick : FSpec) (S__law_deed_row : FSpec) : SM := (mSeq (mSet 10 (mSl gSlA (mSl gSlA (mPeek 2) (mO1 (mC (.int 12))) mO0) mO0 (mO1 (mCall 2 S__law_pick (mCons (mVar 0) (mCons (mC (.int 3)) mNil)))))) (r__law_world_8 S__law_pick S__law_deed_row))
def r__law_world_28 : SM := (mExprX (mMut 26 gmAppend (mCons (mTup (mCons (mArg gTuple (mCons (mLc (mIter (mVar 27)) [19] (tgN 19) mYes (mTup (mCons (mVar 19) (mCons (mC (.int 0)) mNil)))) mNil)) (mCons (mArg gTuple (mCons (mPeek 17) mNil)) mNil))) mNil)))
def r__law_world_27 (S__law_hand_row : FSpec) : SM := (mSeq (mFrz [9] (mSet 17 (mLc (mRng1 (mCons (mVar 14) mNil)) [16] (tgN 16) mYes (mCall 5 S__law_hand_row (mCons (mVar 0) (mCons (mVar 29) (mCons (mLc (mIter (mVar 24)) [23, 28] (tgT [(tgN 23), (tgN 28)]) mYes (mVar 23)) (mCons (mTup (mCons (mVar 16) (mCons (mVar 14) mNil))) (mCons (mVar 9) mNil))))))))) (r__law_world_28))
def r__law_world_26 (S__law_hand_row : FSpec) : SM := (mSeq (mSet 29 (mBin gCat (mPeek 27) (mLc (mIter (mVar 25)) [19, 28] (tgT [(tgN 19), (tgN 28)]) mYes (mVar 19)))) (r__law_world_27 S__law_hand_row))
def r__law_world_25 (S__law_pick : FSpec) (S__law_hand_row : FSpec) : SM := (mSeq (mSet 14 (mBin gAdd (mC (.int 1)) (mCall 2 S__law_pick (mCons (mVar 0) (mCons (mVar 1) mNil))))) (r__law_world_26 S__law_hand_row))
def r__law_world_24 (S__law_pick : FSpec) (S__law_hand_row : FSpec) : SM := (mSeq (mSet 27 (mSl gSlA (mSl gSlA (mPeek 2) (mO1 (mC (.int 22))) mO0) mO0 (mO1 (mCall 2 S__law_pick (mCons (mVar 0) (mCons (mC (.int 2)) mNil)))))) (r__law_world_25 S__law_pick S__law_hand_row))
def r__law_world_29 : SM := (mRet (mTup (mCons (mArg gTuple (mCons (mPeek 8) mNil)) (mCons (mVar 24) (mCons (mVar 25) (mCons (mArg gTuple (mCons (mPeek 26) mNil)) mNil))))))
def r__law_world_23 (S__law_pick : FSpec) (S__law_hand_row : FSpec) : SM := (mSeq (mFor (mRng1 (mCons (mBin gIx (mLst (mCons (mC (.int 2)) (mCons (mC (.int 2)) (mCons (mC (.int 3)) (mCons (mC (.int 1)) (mCons (mC (.int 2)) (mCons (mC (.int 4)) mNil))))))) (mCall 2 S__law_pick (mCons (mVar 0) (mCons (mC (.int 6)) mNil)))) mNil)) (tgN 4) (r__law_world_24 S__law_pick S__law_hand_row)) (r__law_world_29))
def r__law_world_22 (S__law_pick : FSpec) (S__law_hand_row : FSpec) : SM := (mSeq (mSetN 26 (mLst mNil)) (r__law_world_23 S__law_pick S__law_hand_row))
def r__law_world_21 (S__law_pick : FSpec) (S__law_hand_row : FSpec) : SM := (mSeq (mSet 25 (mArg gTuple (mCons (mLc (mIter (mSl gSlA (mSl gSlA (mPeek 2) (mO1 (mC (.int 20))) mO0) mO0 (mO1 (mBin gIx (mLst (mCons (mC (.int 0)) (mCons (mC (.int 0)) (mCons (mC (.int 1)) mNil)))) (mCall 2 S__law_pick (mCons (mVar 0) (mCons (mC (.int 3)) mNil))))))) [19] (tgN 19) mYes (mTup (mCons (mVar 19) (mCons (mCall 2 S__law_pick (mCons (mVar 0) (mCons (mC (.int 2)) mNil))) mNil)))) mNil))) (r__law_world_22 S__law_pick S__law_hand_row))
def r__law_world_20 (S__law_pick : FSpec) (S__law_hand_row : FSpec) : SM := (mSeq (mSet 24 (mArg gTuple (mCons (mLc (mIter (mSl gSlA (mSl gSlA (mPeek 2) (mO1 (mC (.int 4))) mO0) mO0 (mO1 (mBin gIx (mLst (mCons (mC (.int 0)) (mCons (mC (.int 1)) (mCons (mC (.int 2)) (mCons (mC (.int 1)) mNil))))) (mCall 2 S__law_pick (mCons (mVar 0) (mCons (mC (.int 4)) mNil))))))) [23] (tgN 23) mYes (mTup (mCons (mVar 23) (mCons (mCall 2 S__law_pick (mCons (mVar 0) (mCons (mC (.int 2)) mNil))) mNil)))) mNil))) (r__law_world_21 S__law_pick S__law_hand_row))
def r__law_world_6 (S__law_pick : FSpec) (S__law_deed_row : FSpec) (S__law_hand_row : FSpec) : SM := (mSeq (mFor (mRng1 (mCons (mVar 3) mNil)) (tgN 4) (r__law_world_7 S__law_pick S__law_deed_row)) (r__law_world_20 S__law_pick S__law_hand_row))
def r__law_world_5 (S__law_pick : FSpec) (S__law_deed_row : FSpec) (S__law_hand_row : FSpec) : SM := (mSeq (mAsg (tgT [(tgN 8), (tgN 9)]) (mTup (mCons (mShare (mLst mNil)) (mCons (mShare (mLst mNil)) mNil)))) (r__law_world_6 S__law_pick S__law_deed_row S__law_hand_row))
def r__law_world_3 (S__law_pick : FSpec) (S__law_deed_row : FSpec) (S__law_hand_row : FSpec) : SM := (mSeq (mFor (mRng1 (mCons (mVar 3) mNil)) (tgN 4) (r__law_world_4)) (r__law_world_5 S__law_pick S__law_deed_row S__law_hand_row))
def r__law_world_2 (S__law_pick : FSpec) (S__law_deed_row : FSpec) (S__law_hand_row : FSpec) : SM := (mSeq (mSetN 6 (mLst mNil)) (r__law_world_3 S__law_pick S__law_deed_row S__law_hand_row))
def r__law_world_1 (S__law_pick : FSpec) (S__law_deed_row : FSpec) (S__law_hand_row : FSpec) : SM := (mSeq (mSet 5 (mLc (mRng1 (mCons (mVar 3) mNil)) [4] (tgN 4) mYes (mBin gAdd (mC (.int 1)) (mCall 2 S__law_pick (mCons (mVar 0) (mCons (mC (.int 2)) mNil)))))) (r__law_world_2 S__law_pick S__law_deed_row S__law_hand_row))
def r__law_world_0 (S__law_pick : FSpec) (S__law_deed_row : FSpec) (S__law_hand_row : FSpec) : SM := (mSeq (mSet 3 (mBin gIx (mLst (mCons (mC (.int 1)) (mCons (mC (.int 2)) (mCons (mC (.int 1)) (mCons (mC (.int 2)) (mCons (mC (.int 3)) (mCons (mC (.int 0)) mNil))))))) (mCall 2 S__law_pick (mCons (mVar 0) (mCons (mC (.int 6)) mNil))))) (r__law_world_1 S__law_pick S__law_deed_row S__law_hand_row))
def r__law_world (S__law_words : FSpec) (S__law_pick : FSpec) (S__law_deed_row : FSpec) (S__law_hand_row : FSpec) : SM := (mSeq (mSet 2 (mCall 2 S__law_words (mCons (mVar 0) (mCons (mC (.int 24)) mNil)))) (r__law_world_0 S__law_pick S__law_deed_row S__law_hand_row))
abbrev N__law_world : List Str := ["_law_left", "_law_most", "_law_words_here", "_law_many", "_law_k", "_law_sizes", "_law_inner", "_law_at", "_law_rooms", "_law_every", "_law_things", "_law_bells", "_law_manner", "_law_deeds", "_law_size", "_law_here", "_law_row", "_law_rows", "_law_deed", "_law_x", "_law_first", "_law_bell", "_law_sorts", "_law_p", "_law_passes", "_law_opened", "_law_hands", "_law_own", "_law_value", "_law_names"]
theorem pick_ok (args : List PV) (et : Hi) (R : PV → Hi → Prop) (h : spDrawC PC args et R) : r__law_pick (env0 N__law_pick args) et (retK R) := by
  obtain ⟨r, m, is, rfl, hr, ⟨a, b, c, rfl, ha, hb, hb2, hc⟩, hm, hm2, hR⟩ := h
  have hr : et[r]? = some (.lst [.int a, .int b, .int c]) := hr
  have hl := (List.getElem?_eq_some_iff.mp hr).1
  show r__law_pick [.val (.ref r), .val (.int m), .no] et (retK R)
  have d0 : deref et (.ref r) = .lst [.int a, .int b, .int c] := deref_ref hr
  unfold r__law_pick
  simp! [d0]
  by_cases h1 : 0 < a
  · simp only [h1, decide_true, if_true]
    simp! [r__law_pick_2, r__law_pick_1, r__law_pick_0, r__law_pick_5, r__law_pick_4, r__law_pick_3, r__law_pick, d0]
    refine ⟨_, if_pos hm, ⟨_, if_pos ⟨hm, hm2⟩, r, [.int a, .int b, .int c], 0, 0, rfl, hr, rfl, rfl, ?_⟩⟩
    exact hR (a % m) [a / m, b, c] (Int.emod_nonneg _ (by omega)) (Int.emod_lt_of_pos _ hm) ⟨_, _, _, rfl, Int.ediv_nonneg ha (by omega), hb, hb2, hc⟩
  · have h1' : decide (0 < a) = false := by simpa using h1
    simp only [h1', Bool.false_eq_true, if_false]
    unfold r__law_pick_3
    simp! [d0]
    refine ⟨r, _, 2, 2, rfl, hr, rfl, rfl, ?_⟩
    have hr2 : (et.set r (.lst [.int a, .int b, .int (c + 1)]))[r]? = some (.lst [.int a, .int b, .int (c + 1)]) := by rw [List.getElem?_set_self hl]
    have d1 : deref (et.set r (.lst [.int a, .int b, .int (c + 1)])) (.ref r) = .lst [.int a, .int b, .int (c + 1)] := deref_ref hr2
    show r__law_pick_4 _ (et.set r (.lst [.int a, .int b, .int (c + 1)])) _
    unfold r__law_pick_4
    simp! [d1]
    refine ⟨_, if_pos (.inr ⟨by decide, by decide⟩), _, if_pos (.inl ⟨by decide, by decide⟩), ?_⟩
    simp!
    refine ⟨_, if_pos (by decide), r, _, 1, 1, rfl, hr2, rfl, rfl, ?_⟩
    generalize hN : (b * 69621 + 7919 * (c + 1) + 1) % 2147483629 = N
    have N0 : 0 ≤ N := by rw [← hN]; exact Int.emod_nonneg _ (by decide)
    have N1 : N < 2147483629 := by rw [← hN]; exact Int.emod_lt_of_pos _ (by decide)
    rw [List.set_set]
    have hr3 : (et.set r (.lst [.int a, .int N, .int (c + 1)]))[r]? = some (.lst [.int a, .int N, .int (c + 1)]) := by rw [List.getElem?_set_self hl]
    have d2 : deref (et.set r (.lst [.int a, .int N, .int (c + 1)])) (.ref r) = .lst [.int a, .int N, .int (c + 1)] := deref_ref hr3
    show r__law_pick_5 _ (et.set r (.lst [.int a, .int N, .int (c + 1)])) _
    unfold r__law_pick_5
    simp! [d2]
    refine ⟨_, if_pos (by decide), _, rfl, _, if_pos (Or.inl ⟨by omega, by omega⟩), _, if_pos (by decide), _, if_pos ⟨by decide, by decide⟩, _, if_pos hm, ?_⟩
    exact hR _ [a, N, c + 1] (Int.emod_nonneg _ (by omega)) (Int.emod_lt_of_pos _ hm) ⟨_, _, _, rfl, ha, N0, by omega, by omega⟩
theorem b01 (b : Bool) : (0 : Int) ≤ (if b = true then 1 else 0) := by cases b <;> decide
def endsD : List Str := ["", "zz", "x", "qqqqqqq"]
theorem endsD_ok : ∀ x ∈ endsD, x.cps.size ≤ 7 ∧ (x.cps.toList.all fun c => decide (97 ≤ c) && decide (c ≤ 122)) = true := by decide +kernel
def wd (f t k : Nat) : Str := ⟨#[97 + (f + t * k) % 26]⟩ ++ endsD[(f + k) % 4]!
theorem ends_get (j : Nat) : endsD[j % 4]! ∈ endsD := by
  have : j % 4 < endsD.length := Nat.mod_lt _ (by decide)
  rw [getElem!_pos endsD (j % 4) this]; exact List.getElem_mem this
theorem wd_ok (f t k : Nat) : isWord (wd f t k) = true := by
  obtain ⟨h1, h2⟩ := endsD_ok _ (ends_get (f + k))
  unfold isWord wd
  rw [cps_append]
  have h3 : (f + t * k) % 26 < 26 := Nat.mod_lt _ (by decide)
  simp only [Array.size_append, Array.toList_append, List.all_append, h2]
  simp only [List.all_cons, List.all_nil, Bool.and_true, Bool.and_eq_true, decide_eq_true_eq]
  refine ⟨⟨?_, ?_⟩, ?_, ?_⟩
  · show 1 ≤ 1 + _; omega
  · show 1 + _ ≤ 8; omega
  · omega
  · omega
theorem wd_first (f t k : Nat) : (wd f t k).cps.toList[0]? = some (97 + (f + t * k) % 26) := by
  unfold wd; rw [cps_append, Array.toList_append]; rfl
theorem wd_inj {f t j k : Nat} (ht : t ∈ turns) (hj : j < 26) (hk : k < 26) (h : wd f t j = wd f t k) : j = k := by
  have h1 := wd_first f t j
  rw [h, wd_first] at h1
  have h2 : (f + t * k) % 26 = (f + t * j) % 26 := by
    have := Option.some.inj h1; omega
  rcases Nat.le_total j k with hle | hle
  · obtain ⟨d, rfl⟩ := Nat.exists_eq_add_of_le hle
    have h3 : t * (j + d) = t * j + t * d := Nat.mul_add _ _ _
    have := turn_inj t ht d (by omega) (by omega)
    omega
  · obtain ⟨d, rfl⟩ := Nat.exists_eq_add_of_le hle
    have h3 : t * (k + d) = t * k + t * d := Nat.mul_add _ _ _
    have := turn_inj t ht d (by omega) (by omega)
    omega
def wds (f t n : Nat) : List Str := (List.range n).map (wd f t)
theorem wds_ok (f t n : Nat) : ∀ x ∈ wds f t n, isWord x = true := fun x hx => by
  obtain ⟨k, _, rfl⟩ := List.mem_map.mp hx; exact wd_ok f t k
theorem wds_nodup {f t n : Nat} (ht : t ∈ turns) (hn : n ≤ 26) : (wds f t n).Nodup := nodup_map_on List.nodup_range fun x hx y hy h =>
  wd_inj ht (by have := List.mem_range.mp hx; omega) (by have := List.mem_range.mp hy; omega) h
structure Wds (many : Nat) (ws : List Str) : Prop where
  len : ws.length = many
  srt : ws.Pairwise leS
  nd : ws.Nodup
  w : ∀ x ∈ ws, isWord x = true
theorem gEq_of_gNe {p q : PV} {b : Bool} (h : gNe p q = some (.bl (!b))) : gEq p q = some (.bl b) := by
  unfold gNe at h
  unfold gEq
  cases e : eqB p q with
  | none => rw [e] at h; cases h
  | some c =>
    rw [e] at h
    have : (!c) = !b := by injection h with h; injection h
    have : c = b := by cases b <;> cases c <;> simp_all
    rw [this]; rfl
theorem cat_strs {a b : List Str} (h : a.length + b.length ≤ 1000) : gCat (.lst (a.map .str)) (.lst (b.map .str)) = some (.lst ((a ++ b).map .str)) := by
  have big : (2000 : Nat) ≤ sizeLine := by decide
  show (if (a.map PV.str).length + (b.map PV.str).length ≤ sizeLine then some (PV.lst (a.map .str ++ b.map .str)) else none) = _
  rw [if_pos (by rw [List.length_map, List.length_map]; omega), List.map_append]
theorem rng_at {n i : Nat} {p : PV} (h : (rng 0 ((n : Int)).toNat)[i]? = some p) : p = .int (i : Nat) ∧ i < n := by
  unfold rng at h
  rw [Int.toNat_natCast, List.getElem?_map] at h
  by_cases c : i < n
  · rw [List.getElem?_range c] at h
    cases h
    exact ⟨by simp, c⟩
  · rw [List.getElem?_eq_none (by rw [List.length_range]; omega)] at h; cases h
theorem rng_len (n : Nat) : (rng 0 ((n : Int)).toNat).length = n := by unfold rng; simp
end Dw
namespace De
open PySem L2 Mw Lw Cw
def r__law_hand_1 : SM := (mRet (mShare (mLst (mCons (mVar 3) (mCons (mBin gMod (mBin gMul (mBin gAdd (mBin gAdd (mBin gMod (mPeek 2) (mC (.int 2147483629))) (mBin gMul (mBin gMul (mC (.int 7919)) (mPeek 1)) (mPeek 1))) (mC (.int 11))) (mC (.int 48271))) (mC (.int 2147483647))) (mCons (mC (.int 0)) mNil))))))
def r__law_hand_0 : SM := (mSeq (mSet 3 (mBin gMul (mArg gAbs (mCons (mPeek 2) mNil)) (mArg gInt (mCons (mBin gGe (mArg gAbs (mCons (mPeek 2) mNil)) (mBin gPow (mC (.int 10)) (mC (.int 18)))) mNil)))) (r__law_hand_1))
def r__law_hand : SM := (mSeq (mSet 2 (mIfE (mBinT gLt (mPeek 1) (mArg gLen (mCons (mPeek 0) mNil))) (mBin gIx (mPeek 0) (mPeek 1)) (mC (.int 0)))) (r__law_hand_0))
abbrev N__law_hand : List Str := ["_law_script", "_law_k", "_law_cell", "_law_great"]
def r__law_take_3 : SM := (mRet (mVar 2))
def r__law_take_2 : SM := (mSeq (mSubSet (mBin gDiv (mBin gIx (mPeek 0) (mC (.int 0))) (mPeek 1)) (mVar 0) (mC (.int 0))) (r__law_take_3))
def r__law_take_1 : SM := (mSeq (mSet 2 (mBin gMod (mBin gIx (mPeek 0) (mC (.int 0))) (mPeek 1))) (r__law_take_2))
def r__law_take_5 : SM := (mRet (mBin gMod (mBin gDiv (mBin gMod (mBin gMul (mBin gIx (mPeek 0) (mC (.int 1))) (mBin gAdd (mBin gMod (mBin gIx (mPeek 0) (mC (.int 1))) (mC (.int 40009))) (mC (.int 3)))) (mC (.int 2147483629))) (mC (.int 7))) (mPeek 1)))
def r__law_take_4 : SM := (mSeq (mSubSet (mBin gMod (mBin gAdd (mBin gAdd (mBin gMul (mBin gIx (mPeek 0) (mC (.int 1))) (mC (.int 48271))) (mC (.int 12345))) (mBin gIx (mPeek 0) (mC (.int 2)))) (mC (.int 2147483647))) (mVar 0) (mC (.int 1))) (r__law_take_5))
def r__law_take_0 : SM := (mSeq (mIf (mAndT (mBinT gGt (mBin gIx (mPeek 0) (mC (.int 0))) (mC (.int 0))) (mBinT gLe (mBin gIx (mPeek 0) (mC (.int 2))) (mC (.int 60)))) (r__law_take_1) mNext) (r__law_take_4))
def r__law_take : SM := (mSeq (mSubSet (mBin gAdd (mBin gIx (mPeek 0) (mC (.int 2))) (mC (.int 1))) (mVar 0) (mC (.int 2))) (r__law_take_0))
abbrev N__law_take : List Str := ["_law_hand_here", "_law_many", "_law_digit"]
def r__law_pick (S__law_take : FSpec) : SM := (mRet (mBin gIx (mPeek 1) (mCall 2 S__law_take (mCons (mVar 0) (mCons (mArg gLen (mCons (mPeek 1) mNil)) mNil)))))
abbrev N__law_pick : List Str := ["_law_hand_here", "_law_some"]
def r__law_sum_2 (S__law_pick : FSpec) : SM := (mRet (mCall 2 S__law_pick (mCons (mVar 0) (mCons (mVar 1) mNil))))
def r__law_sum_3 (S__law_take : FSpec) : SM := (mRet (mBin gIx (mLst (mCons (mC (.int 0)) (mCons (mC (.int 1)) (mCons (mC (.int 2)) (mCons (mCall 2 S__law_take (mCons (mVar 0) (mCons (mC (.int 10)) mNil))) mNil))))) (mCall 2 S__law_take (mCons (mVar 0) (mCons (mC (.int 4)) mNil)))))
def r__law_sum_1 (S__law_take : FSpec) (S__law_pick : FSpec) : SM := (mSeq (mIf (mAndT (mBinT gNe (mPeek 1) (mLst mNil)) (mBinT gGt (mCall 2 S__law_take (mCons (mVar 0) (mCons (mC (.int 3)) mNil))) (mC (.int 0)))) (r__law_sum_2 S__law_pick) mNext) (r__law_sum_3 S__law_take))
def r__law_sum_5 (S__law_pick : FSpec) : SM := (mRet (mTup (mCons (mC (.str "waits")) (mCons (mCall 2 S__law_pick (mCons (mVar 0) (mCons (mVar 2) mNil))) mNil))))
def r__law_sum_7 (S__law_sum : FSpec) : SM := (mRet (mTup (mCons (mC (.str "not")) (mCons (mCall 4 S__law_sum (mCons (mVar 0) (mCons (mVar 1) (mCons (mVar 2) (mCons (mBin gSubI (mPeek 3) (mC (.int 1))) mNil))))) mNil))))
def r__law_sum_10 (S__law_sum : FSpec) : SM := (mRet (mTup (mCons (mVar 5) (mCons (mVar 6) (mCons (mCall 4 S__law_sum (mCons (mVar 0) (mCons (mVar 1) (mCons (mVar 2) (mCons (mBin gSubI (mPeek 3) (mC (.int 1))) mNil))))) mNil)))))
def r__law_sum_9 (S__law_sum : FSpec) : SM := (mSeq (mSet 6 (mCall 4 S__law_sum (mCons (mVar 0) (mCons (mVar 1) (mCons (mVar 2) (mCons (mBin gSubI (mPeek 3) (mC (.int 1))) mNil)))))) (r__law_sum_10 S__law_sum))
def r__law_sum_8 (S__law_take : FSpec) (S__law_sum : FSpec) : SM := (mSeq (mSet 5 (mBin gIx (mLst (mCons (mC (.str "plus")) (mCons (mC (.str "minus")) (mCons (mC (.str "less")) (mCons (mC (.str "same")) (mCons (mC (.str "both")) mNil)))))) (mCall 2 S__law_take (mCons (mVar 0) (mCons (mC (.int 5)) mNil))))) (r__law_sum_9 S__law_sum))
def r__law_sum_6 (S__law_take : FSpec) (S__law_sum : FSpec) : SM := (mSeq (mIf (mBinT gLt (mPeek 4) (mC (.int 6))) (r__law_sum_7 S__law_sum) mNext) (r__law_sum_8 S__law_take S__law_sum))
def r__law_sum_4 (S__law_take : FSpec) (S__law_pick : FSpec) (S__law_sum : FSpec) : SM := (mSeq (mIf (mAndT (mBinT gEq (mPeek 4) (mC (.int 4))) (mBinT gNe (mPeek 2) (mLst mNil))) (r__law_sum_5 S__law_pick) mNext) (r__law_sum_6 S__law_take S__law_sum))
def r__law_sum_0 (S__law_take : FSpec) (S__law_pick : FSpec) (S__law_sum : FSpec) : SM := (mSeq (mIf (mOrT (mBinT gEq (mPeek 3) (mC (.int 0))) (mBinT gLt (mPeek 4) (mC (.int 4)))) (r__law_sum_1 S__law_take S__law_pick) mNext) (r__law_sum_4 S__law_take S__law_pick S__law_sum))
def r__law_sum (S__law_take : FSpec) (S__law_pick : FSpec) (S__law_sum : FSpec) : SM := (mSeq (mSet 4 (mCall 2 S__law_take (mCons (mVar 0) (mCons (mC (.int 9)) mNil)))) (r__law_sum_0 S__law_take S__law_pick S__law_sum))
abbrev N__law_sum : List Str := ["_law_hand_here", "_law_words", "_law_bells", "_law_deep", "_law_way", "_law_word", "_law_one"]
def r__law_deed_3 (S__law_mended : FSpec) : SM := (mSet 6 (mBin gAdd (mCall 2 S__law_mended (mCons (mVar 3) (mCons (mArg gLen (mCons (mPeek 4) mNil)) mNil))) (mSl gSlA (mPeek 6) (mO1 (mUn gNeg (mC (.int 1)))) mO0)))
def r__law_deed_4 : SM := (mExprX (mMut 4 gmExtend (mCons (mVar 6) mNil)))
def r__law_deed_2 (S__law_mended : FSpec) : SM := (mSeq (mIf (mAndT (mBinT gIn (mBin gIx (mBin gIx (mPeek 6) (mUn gNeg (mC (.int 1)))) (mC (.int 0))) (mTup (mCons (mC (.str "wait")) (mCons (mC (.str "call")) mNil)))) (mBinT gIsNot (mPeek 3) (mC .non))) (r__law_deed_3 S__law_mended) mNext) (r__law_deed_4))
def r__law_deed_1 (S__law_rows : FSpec) (S__law_mended : FSpec) : SM := (mSeq (mSet 6 (mCall 4 S__law_rows (mCons (mVar 0) (mCons (mVar 1) (mCons (mVar 2) (mCons (mArg gLen (mCons (mPeek 4) mNil)) mNil)))))) (r__law_deed_2 S__law_mended))
def r__law_deed_6 (S__law_mended : FSpec) : SM := (mExprX (mMut 4 gmExtend (mCons (mCall 2 S__law_mended (mCons (mVar 3) (mCons (mArg gLen (mCons (mPeek 4) mNil)) mNil))) mNil)))
def r__law_deed_7 : SM := (mRet (mArg gTuple (mCons (mPeek 4) mNil)))
def r__law_deed_5 (S__law_mended : FSpec) : SM := (mSeq (mIf (mBinT gIsNot (mPeek 3) (mC .non)) (r__law_deed_6 S__law_mended) mNext) (r__law_deed_7))
def r__law_deed_0 (S__law_take : FSpec) (S__law_rows : FSpec) (S__law_mended : FSpec) : SM := (mSeq (mFor (mRng1 (mCons (mBin gAdd (mC (.int 1)) (mCall 2 S__law_take (mCons (mVar 0) (mCons (mC (.int 3)) mNil)))) mNil)) (tgN 5) (r__law_deed_1 S__law_rows S__law_mended)) (r__law_deed_5 S__law_mended))
def r__law_deed (S__law_take : FSpec) (S__law_rows : FSpec) (S__law_mended : FSpec) : SM := (mSeq (mSetN 4 (mLst mNil)) (r__law_deed_0 S__law_take S__law_rows S__law_mended))
abbrev N__law_deed : List Str := ["_law_hand_here", "_law_room_here", "_law_later", "_law_mend", "_law_rows_here", "_law_k", "_law_some"]
def r__law_room_4 (S__law_deed : FSpec) : SM := (mExprX (mMut 7 gmAppend (mCons (mTup (mCons (mVar 8) (mCons (mCall 4 S__law_deed (mCons (mVar 0) (mCons (mVar 11) (mCons (mVar 2) (mCons (mVar 4) mNil))))) mNil))) mNil)))
def r__law_room_3 (S__law_deed : FSpec) : SM := (mSeq (mSet 11 (mTup (mCons (mVar 5) (mCons (mLc (mIter (mVar 3)) [9, 10] (tgT [(tgN 9), (tgN 10)]) mYes (mVar 9)) (mCons (mVar 6) mNil))))) (r__law_room_4 S__law_deed))
def r__law_room_6 : SM := (mRet (mTup (mCons (mVar 1) (mCons (mVar 5) (mCons (mArg gTuple (mCons (mPeek 3) mNil)) (mCons (mVar 13) (mCons (mArg gTuple (mCons (mPeek 7) mNil)) mNil)))))))
def r__law_room_5 (S__law_take : FSpec) : SM := (mSeq (mSet 13 (mArg gTuple (mCons (mLc (mIter (mVar 6)) [12] (tgN 12) mYes (mTup (mCons (mVar 12) (mCons (mBin gIx (mLst (mCons (mC (.str "row")) (mCons (mC (.str "turns")) mNil))) (mCall 2 S__law_take (mCons (mVar 0) (mCons (mC (.int 2)) mNil)))) mNil)))) mNil))) (r__law_room_6))
def r__law_room_2 (S__law_take : FSpec) (S__law_deed : FSpec) : SM := (mSeq (mFor (mIter (mSl gSlL (mLst (mCons (mC (.str "deed")) (mCons (mC (.str "further")) mNil))) mO0 (mO1 (mBin gAdd (mC (.int 1)) (mCall 2 S__law_take (mCons (mVar 0) (mCons (mC (.int 2)) mNil))))))) (tgN 8) (r__law_room_3 S__law_deed)) (r__law_room_5 S__law_take))
def r__law_room_1 (S__law_take : FSpec) (S__law_deed : FSpec) : SM := (mSeq (mSetN 7 (mLst mNil)) (r__law_room_2 S__law_take S__law_deed))
def r__law_room_0 (S__law_take : FSpec) (S__law_pick : FSpec) (S__law_deed : FSpec) : SM := (mSeq (mSet 6 (mSl gSlL (mLst (mCons (mC (.str "bell")) (mCons (mC (.str "gong")) mNil))) mO0 (mO1 (mCall 2 S__law_pick (mCons (mVar 0) (mCons (mLst (mCons (mC (.int 0)) (mCons (mC (.int 1)) (mCons (mC (.int 1)) (mCons (mC (.int 2)) mNil))))) mNil)))))) (r__law_room_1 S__law_take S__law_deed))
def r__law_room (S__law_take : FSpec) (S__law_pick : FSpec) (S__law_deed : FSpec) : SM := (mSeq (mSet 5 (mBin gIx (mLst (mCons (mC (.str "at once")) (mCons (mC (.str "when free")) mNil))) (mCall 2 S__law_take (mCons (mVar 0) (mCons (mC (.int 2)) mNil))))) (r__law_room_0 S__law_take S__law_pick S__law_deed))
abbrev N__law_room : List Str := ["_law_hand_here", "_law_name", "_law_later", "_law_begins", "_law_mend", "_law_manner", "_law_bells", "_law_some", "_law_word", "_law_thing", "_law_value_here", "_law_room_here", "_law_bell", "_law_sorts"]
def r__law_program_6 (S__law_sum : FSpec) : SM := (mExprX (mMut 5 gmAppend (mCons (mTup (mCons (mC (.str "do")) (mCons (mVar 10) (mCons (mBin gIx (mPeek 8) (mC (.int 0))) (mCons (mVar 9) (mCons (mCall 4 S__law_sum (mCons (mVar 0) (mCons (mVar 2) (mCons (mLst mNil) (mCons (mC (.int 1)) mNil))))) mNil)))))) mNil)))
def r__law_program_5 (S__law_take : FSpec) (S__law_pick : FSpec) (S__law_sum : FSpec) : SM := (mSeq (mSet 10 (mBin gIx (mLst (mCons (mC .non) (mCons (mCall 2 S__law_pick (mCons (mVar 0) (mCons (mBin gCat (mPeek 2) (mLst (mCons (mC .non) mNil))) mNil))) mNil))) (mCall 2 S__law_take (mCons (mVar 0) (mCons (mC (.int 2)) mNil))))) (r__law_program_6 S__law_sum))
def r__law_program_4 (S__law_take : FSpec) (S__law_pick : FSpec) (S__law_sum : FSpec) : SM := (mSeq (mSet 9 (mBin gIx (mCall 2 S__law_pick (mCons (mVar 0) (mCons (mArg gList (mCons (mBin gIx (mPeek 8) (mC (.int 4))) mNil)) mNil))) (mC (.int 0)))) (r__law_program_5 S__law_take S__law_pick S__law_sum))
def r__law_program_3 (S__law_take : FSpec) (S__law_pick : FSpec) (S__law_sum : FSpec) : SM := (mSeq (mSet 8 (mCall 2 S__law_pick (mCons (mVar 0) (mCons (mVar 1) mNil)))) (r__law_program_4 S__law_take S__law_pick S__law_sum))
def r__law_program_8 (S__law_take : FSpec) : SM := (mExprX (mMut 5 gmAppend (mCons (mBin gIx (mLst (mCons (mTup (mCons (mC (.str "take")) (mCons (mC (.str "pass")) mNil))) (mCons (mTup (mCons (mC (.str "give")) (mCons (mC (.str "pass")) mNil))) mNil))) (mCall 2 S__law_take (mCons (mVar 0) (mCons (mC (.int 2)) mNil)))) mNil)))
def r__law_program_10 (S__law_pick : FSpec) (S__law_sum : FSpec) : SM := (mExprX (mMut 5 gmAppend (mCons (mTup (mCons (mC (.str "put")) (mCons (mCall 2 S__law_pick (mCons (mVar 0) (mCons (mVar 2) mNil))) (mCons (mCall 4 S__law_sum (mCons (mVar 0) (mCons (mVar 2) (mCons (mLst mNil) (mCons (mC (.int 1)) mNil))))) mNil)))) mNil)))
def r__law_program_11 (S__law_sum : FSpec) : SM := (mExprX (mMut 5 gmAppend (mCons (mTup (mCons (mC (.str "say")) (mCons (mCall 4 S__law_sum (mCons (mVar 0) (mCons (mVar 2) (mCons (mLst mNil) (mCons (mC (.int 1)) mNil))))) mNil))) mNil)))
def r__law_program_9 (S__law_pick : FSpec) (S__law_sum : FSpec) : SM := (mIf (mAndT (mBinT gEq (mPeek 7) (mC (.int 5))) (mBinT gNe (mPeek 2) (mLst mNil))) (r__law_program_10 S__law_pick S__law_sum) (r__law_program_11 S__law_sum))
def r__law_program_7 (S__law_take : FSpec) (S__law_pick : FSpec) (S__law_sum : FSpec) : SM := (mIf (mAndT (mBinT gEq (mPeek 7) (mC (.int 4))) (mBinT gNe (mPeek 3) (mTup mNil))) (r__law_program_8 S__law_take) (r__law_program_9 S__law_pick S__law_sum))
def r__law_program_2 (S__law_take : FSpec) (S__law_pick : FSpec) (S__law_sum : FSpec) : SM := (mIf (mAndT (mBinT gLt (mPeek 7) (mC (.int 4))) (mBinT gNe (mPeek 1) (mLst mNil))) (r__law_program_3 S__law_take S__law_pick S__law_sum) (r__law_program_7 S__law_take S__law_pick S__law_sum))
def r__law_program_1 (S__law_take : FSpec) (S__law_pick : FSpec) (S__law_sum : FSpec) : SM := (mSeq (mSet 7 (mCall 2 S__law_take (mCons (mVar 0) (mCons (mC (.int 8)) mNil)))) (r__law_program_2 S__law_take S__law_pick S__law_sum))
def r__law_program_12 : SM := (mRet (mArg gTuple (mCons (mPeek 5) mNil)))
def r__law_program_0 (S__law_take : FSpec) (S__law_pick : FSpec) (S__law_sum : FSpec) : SM := (mSeq (mFor (mRng1 (mCons (mBin gAdd (mC (.int 1)) (mCall 2 S__law_take (mCons (mVar 0) (mCons (mVar 4) mNil)))) mNil)) (tgN 6) (r__law_program_1 S__law_take S__law_pick S__law_sum)) (r__law_program_12))
def r__law_program (S__law_take : FSpec) (S__law_pick : FSpec) (S__law_sum : FSpec) : SM := (mSeq (mSetN 5 (mLst mNil)) (r__law_program_0 S__law_take S__law_pick S__law_sum))
abbrev N__law_program : List Str := ["_law_hand_here", "_law_rooms", "_law_words", "_law_passes", "_law_many", "_law_rows_here", "_law_k", "_law_way", "_law_room_here", "_law_deed_here", "_law_goal"]
theorem take_ok (args : List PV) (et : Hi) (R : PV → Hi → Prop) (h : spDrawC PC args et R) : r__law_take (env0 N__law_take args) et (retK R) := by
  obtain ⟨r, m, is, rfl, hr, ⟨a, b, c, rfl, ha, hb, hb2, hc⟩, hm, hm2, hR⟩ := h
  have hr : et[r]? = some (.lst [.int a, .int b, .int c]) := hr
  have hl := (List.getElem?_eq_some_iff.mp hr).1
  show r__law_take [.val (.ref r), .val (.int m), .no] et (retK R)
  have d0 : deref et (.ref r) = .lst [.int a, .int b, .int c] := deref_ref hr
  unfold r__law_take
  simp! [d0]
  refine ⟨r, _, 2, 2, rfl, hr, rfl, rfl, ?_⟩
  have hr2 : (et.set r (.lst [.int a, .int b, .int (c + 1)]))[r]? = some (.lst [.int a, .int b, .int (c + 1)]) := by rw [List.getElem?_set_self hl]
  have d1 : deref (et.set r (.lst [.int a, .int b, .int (c + 1)])) (.ref r) = .lst [.int a, .int b, .int (c + 1)] := deref_ref hr2
  show r__law_take_0 _ (et.set r (.lst [.int a, .int b, .int (c + 1)])) _
  have rest : r__law_take_4 [.val (.ref r), .val (.int m), .no] (et.set r (.lst [.int a, .int b, .int (c + 1)])) (retK R) := by
    unfold r__law_take_4
    simp! [d1]
    refine ⟨_, if_pos (.inr ⟨by decide, by decide⟩), ?_⟩
    simp!
    refine ⟨_, if_pos (by decide), r, _, 1, 1, rfl, hr2, rfl, rfl, ?_⟩
    generalize hN : (b * 48271 + 12345 + (c + 1)) % 2147483647 = N
    have N0 : 0 ≤ N := by rw [← hN]; exact Int.emod_nonneg _ (by decide)
    have N1 : N < 2147483647 := by rw [← hN]; exact Int.emod_lt_of_pos _ (by decide)
    rw [List.set_set]
    have hr3 : (et.set r (.lst [.int a, .int N, .int (c + 1)]))[r]? = some (.lst [.int a, .int N, .int (c + 1)]) := by rw [List.getElem?_set_self hl]
    have d2 : deref (et.set r (.lst [.int a, .int N, .int (c + 1)])) (.ref r) = .lst [.int a, .int N, .int (c + 1)] := deref_ref hr3
    show r__law_take_5 _ (et.set r (.lst [.int a, .int N, .int (c + 1)])) _
    unfold r__law_take_5
    simp! [d2]
    refine ⟨_, if_pos (by decide), _, rfl, _, if_pos (Or.inl ⟨by omega, by omega⟩), _, if_pos (by decide), _, if_pos ⟨by decide, by decide⟩, _, if_pos hm, ?_⟩
    exact hR _ [a, N, c + 1] (Int.emod_nonneg _ (by omega)) (Int.emod_lt_of_pos _ hm) ⟨_, _, _, rfl, ha, N0, by omega, by omega⟩
  unfold r__law_take_0
  simp! [d1]
  by_cases h1 : 0 < a
  · rw [if_pos (decide_eq_true h1)]
    by_cases h2 : c + 1 ≤ 60
    · rw [if_pos (decide_eq_true h2)]
      simp! [r__law_take_3, r__law_take_2, r__law_take_1, r__law_take_5, r__law_take_4, r__law_take_0, r__law_take, d1]
      refine ⟨_, if_pos hm, _, if_pos ⟨hm, hm2⟩, r, _, 0, 0, rfl, hr2, rfl, rfl, ?_⟩
      rw [List.set_set]
      exact hR (a % m) [a / m, b, c + 1] (Int.emod_nonneg _ (by omega)) (Int.emod_lt_of_pos _ hm) ⟨_, _, _, rfl, Int.ediv_nonneg ha (by omega), hb, hb2, by omega⟩
    · rw [if_neg (by rw [decide_eq_false h2]; decide)]
      exact rest
  · rw [if_neg (by rw [decide_eq_false h1]; decide)]
    exact rest
theorem b01 (b : Bool) : (0 : Int) ≤ (if b = true then 1 else 0) := by cases b <;> decide
theorem hand_ok (args : List PV) (et : Hi) (R : PV → Hi → Prop) (h : spNewC 2 PC okPot args et R) : r__law_hand (env0 N__law_hand args) et (retK R) := by
  obtain ⟨⟨ns, k, rfl, hk⟩, _, hR⟩ := h
  show r__law_hand [.val (.scr ns), .val (.int k), .no, .no] et (retK R)
  have p18 : gPow (.int 10) (.int 18) = some (.int (10 ^ 18)) := rfl
  have rest : ∀ c : Int, r__law_hand_0 [.val (.scr ns), .val (.int k), .val (.int c), .no] et (retK R) := fun c => by
    unfold r__law_hand_0
    have hab : gAbs [.int c] = some (.int (if c < 0 then -c else c)) := rfl
    have q2 : ∀ b : Bool, gInt [.bl b] = some (.int (if b = true then 1 else 0)) := fun _ => rfl
    simp! [hab, q2]
    have hb : ∀ b : Bool, -2 ^ 64 < (if b = true then (1 : Int) else 0) ∧ (if b = true then (1 : Int) else 0) < 2 ^ 64 := fun b => by cases b <;> exact ⟨by decide, by decide⟩
    refine ⟨.int (10 ^ 18), by rw [if_pos ⟨by decide, by decide, by decide⟩]; rfl, _, rfl, _, q2 _, _, if_pos (Or.inr (hb _)), ?_⟩
    unfold r__law_hand_1
    simp!
    refine ⟨_, if_pos (by decide), _, if_pos (Or.inl ⟨by decide, by decide⟩), _, if_pos (Or.inr ⟨by omega, by omega⟩), _, rfl, _, rfl, _, if_pos (Or.inr ⟨by decide, by decide⟩), _, if_pos (by decide), ?_⟩
    refine ⟨by decide, hR [_, _, 0] ⟨_, _, _, rfl, ?_, Int.emod_nonneg _ (by decide), ?_, by decide⟩⟩
    · have h1 : (0 : Int) ≤ (if c < 0 then -c else c) := by split <;> omega
      exact Int.mul_nonneg h1 (b01 _)
    · have := Int.emod_lt_of_pos ((c % 2147483629 + 7919 * k * k + 11) * 48271) (show (0 : Int) < 2147483647 by decide)
      omega
  unfold r__law_hand
  have hlen : gLen [.scr ns] = some (.int ns.length) := rfl
  simp! [hlen]
  by_cases h : (k : Int) < ns.length
  · rw [if_pos (decide_eq_true h)]
    obtain ⟨x, e⟩ : ∃ x, atI ns (k : Int) = some x := ⟨ns[k]'(by omega), atI_nat (List.getElem?_eq_getElem (by omega))⟩
    rw [e]
    exact ⟨_, rfl, rest x⟩
  · rw [if_neg (by rw [decide_eq_false h]; decide)]
    exact rest 0
theorem pick_ok (args : List PV) (et : Hi) (R : PV → Hi → Prop) (h : spPick args et R) : r__law_pick spTk (env0 N__law_pick args) et (retK R) := by
  obtain ⟨r, xs, rfl, hr, h0, h1, hR⟩ := h
  show r__law_pick _ [.val (.ref r), .val (.lst xs)] et (retK R)
  have hlen : gLen [.lst xs] = some (.int xs.length) := rfl
  simp! [r__law_pick, hlen]
  refine tk hr (by omega) (by omega) fun d d0 d1 => ?_
  obtain ⟨x, hx, e⟩ := atI_some d0 d1
  simp! [e]
  exact hR x hx
theorem sum_ok (j : Nat) (args : List PV) (et : Hi) (R : PV → Hi → Prop) (h : Cw.spSum (j + 1) args et R) : r__law_sum spTk spPick (Cw.spSum j) (env0 N__law_sum args) et (retK R) := by
  obtain ⟨r, deep, ws, bs, rfl, hp, hj, hw, hb, lw, lb, hR⟩ := h
  show r__law_sum _ _ _ [.val (.ref r), .val (.lst (ws.map .str)), .val (.lst (bs.map .str)), .val (.int deep), .no, .no, .no] et (retK R)
  unfold r__law_sum
  simp!
  refine tk hp.1 (by decide) (by decide) fun d d0 d1 => ?_
  unfold r__law_sum_0
  simp!
  have leaf : r__law_sum_1 spTk spPick [.val (.ref r), .val (.lst (ws.map .str)), .val (.lst (bs.map .str)), .val (.int deep), .val (.int d), .no, .no] et (retK R) := by
    have val : r__law_sum_3 spTk [.val (.ref r), .val (.lst (ws.map .str)), .val (.lst (bs.map .str)), .val (.int deep), .val (.int d), .no, .no] et (retK R) := by
      unfold r__law_sum_3
      simp!
      refine tk hp.1 (by decide) (by decide) fun d3 f0 f1 => ?_
      refine ⟨by decide, ?_⟩
      refine tk hp.1 (by decide) (by decide) fun d2 e0 e1 => ?_
      obtain ⟨x, hx, e⟩ := atI_some (xs := [.int 0, .int 1, .int 2, .int d3]) e0 (by simpa using e1)
      simp! [e]
      have go : ∀ v : Int, 0 ≤ v → v ≤ 9 → R (.int v) et := fun v v0 v1 => by
        have := hR (.val v.toNat) (by simp [Sm.dep]) (show v.toNat ≤ 9 by omega)
        have e : ((v.toNat : Nat) : Int) = v := by omega
        simp only [Sm.pv, e] at this
        exact this
      simp only [List.mem_cons, List.not_mem_nil, or_false] at hx
      rcases hx with rfl | rfl | rfl | rfl
      · exact go 0 (by decide) (by decide)
      · exact go 1 (by decide) (by decide)
      · exact go 2 (by decide) (by decide)
      · exact go d3 f0 (by omega)
    unfold r__law_sum_1
    simp! [gNe_words hw]
    refine ⟨by decide, ?_⟩
    cases ws with
    | nil => simpa using val
    | cons x xs =>
      simp only [List.isEmpty_cons, Bool.not_false, if_true]
      refine tk hp.1 (by decide) (by decide) fun d2 e0 e1 => ?_
      simp!
      by_cases h3 : 0 < d2
      · simp only [h3, decide_true, if_true]
        unfold r__law_sum_2
        simp!
        refine pick hp.1 (by simp) (by simp at lw ⊢; omega) fun y hy => ?_
        obtain ⟨z, hz, rfl⟩ : ∃ z ∈ x :: xs, y = .str z := by
          obtain ⟨z, hz, e⟩ := List.mem_map.mp (show y ∈ (x :: xs).map PV.str from hy)
          exact ⟨z, hz, e.symm⟩
        exact hR (.wrd z) (by simp [Sm.dep]) hz
      · have h3' : decide (0 < d2) = false := by simpa using h3
        simp only [h3', Bool.false_eq_true, if_false]
        exact val
  by_cases h1 : (deep : Int) = 0
  · simp only [h1, decide_true, if_true]
    rw [h1] at leaf
    exact leaf
  have h1' : decide ((deep : Int) = 0) = false := by simpa using h1
  simp only [h1', Bool.false_eq_true, if_false]
  by_cases h2 : d < 4
  · simp only [h2, decide_true, if_true]
    exact leaf
  have h2' : decide (d < 4) = false := by simpa using h2
  simp only [h2', Bool.false_eq_true, if_false]
  obtain ⟨k, rfl⟩ : ∃ k, deep = k + 1 := ⟨deep - 1, by omega⟩
  have ek : (((k + 1 : Nat) : Int) - 1) = (k : Int) := by omega
  have rest : r__law_sum_6 spTk (Cw.spSum j) [.val (.ref r), .val (.lst (ws.map .str)), .val (.lst (bs.map .str)), .val (.int ((k + 1 : Nat) : Int)), .val (.int d), .no, .no] et (retK R) := by
    unfold r__law_sum_6
    simp!
    by_cases h4 : d < 6
    · simp only [h4, decide_true, if_true]
      unfold r__law_sum_7
      simp! [ek]
      refine ⟨r, k, ws, bs, rfl, hp, by omega, hw, hb, lw, lb, fun s hs ho => ?_⟩
      exact ⟨by decide, hR (.not s) (by show s.dep + 1 ≤ _; omega) ho⟩
    · simp only [h4, decide_false, Bool.false_eq_true, if_false]
      unfold r__law_sum_8
      simp!
      refine ⟨by decide, ?_⟩
      refine tk hp.1 (by decide) (by decide) fun d2 e0 e1 => ?_
      obtain ⟨y, hy, e⟩ := atI_some (xs := [.str "plus", .str "minus", .str "less", .str "same", .str "both"]) e0 (by simpa using e1)
      obtain ⟨t, rfl⟩ := two_of hy
      simp! [e]
      unfold r__law_sum_9
      simp! [ek]
      refine ⟨r, k, ws, bs, rfl, hp, by omega, hw, hb, lw, lb, fun s1 hs1 ho1 => ?_⟩
      unfold r__law_sum_10
      simp! [ek]
      refine ⟨r, k, ws, bs, rfl, hp, by omega, hw, hb, lw, lb, fun s2 hs2 ho2 => ?_⟩
      exact ⟨by decide, hR (.two t s1 s2) (by show max s1.dep s2.dep + 1 ≤ _; omega) ⟨ho1, ho2⟩⟩
  unfold r__law_sum_4
  simp! [gNe_words hb]
  by_cases h3 : d = 4
  · simp only [h3, decide_true, if_true]
    refine ⟨by decide, ?_⟩
    cases bs with
    | nil => subst h3; simpa using rest
    | cons x xs =>
      simp only [List.isEmpty_cons, Bool.not_false, if_true]
      unfold r__law_sum_5
      simp!
      refine pick hp.1 (by simp) (by simp at lb ⊢; omega) fun y hy => ?_
      obtain ⟨z, hz, rfl⟩ : ∃ z ∈ x :: xs, y = .str z := by
        obtain ⟨z, hz, e⟩ := List.mem_map.mp (show y ∈ (x :: xs).map PV.str from hy)
        exact ⟨z, hz, e.symm⟩
      exact ⟨by decide, hR (.wts z) (by simp [Sm.dep]) hz⟩
  · simp only [h3, decide_false, Bool.false_eq_true, if_false]
    exact rest
theorem gEq_of_gNe {p q : PV} {b : Bool} (h : gNe p q = some (.bl (!b))) : gEq p q = some (.bl b) := by
  unfold gNe at h
  unfold gEq
  cases e : eqB p q with
  | none => rw [e] at h; cases h
  | some c =>
    rw [e] at h
    simp only [Option.map_some, Option.some.injEq, PV.bl.injEq] at h ⊢
    revert h; cases c <;> cases b <;> simp
theorem gEq_words {ws : List Str} (h : ∀ x ∈ ws, isWord x = true) : gEq (.lst (ws.map .str)) (.lst []) = some (.bl ws.isEmpty) := gEq_of_gNe (gNe_words h)
def laterPV : Option (Str × Str) → PV
  | none => .non
  | some g => goalPV g
def spRowsE : FSpec := fun args et R => ∃ (r n : Nat) (f : Bool) (ts bs : List Str) (g : Option (Str × Str)), args = [.ref r, .tup [.str (mnS f), .lst (ts.map .str), .lst (bs.map .str)], laterPV g, .int n] ∧ Pot r et ∧ (∀ x ∈ ts, isWord x = true) ∧ (∀ x ∈ bs, isWord x = true) ∧ ts.length < 100 ∧ bs.length < 100 ∧
  ∀ rows : List Row, rows.length ≤ 2 → rows ≠ [] → (∀ row ∈ rows, ∀ gs, (∀ x, g = some x → x ∈ gs) → row.okD (ts ++ [("given" : Str)]) ts bs gs (n + rows.length)) → R (.lst (rows.map Row.pv)) et
abbrev Mend := Sm × List (Str × Int)
def mend1PV (m : Mend) : PV := .tup [m.1.pv, .lst (m.2.map pairPV)]
def mendPV : Option Mend → PV
  | none => .non
  | some m => mend1PV m
structure MendOk (ts : List Str) (m : Mend) : Prop where
  ok : m.1.ok ts []
  dep : m.1.dep ≤ 4
  nm : ∀ b ∈ m.2, b.1 ∈ ts
  v : ∀ b ∈ m.2, 0 ≤ b.2 ∧ b.2 ≤ 9
  l : m.2.length ≤ 3
def mendR (m : Mend) (n : Nat) : List Row := .unl (.not m.1) (n + 1 + m.2.length) :: m.2.map fun b => .put b.1 (.val b.2.toNat)
theorem mend_len (m : Mend) (n : Nat) : (mendR m n).length = m.2.length + 1 := by simp [mendR]
theorem ok_words {ws vs bs : List Str} (h : ∀ x ∈ ws, x ∈ vs) : ∀ s : Sm, s.ok ws bs → s.ok vs bs
  | .val _, z => z
  | .wrd _, z => h _ z
  | .wts _, z => z
  | .not a, z => ok_words h a z
  | .two _ a b, z => ⟨ok_words h a z.1, ok_words h b z.2⟩
theorem mend_rows {ts bs : List Str} {gs : List (Str × Str)} {m : Mend} (o : MendOk ts m) (n : Nat) : ∀ row ∈ mendR m n, row.okD (ts ++ [("given" : Str)]) ts bs gs (n + 1 + m.2.length) := fun row hrow => by
  rcases List.mem_cons.mp hrow with rfl | hrow
  · exact ⟨⟨ok_nobell _ (ok_words (fun x hx => List.mem_append_left _ hx) m.1 o.ok), by have := o.dep; show m.1.dep + 1 ≤ 5; omega⟩, Nat.le_refl _⟩
  · obtain ⟨b, hb, rfl⟩ := List.mem_map.mp hrow
    have := o.v b hb
    exact ⟨o.nm b hb, show b.2.toNat ≤ 9 by omega, by simp [Sm.dep]⟩
def spMended : FSpec := fun args et R => ∃ (m : Mend) (n : Nat), args = [mend1PV m, .int n] ∧ m.2.length ≤ 100 ∧ (∀ b ∈ m.2, 0 ≤ b.2) ∧ R (.lst ((mendR m n).map Row.pv)) et
def isWC : Row → Bool
  | .wait _ _ => true
  | .call _ => true
  | _ => false
theorem row_hd (row : Row) : ∃ w rest, row.pv = .tup (.str w :: rest) ∧ gIn (.str w) (.tup [.str "wait", .str "call"]) = some (.bl (isWC row)) := by
  cases row <;> exact ⟨_, _, rfl, rfl⟩
theorem sl_map {α : Type} (f : α → PV) (xs : List α) (lo hi : Option Int) : gSlA (.lst (xs.map f)) lo hi = some (.lst ((cutP xs lo hi).map f)) := by
  show some (PV.lst (cutP (xs.map f) lo hi)) = _
  rw [Sx.cut_map]
def spDeedE : FSpec := fun args et R => ∃ (r : Nat) (f : Bool) (ts bs : List Str) (g : Option (Str × Str)) (m : Option Mend), args = [.ref r, .tup [.str (mnS f), .lst (ts.map .str), .lst (bs.map .str)], laterPV g, mendPV m] ∧ Pot r et ∧ (∀ x ∈ ts, isWord x = true) ∧ (∀ x ∈ bs, isWord x = true) ∧ ts.length < 100 ∧ bs.length < 100 ∧ (∀ y, m = some y → MendOk ts y) ∧
  ∀ rows : List Row, 1 ≤ rows.length → rows.length ≤ 30 → (∀ row ∈ rows, ∀ gs, (∀ x, g = some x → x ∈ gs) → row.okD (ts ++ [("given" : Str)]) ts bs gs rows.length) → R (.tup (rows.map Row.pv)) et
theorem deed_ok (args : List PV) (et : Hi) (R : PV → Hi → Prop) (h : spDeedE args et R) : r__law_deed spTk spRowsE spMended (env0 N__law_deed args) et (retK R) := by
  obtain ⟨r, f, ts, bs, g, m, rfl, hp, ht, hb, htl, hbl, hm, hR⟩ := h
  show r__law_deed _ _ _ [.val (.ref r), .val (.tup [.str (mnS f), .lst (ts.map .str), .lst (bs.map .str)]), .val (laterPV g), .val (mendPV m), .no, .no, .no] et (retK R)
  have big : (2000 : Nat) ≤ sizeLine := by decide
  have gx : ∀ (d : PV → PV) (xs ys : List Row), xs.length + ys.length ≤ 1000 → (∀ y, d (.lst y) = .lst y) → gmExtend d (.lst (xs.map Row.pv)) [.lst (ys.map Row.pv)] = some (.lst ((xs ++ ys).map Row.pv), .non) := fun d xs ys hl hd => by
    show (match d (.lst (ys.map Row.pv)) with
      | .lst zs => if (xs.map Row.pv).length + zs.length ≤ sizeLine then some (PV.lst (xs.map Row.pv ++ zs), PV.non) else none
      | _ => none) = _
    rw [hd]
    simp only []
    rw [if_pos (by rw [List.length_map, List.length_map]; omega), List.map_append]
  unfold r__law_deed
  simp!
  refine ⟨by decide, ?_⟩
  unfold r__law_deed_0
  simp!
  refine tk hp.1 (by decide) (by decide) fun d d0 d1 => ?_
  obtain ⟨n, en, n0, n1⟩ : ∃ n : Nat, 1 + d = (n : Int) ∧ 1 ≤ n ∧ n ≤ 3 := ⟨(1 + d).toNat, by omega, by omega, by omega⟩
  simp! [en]
  refine ⟨n, rfl, by omega, by omega, fun t ep e => et = e ∧ t ≤ n ∧ ∃ (rows : List Row) (s5 s6 : Mw.Slot), ep = [.val (.ref r), .val (.tup [.str (mnS f), .lst (ts.map .str), .lst (bs.map .str)]), .val (laterPV g), .val (mendPV m), .own (.lst (rows.map Row.pv)), s5, s6] ∧ rows.length ≤ 6 * t ∧ t ≤ rows.length ∧ ∀ row ∈ rows, ∀ gs, (∀ x, g = some x → x ∈ gs) → row.okD (ts ++ [("given" : Str)]) ts bs gs rows.length, ⟨rfl, Nat.zero_le _, [], _, _, rfl, Nat.le_refl _, Nat.le_refl _, fun row hrow => by cases hrow⟩, ?_⟩
  rintro t ep e ⟨rfl, htn, rows, s5, s6, rfl, hl1, hl2, hrows⟩
  have glen : gLen [.lst (rows.map Row.pv)] = some (.int rows.length) := by show some (PV.int ((rows.map Row.pv).length : Int)) = _; rw [List.length_map]
  refine ⟨rfl, fun p hp2 => ⟨_, rfl, ?_⟩, fun e => ?_⟩
  · obtain ⟨rfl, ht2⟩ := Dw.rng_at hp2
    unfold r__law_deed_1
    simp! [glen]
    refine ⟨r, rows.length, f, ts, bs, g, rfl, hp, ht, hb, htl, hbl, fun some_ hs1 hs2 hs3 => ?_⟩
    have fin : ∀ (new : List Row) (s6 : Mw.Slot), 1 ≤ new.length → new.length ≤ 6 → (∀ row ∈ new, ∀ gs, (∀ x, g = some x → x ∈ gs) → row.okD (ts ++ [("given" : Str)]) ts bs gs (rows.length + new.length)) → s6 = .val (.lst (new.map Row.pv)) → ∀ Q : Mw.Fl → En → Hi → Prop,
        (∀ rows2 : List Row, rows2.length ≤ 6 * (t + 1) → t + 1 ≤ rows2.length → (∀ row ∈ rows2, ∀ gs, (∀ x, g = some x → x ∈ gs) → row.okD (ts ++ [("given" : Str)]) ts bs gs rows2.length) → Q .nx [.val (.ref r), .val (.tup [.str (mnS f), .lst (ts.map .str), .lst (bs.map .str)]), .val (laterPV g), .val (mendPV m), .own (.lst (rows2.map Row.pv)), .val (.int (t : Nat)), s6] et) →
        r__law_deed_4 [.val (.ref r), .val (.tup [.str (mnS f), .lst (ts.map .str), .lst (bs.map .str)]), .val (laterPV g), .val (mendPV m), .own (.lst (rows.map Row.pv)), .val (.int (t : Nat)), s6] et Q := fun new s6 hn1 hn2 hn3 e6 Q hQ => by
      subst e6
      unfold r__law_deed_4
      simp!
      refine ⟨_, _, gx _ _ _ (by omega) (fun _ => rfl), ?_⟩
      refine hQ (rows ++ new) (by rw [List.length_append]; omega) (by rw [List.length_append]; omega) fun row hrow gs hgs => ?_
      rw [List.length_append]
      rcases List.mem_append.mp hrow with hrow | hrow
      · exact Row.okD_mono (by omega) row (hrows row hrow gs hgs)
      · exact hn3 row hrow gs hgs
    obtain ⟨last, hlast⟩ : ∃ x, some_.getLast? = some x := by
      cases e : some_.getLast? with
      | none => exact absurd (List.getLast?_eq_none_iff.mp e) hs2
      | some x => exact ⟨x, rfl⟩
    have hpos := List.length_pos_iff.mpr hs2
    have eat : atI (some_.map Row.pv) (-1) = some last.pv := by
      unfold atI ixN
      simp only [List.length_map]
      rw [if_neg (by omega), if_pos (by omega)]
      have e : ((-1 : Int) + (some_.length : Int)).toNat = some_.length - 1 := by omega
      rw [List.getLast?_eq_getElem?] at hlast
      simp only [e, Option.bind_some, List.getElem?_map, hlast]
      rfl
    obtain ⟨w, rest, e1, e2⟩ := row_hd last
    have gneg : gNeg (.int 1) = some (.int (-1)) := rfl
    unfold r__law_deed_2
    simp! [gneg, eat, e1, e2]
    refine ⟨by decide, ?_⟩
    have keep : ∀ Q : Mw.Fl → En → Hi → Prop,
        (∀ (rows2 : List Row) (s6 : Mw.Slot), rows2.length ≤ 6 * (t + 1) → t + 1 ≤ rows2.length → (∀ row ∈ rows2, ∀ gs, (∀ x, g = some x → x ∈ gs) → row.okD (ts ++ [("given" : Str)]) ts bs gs rows2.length) → Q .nx [.val (.ref r), .val (.tup [.str (mnS f), .lst (ts.map .str), .lst (bs.map .str)]), .val (laterPV g), .val (mendPV m), .own (.lst (rows2.map Row.pv)), .val (.int (t : Nat)), s6] et) →
        r__law_deed_4 [.val (.ref r), .val (.tup [.str (mnS f), .lst (ts.map .str), .lst (bs.map .str)]), .val (laterPV g), .val (mendPV m), .own (.lst (rows.map Row.pv)), .val (.int (t : Nat)), .val (.lst (some_.map Row.pv))] et Q := fun Q hQ =>
      fin some_ _ hpos (by omega) hs3 rfl Q fun rows2 a b c => hQ rows2 _ a b c
    cases hwc : isWC last with
    | false =>
      simp only [Bool.false_eq_true, if_false]
      exact keep _ fun rows2 s6 a b c => ⟨rfl, ht2, rows2, _, _, rfl, a, b, c⟩
    | true =>
      simp only [if_true]
      cases hm0 : m with
      | none =>
        rw [hm0] at keep
        have gi : gIsNot (mendPV none) .non = some (.bl false) := rfl
        have dl : deref et (mendPV none) = mendPV none := rfl
        simp! [dl, gi]
        exact keep _ fun rows2 s6 a b c => ⟨rfl, ht2, rows2, _, _, rfl, a, b, c⟩
      | some y =>
        have mo := hm y hm0
        have gi : gIsNot (mendPV (some y)) .non = some (.bl true) := rfl
        have dl : deref et (mendPV (some y)) = mendPV (some y) := rfl
        simp! [dl, gi]
        unfold r__law_deed_3
        have glen2 : gLen [.lst (rows.map Row.pv)] = some (.int rows.length) := glen
        simp! [glen2, gneg, sl_map]
        have hcl := Sx.cut_len some_ (some (-1)) none
        have ml := mend_len y rows.length
        have mo3 := mo.l
        refine ⟨y, rows.length, rfl, by omega, fun b hb => (mo.v b hb).1, _, if_pos (by rw [List.length_map, List.length_map]; omega), ?_⟩
        rw [← List.map_append]
        have hall : ∀ row ∈ mendR y rows.length ++ cutP some_ (some (-1)) none, ∀ gs, (∀ x, g = some x → x ∈ gs) → row.okD (ts ++ [("given" : Str)]) ts bs gs (rows.length + (mendR y rows.length ++ cutP some_ (some (-1)) none).length) := fun row hrow gs hgs => by
          rcases List.mem_append.mp hrow with hrow | hrow
          · refine Row.okD_mono ?_ row (mend_rows mo rows.length row hrow)
            rw [List.length_append, ml]; omega
          · refine Row.okD_mono ?_ row (hs3 row (Sx.cut_mem hrow) gs hgs)
            have hc1 : 1 ≤ (cutP some_ (some (-1)) none).length := List.length_pos_iff.mpr fun z => by rw [z] at hrow; cases hrow
            rw [List.length_append, ml]; omega
        have fin2 := fin (mendR y rows.length ++ cutP some_ (some (-1)) none) _ (by rw [List.length_append, ml]; omega) (by rw [List.length_append, ml]; omega) hall rfl
        rw [hm0] at fin2
        exact fin2 _ fun rows2 a b c => ⟨rfl, ht2, rows2, _, _, rfl, a, b, c⟩
  · have e2 : t = n := by rw [e]; exact Dw.rng_len n
    subst e2
    unfold r__law_deed_5
    have out : ∀ (rows2 : List Row) (s6 : Mw.Slot), 1 ≤ rows2.length → rows2.length ≤ 30 → (∀ row ∈ rows2, ∀ gs, (∀ x, g = some x → x ∈ gs) → row.okD (ts ++ [("given" : Str)]) ts bs gs rows2.length) → r__law_deed_7 [.val (.ref r), .val (.tup [.str (mnS f), .lst (ts.map .str), .lst (bs.map .str)]), .val (laterPV g), .val (mendPV m), .own (.lst (rows2.map Row.pv)), s5, s6] et (retK R) := fun rows2 s6 h1 h2 h3 => by
      unfold r__law_deed_7
      simp!
      exact ⟨_, rfl, hR rows2 h1 h2 h3⟩
    cases hm0 : m with
    | none =>
      rw [hm0] at out
      have gi : gIsNot (mendPV none) .non = some (.bl false) := rfl
      have dl : deref et (mendPV none) = mendPV none := rfl
      simp! [dl, gi]
      exact out rows s6 (by omega) (by omega) hrows
    | some y =>
      rw [hm0] at out
      have mo := hm y hm0
      have mo3 := mo.l
      have gi : gIsNot (mendPV (some y)) .non = some (.bl true) := rfl
      have dl : deref et (mendPV (some y)) = mendPV (some y) := rfl
      simp! [dl, gi]
      unfold r__law_deed_6
      have ml := mend_len y rows.length
      simp! [glen]
      refine ⟨y, rows.length, rfl, by omega, fun b hb => (mo.v b hb).1, _, _, gx _ _ _ (by omega) (fun _ => rfl), ?_⟩
      refine out (rows ++ mendR y rows.length) s6 (by rw [List.length_append]; omega) (by rw [List.length_append]; omega) fun row hrow gs hgs => ?_
      rw [List.length_append]
      rcases List.mem_append.mp hrow with hrow | hrow
      · exact Row.okD_mono (by omega) row (hrows row hrow gs hgs)
      · exact Row.okD_mono (by omega) row (mend_rows mo rows.length row hrow)
def xyz : List Str := ["x", "y", "z"]
structure FirstOk (n : Nat) (b : List (Str × Int)) : Prop where
  nm : b.map (·.1) = xyz.take b.length
  v : ∀ p ∈ b, 0 ≤ p.2 ∧ p.2 ≤ 9
  l : b.length ≤ n
def bellW : List Str := ["bell", "gong"]
def deedW : List Str := ["deed", "further"]
theorem sl_bell {j : Nat} (h : j ≤ 2) : gSlL (.lst [.str "bell", .str "gong"]) none (some (j : Int)) = some (.lst ((bellW.take j).map .str)) := by
  rcases (show j = 0 ∨ j = 1 ∨ j = 2 by omega) with rfl | rfl | rfl <;> rfl
theorem sl_deed {j : Nat} (h : j ≤ 2) : gSlL (.lst [.str "deed", .str "further"]) none (some (j : Int)) = some (.lst ((deedW.take j).map .str)) := by
  rcases (show j = 0 ∨ j = 1 ∨ j = 2 by omega) with rfl | rfl | rfl <;> rfl
theorem take_words {ws : List Str} (h : ∀ x ∈ ws, isWord x = true) (n : Nat) : ∀ x ∈ ws.take n, isWord x = true := fun x hx => h x (List.mem_of_mem_take hx)
theorem bell_words : ∀ x ∈ bellW, isWord x = true := by decide +kernel
theorem deed_words : ∀ x ∈ deedW, isWord x = true := by decide +kernel
theorem xyz_words : ∀ x ∈ xyz, isWord x = true := by decide +kernel
structure RoomE (name : Str) (b : List (Str × Int)) (g : Option (Str × Str)) (q : Rm) : Prop where
  nm : q.name = name
  th : q.things = b
  ok : ∀ gs, (∀ x, g = some x → x ∈ gs) → RoomOk gs q
  bl : q.bells.length ≤ 2
def spRoomE : FSpec := fun args et R => ∃ (r : Nat) (name : Str) (g : Option (Str × Str)) (b : List (Str × Int)) (m : Option Mend), args = [.ref r, .str name, laterPV g, .lst (b.map pairPV), mendPV m] ∧ Pot r et ∧ isWord name = true ∧ FirstOk 3 b ∧ (∀ y, m = some y → MendOk (b.map (·.1)) y) ∧ ∀ q, RoomE name b g q → R q.pv et
theorem room_ok (args : List PV) (et : Hi) (R : PV → Hi → Prop) (h : spRoomE args et R) : r__law_room spTk spPick spDeedE (env0 N__law_room args) et (retK R) := by
  obtain ⟨r, name, g, b, m, rfl, hp, hn, hb, hm, hR⟩ := h
  show r__law_room _ _ _ [.val (.ref r), .val (.str name), .val (laterPV g), .val (.lst (b.map pairPV)), .val (mendPV m), .no, .no, .no, .no, .no, .no, .no, .no, .no] et (retK R)
  have big : (2000 : Nat) ≤ sizeLine := by decide
  unfold r__law_room
  simp!
  refine ⟨by decide, ?_⟩
  refine tk hp.1 (by decide) (by decide) fun d d0 d1 => ?_
  obtain ⟨f, ef⟩ : ∃ f : Bool, atI [PV.str "at once", PV.str "when free"] d = some (.str (mnS f)) := by
    rcases (show d = 0 ∨ d = 1 by omega) with rfl | rfl
    · exact ⟨false, rfl⟩
    · exact ⟨true, rfl⟩
  simp! [ef]
  unfold r__law_room_0
  simp!
  refine ⟨by decide, by decide, pick hp.1 (by simp) (by simp) fun y hy => ?_⟩
  obtain ⟨j, rfl, hj⟩ : ∃ j : Nat, y = .int (j : Nat) ∧ j ≤ 2 := by
    simp only [List.mem_cons, List.not_mem_nil, or_false] at hy
    rcases hy with rfl | rfl | rfl | rfl
    · exact ⟨0, rfl, by omega⟩
    · exact ⟨1, rfl, by omega⟩
    · exact ⟨1, rfl, by omega⟩
    · exact ⟨2, rfl, by omega⟩
  refine ⟨_, rfl, _, sl_bell hj, ?_⟩
  have hbs := take_words bell_words j
  have hbl : (bellW.take j).length ≤ 2 := by rw [List.length_take]; show min j 2 ≤ 2; omega
  have hbn : (bellW.take j).Nodup := (show bellW.Nodup by decide +kernel).sublist (List.take_sublist _ _)
  generalize bellW.take j = bs at hbs hbl hbn
  have hts : ∀ x ∈ b.map (·.1), isWord x = true := fun x hx => by rw [hb.nm] at hx; exact take_words xyz_words _ x hx
  have htn : (b.map (·.1)).Nodup := by rw [hb.nm]; exact (show xyz.Nodup by decide +kernel).sublist (List.take_sublist _ _)
  have hb3 := hb.l
  unfold r__law_room_1
  simp!
  refine ⟨Nat.zero_le _, ?_⟩
  unfold r__law_room_2
  simp!
  refine ⟨by decide, ?_⟩
  refine tk hp.1 (by decide) (by decide) fun d2 e0 e1 => ?_
  obtain ⟨n, en, n0, n1⟩ : ∃ n : Nat, 1 + d2 = (n : Int) ∧ 1 ≤ n ∧ n ≤ 2 := ⟨(1 + d2).toNat, by omega, by omega, by omega⟩
  simp! [en]
  refine ⟨_, sl_deed n1, _, rfl, ?_⟩
  have hds := take_words deed_words n
  have hdl : (deedW.take n).length = n := by rw [List.length_take]; show min n 2 = n; omega
  have hdn : (deedW.take n).Nodup := (show deedW.Nodup by decide +kernel).sublist (List.take_sublist _ _)
  generalize deedW.take n = dw at hds hdl hdn
  refine ⟨fun t ep e => et = e ∧ t ≤ n ∧ ∃ (deeds : List Deed) (s8 s9 s10 s11 : Mw.Slot), ep = [.val (.ref r), .val (.str name), .val (laterPV g), .val (.lst (b.map pairPV)), .val (mendPV m), .val (.str (mnS f)), .val (.lst (bs.map .str)), .own (.lst (deeds.map deedPV)), s8, s9, s10, s11, .no, .no] ∧ deeds.map (·.1) = dw.take t ∧
    (∀ d ∈ deeds, 1 ≤ d.2.length ∧ d.2.length ≤ 30 ∧ ∀ row ∈ d.2, ∀ gs, (∀ x, g = some x → x ∈ gs) → row.okD (b.map (·.1) ++ [("given" : Str)]) (b.map (·.1)) bs gs d.2.length), ⟨rfl, Nat.zero_le _, [], _, _, _, _, rfl, rfl, (fun d hd => by cases hd)⟩, ?_⟩
  rintro t ep e ⟨rfl, htn2, deeds, s8, s9, s10, s11, rfl, hnm, hrs⟩
  have hlen : deeds.length ≤ 2 := by
    have h1 : (deeds.map (·.1)).length = deeds.length := List.length_map _
    rw [hnm, List.length_take, hdl] at h1
    omega
  refine ⟨rfl, fun p hp2 => ?_, fun e => ?_⟩
  · rw [List.getElem?_map] at hp2
    cases hg : dw[t]? with
    | none => rw [hg] at hp2; cases hp2
    | some x =>
      rw [hg] at hp2; cases hp2
      have hlt := (List.getElem?_eq_some_iff.mp hg).1
      have et' : dw.take (t + 1) = dw.take t ++ [x] := by rw [List.take_succ, hg]; rfl
      refine ⟨_, rfl, ?_⟩
      unfold r__law_room_3
      simp! [itemsP]
      refine lc_map pairPV (fun p => .str p.1) rfl (by omega) (fun q hq => ⟨_, rfl, fun Q hQ => ?_⟩) ?_
      · simp!
        exact hQ
      · have em : (b.map fun p => PV.str p.1) = (b.map (·.1)).map .str := by rw [List.map_map]; rfl
        rw [em]
        refine ⟨by decide, ?_⟩
        unfold r__law_room_4
        simp!
        refine ⟨r, f, b.map (·.1), bs, g, m, rfl, hp, hts, hbs, by rw [List.length_map]; omega, by omega, hm, fun rows h1 h2 h3 => ⟨by decide, ?_⟩⟩
        have app : gmAppend (deref et) (.lst (deeds.map deedPV)) [.tup [.str x, .tup (rows.map Row.pv)]] = some (.lst ((deeds ++ [(x, rows)]).map deedPV), .non) := by
          show (if (deeds.map deedPV).length < sizeLine then some (PV.lst (deeds.map deedPV ++ [deedPV (x, rows)]), PV.non) else none) = _
          rw [if_pos (by rw [List.length_map]; omega), List.map_append]; rfl
        refine ⟨_, _, app, rfl, by omega, deeds ++ [(x, rows)], _, _, _, _, rfl, by rw [List.map_append, hnm, et']; rfl, fun d hd => ?_⟩
        rcases List.mem_append.mp hd with hd | hd
        · exact hrs d hd
        · rw [List.mem_singleton.mp hd]; exact ⟨h1, h2, h3⟩
  · have e2 : t = n := by rw [e, List.length_map, hdl]
    subst e2
    have hnm2 : deeds.map (·.1) = dw := by rw [hnm, List.take_of_length_le (by omega)]
    unfold r__law_room_5
    simp! [itemsP]
    refine lc_key PV.str bellPV (·.1) (fun _ => True) rfl (by omega) (fun b hb' => ⟨_, rfl, fun Q hQ => ?_⟩) fun bells hbk _ => ?_
    · simp!
      refine ⟨by decide, tk hp.1 (by decide) (by decide) fun d2 e0 e1 => ?_⟩
      have et2 : atI [PV.str "row", PV.str "turns"] d2 = some (.str (sortS (decide (d2 = 1)))) := by
        rcases (show d2 = 0 ∨ d2 = 1 by omega) with rfl | rfl <;> rfl
      simp! [et2]
      exact ⟨by decide, hQ (b, _) rfl trivial⟩
    · have gt : ∀ l, gTuple [.lst l] = some (.tup l) := fun _ => rfl
      simp! [gt]
      unfold r__law_room_6
      simp! [gt]
      refine ⟨by decide, ?_⟩
      have e2 : bells.map (·.1) = bs := hbk
      have l2 : bells.length = bs.length := by rw [← e2, List.length_map]
      refine hR ⟨name, f, b, bells, deeds⟩ ⟨rfl, rfl, fun gs hgs => ?_, by show bells.length ≤ 2; omega⟩
      refine ⟨hn, hts, htn, hb.v, ?_, ?_, ?_, ?_, ?_, by show b.length ≤ 6; omega, by show bells.length ≤ 6; omega, by show deeds.length ≤ 6; omega, ?_⟩
      · show ∀ x ∈ bells.map (·.1), _; rw [e2]; exact hbs
      · show (bells.map (·.1)).Nodup; rw [e2]; exact hbn
      · intro d hd
        exact hds d.1 (by rw [← hnm2]; exact List.mem_map.mpr ⟨d, hd, rfl⟩)
      · show (deeds.map (·.1)).Nodup; rw [hnm2]; exact hdn
      · intro z
        have z' : deeds = [] := z
        rw [z'] at hnm2
        rw [← hnm2] at hdl
        simp at hdl; omega
      · intro d hd
        obtain ⟨a1, a2, a3⟩ := hrs d hd
        refine ⟨a1, a2, fun row hrow => ?_⟩
        show row.okD (b.map (·.1) ++ [("given" : Str)]) (b.map (·.1)) (bells.map (·.1)) _ _
        rw [e2]
        exact a3 row hrow _ fun x hx => List.mem_append_left _ (hgs x hx)
theorem lit_ok : ∀ x ∈ (["put", "unless", "go", "do", "wait", "call", "all", "tell", "take", "give", "pass", "say", "waits", "not", "plus", "minus", "less", "same", "both", "given", "at once", "when free", "row", "turns"] : List Str), PyData.strOk x = true := by decide +kernel
theorem dok_smE {ws bs : List Str} (hw : ∀ x ∈ ws, isWord x = true) (hb : ∀ x ∈ bs, isWord x = true) : ∀ s : Sm, s.ok ws bs → dok s.pv = true ∧ dpt s.pv ≤ s.dep
  | .val n, _ => ⟨rfl, Nat.zero_le _⟩
  | .wrd x, h => ⟨isWord_strOk (hw x h), Nat.zero_le _⟩
  | .wts x, h => ⟨by simp [Sm.pv, dok, doks, isWord_strOk (hb x h)]; exact lit_ok _ (by simp), by simp [Sm.pv, dpt, dpts, Sm.dep]⟩
  | .not a, h => by
    obtain ⟨h1, h2⟩ := dok_smE hw hb a h
    refine ⟨by simp [Sm.pv, dok, doks, h1]; exact lit_ok _ (by simp), ?_⟩
    simp only [Sm.pv, dpt, dpts, Sm.dep]; omega
  | .two t a b, h => by
    obtain ⟨h1, h2⟩ := dok_smE hw hb a h.1
    obtain ⟨h3, h4⟩ := dok_smE hw hb b h.2
    refine ⟨by simp [Sm.pv, dok, doks, h1, h3]; cases t <;> exact lit_ok _ (by simp [Tw.str]), ?_⟩
    simp only [Sm.pv, dpt, dpts, Sm.dep]; omega
def gsWords (gs : List (Str × Str)) : Prop := ∀ g ∈ gs, isWord g.1 = true ∧ isWord g.2 = true
theorem dok_rowE {ws ts bs : List Str} {gs : List (Str × Str)} {n : Nat} (hw : ∀ x ∈ ws, isWord x = true) (ht : ∀ x ∈ ts, isWord x = true) (hb : ∀ x ∈ bs, isWord x = true) (hg : gsWords gs) : ∀ row : Row, row.okD ws ts bs gs n → dok row.pv = true ∧ dpt row.pv ≤ 7
  | .put x s, h => by
    obtain ⟨h1, h2⟩ := dok_smE hw hb s h.2.1
    have := h.2.2
    refine ⟨by simp [Row.pv, dok, doks, h1, isWord_strOk (ht x h.1)]; exact lit_ok _ (by simp), ?_⟩
    simp only [Row.pv, dpt, dpts]; omega
  | .unl s k, h => by
    obtain ⟨h1, h2⟩ := dok_smE hw hb s h.1.1
    have := h.1.2
    refine ⟨by simp [Row.pv, dok, doks, h1]; exact lit_ok _ (by simp), ?_⟩
    simp only [Row.pv, dpt, dpts]; omega
  | .go k, h => ⟨by simp [Row.pv, dok, doks]; exact lit_ok _ (by simp), by simp [Row.pv, dpt, dpts]⟩
  | .doo g rm dd s, h => by
    obtain ⟨h1, h2⟩ := dok_smE hw hb s h.2.2.1
    have := h.2.2.2
    obtain ⟨h3, h4⟩ := hg _ h.2.1
    have h5 : dok (optPV g) = true ∧ dpt (optPV g) = 0 := by
      cases g with
      | none => exact ⟨rfl, rfl⟩
      | some x => exact ⟨isWord_strOk (ht x (h.1 x rfl)), rfl⟩
    refine ⟨by simp [Row.pv, dok, doks, h1, h5.1, isWord_strOk h3, isWord_strOk h4]; exact lit_ok _ (by simp), ?_⟩
    simp only [Row.pv, dpt, dpts]; omega
  | .wait b s, h => by
    obtain ⟨h1, h2⟩ := dok_smE hw hb s h.2.1
    have := h.2.2
    refine ⟨by simp [Row.pv, dok, doks, h1, isWord_strOk (hb b h.1)]; exact lit_ok _ (by simp), ?_⟩
    simp only [Row.pv, dpt, dpts]; omega
  | .call b, h => ⟨by simp [Row.pv, dok, doks, isWord_strOk (hb b h)]; exact lit_ok _ (by simp), by simp [Row.pv, dpt, dpts]⟩
  | .all b, h => ⟨by simp [Row.pv, dok, doks, isWord_strOk (hb b h)]; exact lit_ok _ (by simp), by simp [Row.pv, dpt, dpts]⟩
  | .tell s, h => by
    obtain ⟨h1, h2⟩ := dok_smE hw hb s h.1
    have := h.2
    refine ⟨by simp [Row.pv, dok, doks, h1]; exact lit_ok _ (by simp), ?_⟩
    simp only [Row.pv, dpt, dpts]; omega
theorem dok_tupE {α : Type} {f : α → PV} {n : Nat} (l : List α) (h : ∀ a ∈ l, dok (f a) = true ∧ dpt (f a) ≤ n) : dok (.tup (l.map f)) = true ∧ dpt (.tup (l.map f)) ≤ n + 1 := by
  obtain ⟨h1, h2⟩ := doks_map l h
  exact ⟨by simpa [dok] using h1, by simp only [dpt]; omega⟩
theorem dok_rmE {gs : List (Str × Str)} {q : Rm} (hg : gsWords gs) (o : RoomOk gs q) : dok q.pv = true ∧ dpt q.pv ≤ 12 := by
  have hg2 : gsWords (gs ++ q.goals) := fun g hm => by
    rcases List.mem_append.mp hm with hm | hm
    · exact hg g hm
    · obtain ⟨d, hd, rfl⟩ := List.mem_map.mp hm
      exact ⟨o.nm, o.dw d hd⟩
  have hw : ∀ x ∈ q.ts ++ [("given" : Str)], isWord x = true := fun x hx => by
    rcases List.mem_append.mp hx with hx | hx
    · exact o.tw x hx
    · rw [List.mem_singleton.mp hx]; decide +kernel
  have h1 := dok_tupE (f := pairPV) (n := 1) q.things fun p hp => ⟨by simp [pairPV, dok, doks, isWord_strOk (o.tw p.1 (List.mem_map.mpr ⟨p, hp, rfl⟩))], by simp [pairPV, dpt, dpts]⟩
  have h2 := dok_tupE (f := bellPV) (n := 1) q.bells fun p hp => ⟨by
    have hs : PyData.strOk (sortS p.2) = true := by cases p.2 <;> exact lit_ok _ (by simp [sortS])
    simp [bellPV, dok, doks, hs, isWord_strOk (o.bw p.1 (List.mem_map.mpr ⟨p, hp, rfl⟩))], by simp [bellPV, dpt, dpts]⟩
  have h3 := dok_tupE (f := deedPV) (n := 9) q.deeds fun d hd => by
    have h4 := dok_tupE (f := Row.pv) (n := 7) d.2 fun row hrow => dok_rowE hw o.tw o.bw hg2 row ((o.rows d hd).2.2 row hrow)
    refine ⟨by simp [deedPV, progPV, dok, doks, isWord_strOk (o.dw d hd)] at h4 ⊢; exact h4.1, ?_⟩
    simp only [deedPV, progPV, dpt, dpts] at h4 ⊢; omega
  have hm : PyData.strOk (mnS q.free) = true := by cases q.free <;> exact lit_ok _ (by simp [mnS])
  unfold Rm.pv
  refine ⟨by simp only [dok, doks, Bool.and_eq_true] at h1 h2 h3 ⊢; exact ⟨isWord_strOk o.nm, hm, h1.1, h2.1, h3.1, trivial⟩, ?_⟩
  simp only [dpt, dpts] at h1 h2 h3 ⊢; omega
theorem gNe_tup0 {xs : List PV} (h : doks xs = true) (h1 : dpts xs ≤ 63) : gNe (.tup xs) (.tup []) = some (.bl (!xs.isEmpty)) := by
  unfold gNe
  rw [eqB_peq (by simpa [dok] using h) (by simp [dok, doks]) (by simp [dpt]; omega) (by simp [dpt, dpts])]
  cases xs <;> simp [peq, peqs]
structure PassE (ps : List (Str × Int)) : Prop where
  nm : ps.map (·.1) = [] ∨ ps.map (·.1) = [("pass" : Str)]
  v : ∀ p ∈ ps, 0 ≤ p.2 ∧ p.2 ≤ 9
theorem pass_ne {ps : List (Str × Int)} (o : PassE ps) : gNe (.tup (ps.map pairPV)) (.tup []) = some (.bl (!ps.isEmpty)) := by
  have hw : ∀ p ∈ ps, isWord p.1 = true := fun p hp => by
    have hm : p.1 ∈ ps.map (·.1) := List.mem_map.mpr ⟨p, hp, rfl⟩
    rcases o.nm with e | e
    · rw [e] at hm; cases hm
    · rw [e, List.mem_singleton] at hm
      rw [hm]; decide +kernel
  obtain ⟨h1, h2⟩ := doks_map (f := pairPV) (n := 1) ps fun p hp => ⟨by simp [pairPV, dok, doks, isWord_strOk (hw p hp)], by simp [pairPV, dpt, dpts]⟩
  rw [gNe_tup0 h1 (by omega)]
  cases ps <;> rfl
def spProgE : FSpec := fun args et R => ∃ (r most : Nat) (rs : List Rm) (ws : List Str) (ps : List (Str × Int)) (gs : List (Str × Str)), args = [.ref r, .lst (rs.map Rm.pv), .lst (ws.map .str), .tup (ps.map pairPV), .int most] ∧ Pot r et ∧ 0 < most ∧ most ≤ 10 ∧ gsWords gs ∧ (∀ q ∈ rs, RoomOk gs q) ∧ rs ≠ [] ∧ rs.length ≤ 10 ∧ (∀ x ∈ ws, isWord x = true) ∧ ws.length < 100 ∧ PassE ps ∧
  ∀ rows : List Row, 1 ≤ rows.length → rows.length ≤ 30 → (∀ row ∈ rows, row.okH ws (nm ps) (goalsOf rs) rows.length) → R (progPV rows) et
theorem prog_ok (args : List PV) (et : Hi) (R : PV → Hi → Prop) (h : spProgE args et R) : r__law_program spTk spPick (Cw.spSum 3) (env0 N__law_program args) et (retK R) := by
  obtain ⟨r, most, rs, ws, ps, gs, rfl, hp, hm0, hm1, hg, hrs, hrn, hrl, hw, hwl, hps, hR⟩ := h
  show r__law_program _ _ _ [.val (.ref r), .val (.lst (rs.map Rm.pv)), .val (.lst (ws.map .str)), .val (.tup (ps.map pairPV)), .val (.int most), .no, .no, .no, .no, .no, .no] et (retK R)
  have big : (2000 : Nat) ≤ sizeLine := by decide
  have ner : gNe (.lst (rs.map Rm.pv)) (.lst []) = some (.bl true) := by
    obtain ⟨h1, h2⟩ := doks_map (f := Rm.pv) (n := 12) rs fun q hq => dok_rmE hg (hrs q hq)
    rw [gNe_nil h1 (by omega)]
    cases rs with
    | nil => exact absurd rfl hrn
    | cons a l => rfl
  unfold r__law_program
  simp!
  refine ⟨by decide, ?_⟩
  unfold r__law_program_0
  simp!
  refine tk hp.1 (by omega) (by omega) fun d d0 d1 => ?_
  obtain ⟨n, en, n0, n1⟩ : ∃ n : Nat, 1 + d = (n : Int) ∧ 1 ≤ n ∧ n ≤ 10 := ⟨(1 + d).toNat, by omega, by omega, by omega⟩
  simp! [en]
  refine ⟨n, rfl, by omega, by omega, fun t ep e => et = e ∧ t ≤ n ∧ ∃ (rows : List Row) (s6 s7 s8 s9 s10 : Mw.Slot), ep = [.val (.ref r), .val (.lst (rs.map Rm.pv)), .val (.lst (ws.map .str)), .val (.tup (ps.map pairPV)), .val (.int most), .own (.lst (rows.map Row.pv)), s6, s7, s8, s9, s10] ∧ rows.length = t ∧ ∀ row ∈ rows, row.okH ws (nm ps) (goalsOf rs) 0, ⟨rfl, Nat.zero_le _, [], _, _, _, _, _, rfl, rfl, (fun row hrow => by cases hrow)⟩, ?_⟩
  rintro t ep e ⟨rfl, htn, rows, s6, s7, s8, s9, s10, rfl, hl1, hrows⟩
  refine ⟨rfl, fun p hp2 => ⟨_, rfl, ?_⟩, fun e => ?_⟩
  · obtain ⟨rfl, ht2⟩ := Dw.rng_at hp2
    have app : ∀ (d : PV → PV) (row : Row), gmAppend d (.lst (rows.map Row.pv)) [row.pv] = some (.lst ((rows ++ [row]).map Row.pv), .non) := fun d row => by
      show (if (rows.map Row.pv).length < sizeLine then some (PV.lst (rows.map Row.pv ++ [row.pv]), PV.non) else none) = _
      rw [if_pos (by rw [List.length_map]; omega), List.map_append]; rfl
    have fin : ∀ row : Row, row.okH ws (nm ps) (goalsOf rs) 0 → ∀ x ∈ rows ++ [row], x.okH ws (nm ps) (goalsOf rs) 0 := fun row h x hx => by
      rcases List.mem_append.mp hx with hx | hx
      · exact hrows x hx
      · rw [List.mem_singleton.mp hx]; exact h
    have flen : ∀ row : Row, (rows ++ [row]).length = t + 1 := fun row => by rw [List.length_append, List.length_singleton]; omega
    unfold r__law_program_1
    simp!
    refine tk hp.1 (by decide) (by decide) fun w w0 w1 => ?_
    unfold r__law_program_2
    simp! [ner]
    have P9 : ∀ Q : Mw.Fl → En → Hi → Prop, (∀ (row : Row) (s8 s9 s10 : Mw.Slot), row.okH ws (nm ps) (goalsOf rs) 0 → Q .nx [.val (.ref r), .val (.lst (rs.map Rm.pv)), .val (.lst (ws.map .str)), .val (.tup (ps.map pairPV)), .val (.int most), .own (.lst ((rows ++ [row]).map Row.pv)), .val (.int (t : Nat)), .val (.int w), s8, s9, s10] et) → r__law_program_9 spPick (Cw.spSum 3) [.val (.ref r), .val (.lst (rs.map Rm.pv)), .val (.lst (ws.map .str)), .val (.tup (ps.map pairPV)), .val (.int most), .own (.lst (rows.map Row.pv)), .val (.int (t : Nat)), .val (.int w), s8, s9, s10] et Q := fun Q hQ => by
      have say : r__law_program_11 (Cw.spSum 3) [.val (.ref r), .val (.lst (rs.map Rm.pv)), .val (.lst (ws.map .str)), .val (.tup (ps.map pairPV)), .val (.int most), .own (.lst (rows.map Row.pv)), .val (.int (t : Nat)), .val (.int w), s8, s9, s10] et Q := by
        unfold r__law_program_11
        simp!
        refine ⟨by decide, sumi (deep := 1) (bs := []) hp (by decide) hw (by simp) (by omega) (by simp) fun s hs ho => ⟨by decide, _, _, app _ (.say s), ?_⟩⟩
        exact hQ (.say s) _ _ _ ⟨ho, by omega⟩
      unfold r__law_program_9
      simp! [gNe_words hw]
      by_cases h5 : w = 5
      · rw [if_pos (decide_eq_true h5)]
        refine ⟨by decide, ?_⟩
        cases hwe : ws with
        | nil => subst hwe; exact say
        | cons x0 xs0 =>
          rw [← hwe]
          have hws : ws ≠ [] := by rw [hwe]; simp
          rw [if_pos (show (!ws.isEmpty) = true by rw [hwe]; rfl)]
          unfold r__law_program_10
          simp!
          refine pickS hp hws (by omega) fun x hx => ?_
          refine ⟨by decide, sumi (deep := 1) (bs := []) hp (by decide) hw (by simp) (by omega) (by simp) fun s hs ho => ⟨by decide, _, _, app _ (.put x s), ?_⟩⟩
          exact hQ (.put x s) _ _ _ ⟨hx, ho, by omega⟩
      · rw [if_neg (by rw [decide_eq_false h5]; decide)]
        exact say
    by_cases h4 : w < 4
    · rw [if_pos (decide_eq_true h4)]
      refine ⟨by decide, ?_⟩
      unfold r__law_program_3
      simp!
      refine pick hp.1 (by rw [List.length_map]; exact List.length_pos_iff.mpr hrn) (by rw [List.length_map]; omega) fun y hy => ?_
      obtain ⟨q, hq, rfl⟩ := List.mem_map.mp hy
      have oq := hrs q hq
      unfold r__law_program_4
      have g4 : gList [.tup (q.deeds.map deedPV)] = some (.lst (q.deeds.map deedPV)) := rfl
      have gdl := oq.dl
      simp! [Rm.pv, g4]
      refine pick hp.1 (by rw [List.length_map]; exact List.length_pos_iff.mpr oq.d0) (by rw [List.length_map]; omega) fun y hy => ?_
      obtain ⟨dd, hdd, rfl⟩ := List.mem_map.mp hy
      simp! [deedPV]
      unfold r__law_program_5
      have ec2 : gCat (.lst (ws.map .str)) (.lst [.non]) = some (.lst (ws.map .str ++ [.non])) := by
        show (if (ws.map PV.str).length + [PV.non].length ≤ sizeLine then some (PV.lst (ws.map .str ++ [PV.non])) else none) = _
        rw [if_pos (by rw [List.length_map, List.length_singleton]; omega)]
      simp! [ec2]
      refine ⟨by decide, pick hp.1 (by simp) (by simp; omega) fun z hz => ⟨by decide, ?_⟩⟩
      obtain ⟨go, hgo, rfl⟩ : ∃ go : Option Str, (∀ x, go = some x → x ∈ ws) ∧ z = optPV go := by
        rcases List.mem_append.mp hz with hz | hz
        · obtain ⟨x, hx, rfl⟩ := List.mem_map.mp hz
          exact ⟨some x, (fun x e => by cases e; exact hx), rfl⟩
        · rw [List.mem_singleton] at hz
          exact ⟨none, (fun x e => by cases e), hz⟩
      refine tk hp.1 (by decide) (by decide) fun d2 e0 e1 => ?_
      obtain ⟨go2, hgo2, e⟩ : ∃ go2 : Option Str, (∀ x, go2 = some x → x ∈ ws) ∧ atI [PV.non, optPV go] d2 = some (optPV go2) := by
        rcases (show d2 = 0 ∨ d2 = 1 by omega) with rfl | rfl
        · exact ⟨none, (fun x e => by cases e), rfl⟩
        · exact ⟨go, hgo, rfl⟩
      simp! [e]
      unfold r__law_program_6
      simp!
      refine ⟨by decide, sumi (deep := 1) (bs := []) hp (by decide) hw (by simp) (by omega) (by simp) fun s hs ho => ⟨by decide, _, _, app _ (.doo go2 q.name dd.1 s), ?_⟩⟩
      have hrow : (Row.doo go2 q.name dd.1 s).okH ws (nm ps) (goalsOf rs) 0 := ⟨hgo2, List.mem_flatMap.mpr ⟨q, hq, List.mem_map.mpr ⟨dd, hdd, rfl⟩⟩, ho, by omega⟩
      exact ⟨rfl, ht2, rows ++ [.doo go2 q.name dd.1 s], _, _, _, _, _, rfl, flen _, fin _ hrow⟩
    · rw [if_neg (by rw [decide_eq_false h4]; decide)]
      unfold r__law_program_7
      simp! [pass_ne hps]
      by_cases h5 : w = 4
      · rw [if_pos (decide_eq_true h5)]
        refine ⟨by decide, ?_⟩
        cases hpe : ps with
        | nil =>
          subst hpe
          exact P9 _ fun row s8 s9 s10 hrow => ⟨rfl, ht2, rows ++ [row], _, _, _, _, _, rfl, flen _, fin _ hrow⟩
        | cons p0 ps0 =>
          rw [← hpe]
          rw [if_pos (show (!ps.isEmpty) = true by rw [hpe]; rfl)]
          have hmem : ("pass" : Str) ∈ nm ps := by
            rcases hps.nm with e | e
            · rw [hpe] at e; cases e
            · show _ ∈ ps.map (·.1); rw [e]; simp
          unfold r__law_program_8
          simp!
          refine ⟨by decide, by decide, by decide, tk hp.1 (by decide) (by decide) fun d2 e0 e1 => ?_⟩
          obtain ⟨row, hrow, e⟩ : ∃ row : Row, row.okH ws (nm ps) (goalsOf rs) 0 ∧ atI [PV.tup [.str "take", .str "pass"], .tup [.str "give", .str "pass"]] d2 = some row.pv := by
            rcases (show d2 = 0 ∨ d2 = 1 by omega) with rfl | rfl
            · exact ⟨.take "pass", hmem, rfl⟩
            · exact ⟨.give "pass", hmem, rfl⟩
          simp! [e]
          exact ⟨_, _, app _ row, ht2, rows ++ [row], _, _, _, _, _, rfl, flen _, fin _ hrow⟩
      · rw [if_neg (by rw [decide_eq_false h5]; decide)]
        exact P9 _ fun row s8 s9 s10 hrow => ⟨rfl, ht2, rows ++ [row], _, _, _, _, _, rfl, flen _, fin _ hrow⟩
  · have e2 : t = n := by rw [e]; exact Dw.rng_len n
    subst e2
    unfold r__law_program_12
    simp!
    exact ⟨_, rfl, hR rows (by omega) (by omega) fun row hrow => Row.okH_mono (Nat.zero_le _) row (hrows row hrow)⟩
def oneP (x : Str) (v : Int) (b : Bool) : List (Str × Int) := if b = true then [(x, v)] else []
theorem rep_one (x : Str) (v : Int) (b : Bool) : gRepT (.tup [.tup [.str x, .int v]]) (.int (if b = true then 1 else 0)) = some (.tup ((oneP x v b).map pairPV)) := by
  cases b
  · show (if [PV.tup [.str x, .int v]].isEmpty = false ∧ (0 : Int) ≤ 0 ∧ (0 : Int) ≤ 1000 ∧ [PV.tup [.str x, .int v]].length ≤ 1000 then some (PV.tup (List.replicate (0 : Int).toNat [PV.tup [.str x, .int v]]).flatten) else none) = _
    rw [if_pos ⟨rfl, by decide, by decide, by simp⟩]; rfl
  · show (if [PV.tup [.str x, .int v]].isEmpty = false ∧ (0 : Int) ≤ 1 ∧ (1 : Int) ≤ 1000 ∧ [PV.tup [.str x, .int v]].length ≤ 1000 then some (PV.tup (List.replicate (1 : Int).toNat [PV.tup [.str x, .int v]]).flatten) else none) = _
    rw [if_pos ⟨rfl, by decide, by decide, by simp⟩]; rfl
end De
namespace Df
open PySem L2 Mw Lw Cw
def r__law_hand_1 : SM := (mSet 2 (mBin gIx (mPeek 0) (mPeek 1)))
def r__law_hand_2 : SM := (mRet (mShare (mLst (mCons (mBin gMul (mPeek 2) (mArg gInt (mCons (mBin gGe (mPeek 2) (mBin gPow (mC (.int 10)) (mC (.int 18)))) mNil))) (mCons (mBin gMod (mBin gAdd (mBin gAdd (mBin gMod (mPeek 2) (mC (.int 2305843009213693951))) (mBin gMul (mC (.int 7919)) (mPeek 1))) (mC (.int 3))) (mC (.int 2305843009213693951))) (mCons (mC (.int 0)) mNil))))))
def r__law_hand_0 : SM := (mSeq (mIf (mBinT gLt (mPeek 1) (mArg gLen (mCons (mPeek 0) mNil))) (r__law_hand_1) mNext) (r__law_hand_2))
def r__law_hand : SM := (mSeq (mSet 2 (mC (.int 0))) (r__law_hand_0))
abbrev N__law_hand : List Str := ["_law_script", "_law_k", "_law_cell"]
def r__law_take_2 : SM := (mRet (mVar 2))
def r__law_take_1 : SM := (mSeq (mSubSet (mBin gDiv (mBin gIx (mPeek 0) (mC (.int 0))) (mPeek 1)) (mVar 0) (mC (.int 0))) (r__law_take_2))
def r__law_take_0 : SM := (mSeq (mSet 2 (mBin gMod (mBin gIx (mPeek 0) (mC (.int 0))) (mPeek 1))) (r__law_take_1))
def r__law_take_6 : SM := (mRet (mBin gMod (mBin gAdd (mBin gDiv (mPeek 3) (mC (.int 97))) (mBin gDiv (mPeek 3) (mC (.int 1000033)))) (mPeek 1)))
def r__law_take_5 : SM := (mSeq (mSet 3 (mBin gMod (mBin gMul (mPeek 3) (mBin gAdd (mBin gMod (mPeek 3) (mC (.int 1000003))) (mBin gMul (mC (.int 99991)) (mBin gIx (mPeek 0) (mC (.int 2)))))) (mC (.int 2305843009213693907)))) (r__law_take_6))
def r__law_take_4 : SM := (mSeq (mSet 3 (mBin gMod (mBin gMul (mBin gAdd (mBin gAdd (mBin gIx (mPeek 0) (mC (.int 1))) (mBin gMul (mBin gMul (mC (.int 65537)) (mBin gIx (mPeek 0) (mC (.int 2)))) (mBin gIx (mPeek 0) (mC (.int 2))))) (mC (.int 11))) (mC (.int 48271))) (mC (.int 2305843009213693921)))) (r__law_take_5))
def r__law_take_3 : SM := (mSeq (mSubSet (mBin gAdd (mBin gIx (mPeek 0) (mC (.int 2))) (mC (.int 1))) (mVar 0) (mC (.int 2))) (r__law_take_4))
def r__law_take : SM := (mSeq (mIf (mBinT gGt (mBin gIx (mPeek 0) (mC (.int 0))) (mC (.int 0))) (r__law_take_0) mNext) (r__law_take_3))
abbrev N__law_take : List Str := ["_law_hand_here", "_law_many", "_law_digit", "_law_mixed"]
def r__law_pick (S__law_take : FSpec) : SM := (mRet (mBin gIx (mPeek 1) (mCall 2 S__law_take (mCons (mVar 0) (mCons (mArg gLen (mCons (mPeek 1) mNil)) mNil)))))
abbrev N__law_pick : List Str := ["_law_hand_here", "_law_some"]
def r__law_names_3 : SM := (mExprX (mMut 5 gmAppend (mCons (mBin gAdd (mBin gIx (mPeek 2) (mBin gMod (mBin gAdd (mPeek 3) (mBin gMul (mPeek 4) (mPeek 6))) (mC (.int 26)))) (mBin gIx (mLst (mCons (mC (.str "")) (mCons (mC (.str "zq")) (mCons (mC (.str "x")) (mCons (mC (.str "qqzzx")) mNil))))) (mBin gMod (mBin gAdd (mPeek 3) (mBin gMul (mPeek 6) (mPeek 6))) (mC (.int 4))))) mNil)))
def r__law_names_4 : SM := (mRet (mArg gSorted (mCons (mPeek 5) mNil)))
def r__law_names_2 : SM := (mSeq (mFor (mRng1 (mCons (mVar 1) mNil)) (tgN 6) (r__law_names_3)) (r__law_names_4))
def r__law_names_1 : SM := (mSeq (mSetN 5 (mLst mNil)) (r__law_names_2))
def r__law_names_0 (S__law_take : FSpec) : SM := (mSeq (mPar 3 4 (mCons (mCall 2 S__law_take (mCons (mVar 0) (mCons (mC (.int 26)) mNil))) (mCons (mBin gIx (mLst (mCons (mC (.int 1)) (mCons (mC (.int 3)) (mCons (mC (.int 5)) (mCons (mC (.int 7)) (mCons (mC (.int 9)) (mCons (mC (.int 11)) mNil))))))) (mCall 2 S__law_take (mCons (mVar 0) (mCons (mC (.int 6)) mNil)))) mNil))) (r__law_names_1))
def r__law_names (S__law_take : FSpec) : SM := (mSeq (mSet 2 (mC (.str "abcdefghijklmnopqrstuvwxyz"))) (r__law_names_0 S__law_take))
abbrev N__law_names : List Str := ["_law_hand_here", "_law_many", "_law_letters", "_law_first", "_law_step", "_law_found", "_law_k"]
def r__law_sum_2 (S__law_pick : FSpec) : SM := (mRet (mCall 2 S__law_pick (mCons (mVar 0) (mCons (mVar 1) mNil))))
def r__law_sum_3 (S__law_take : FSpec) : SM := (mRet (mCall 2 S__law_take (mCons (mVar 0) (mCons (mBin gIx (mLst (mCons (mC (.int 3)) (mCons (mC (.int 10)) mNil))) (mArg gInt (mCons (mBin gEq (mCall 2 S__law_take (mCons (mVar 0) (mCons (mC (.int 4)) mNil))) (mC (.int 0))) mNil))) mNil))))
def r__law_sum_1 (S__law_take : FSpec) (S__law_pick : FSpec) : SM := (mSeq (mIf (mAndT (mBinT gNe (mPeek 1) (mLst mNil)) (mBinT gGt (mCall 2 S__law_take (mCons (mVar 0) (mCons (mC (.int 3)) mNil))) (mC (.int 0)))) (r__law_sum_2 S__law_pick) mNext) (r__law_sum_3 S__law_take))
def r__law_sum_5 (S__law_pick : FSpec) : SM := (mRet (mTup (mCons (mC (.str "waits")) (mCons (mCall 2 S__law_pick (mCons (mVar 0) (mCons (mVar 2) mNil))) mNil))))
def r__law_sum_7 (S__law_sum : FSpec) : SM := (mRet (mTup (mCons (mC (.str "not")) (mCons (mCall 4 S__law_sum (mCons (mVar 0) (mCons (mVar 1) (mCons (mVar 2) (mCons (mBin gSubI (mPeek 3) (mC (.int 1))) mNil))))) mNil))))
def r__law_sum_9 (S__law_sum : FSpec) : SM := (mRet (mTup (mCons (mVar 5) (mCons (mCall 4 S__law_sum (mCons (mVar 0) (mCons (mVar 1) (mCons (mVar 2) (mCons (mBin gSubI (mPeek 3) (mC (.int 1))) mNil))))) (mCons (mCall 4 S__law_sum (mCons (mVar 0) (mCons (mVar 1) (mCons (mVar 2) (mCons (mBin gSubI (mPeek 3) (mC (.int 1))) mNil))))) mNil)))))
def r__law_sum_8 (S__law_take : FSpec) (S__law_sum : FSpec) : SM := (mSeq (mSet 5 (mBin gIx (mLst (mCons (mC (.str "plus")) (mCons (mC (.str "minus")) (mCons (mC (.str "less")) (mCons (mC (.str "same")) (mCons (mC (.str "both")) mNil)))))) (mCall 2 S__law_take (mCons (mVar 0) (mCons (mC (.int 5)) mNil))))) (r__law_sum_9 S__law_sum))
def r__law_sum_6 (S__law_take : FSpec) (S__law_sum : FSpec) : SM := (mSeq (mIf (mBinT gEq (mPeek 4) (mC (.int 5))) (r__law_sum_7 S__law_sum) mNext) (r__law_sum_8 S__law_take S__law_sum))
def r__law_sum_4 (S__law_take : FSpec) (S__law_pick : FSpec) (S__law_sum : FSpec) : SM := (mSeq (mIf (mAndT (mBinT gEq (mPeek 4) (mC (.int 4))) (mBinT gNe (mPeek 2) (mLst mNil))) (r__law_sum_5 S__law_pick) mNext) (r__law_sum_6 S__law_take S__law_sum))
def r__law_sum_0 (S__law_take : FSpec) (S__law_pick : FSpec) (S__law_sum : FSpec) : SM := (mSeq (mIf (mOrT (mBinT gEq (mPeek 3) (mC (.int 0))) (mOrT (mBinT gLt (mPeek 4) (mC (.int 4))) (mBinT gEq (mPeek 1) (mLst mNil)))) (r__law_sum_1 S__law_take S__law_pick) mNext) (r__law_sum_4 S__law_take S__law_pick S__law_sum))
def r__law_sum (S__law_take : FSpec) (S__law_pick : FSpec) (S__law_sum : FSpec) : SM := (mSeq (mSet 4 (mCall 2 S__law_take (mCons (mVar 0) (mCons (mC (.int 10)) mNil)))) (r__law_sum_0 S__law_take S__law_pick S__law_sum))
abbrev N__law_sum : List Str := ["_law_hand_here", "_law_words", "_law_bells", "_law_deep", "_law_way", "_law_word"]
def r__law_wait_3 : SM := (mRet (mLst (mCons (mTup (mCons (mC (.str "wait")) (mCons (mVar 4) (mCons (mVar 5) mNil)))) mNil)))
def r__law_wait_6 : SM := (mRet (mVar 8))
def r__law_wait_5 : SM := (mSeq (mSet 8 (mLst (mCons (mTup (mCons (mC (.str "unless")) (mCons (mVar 7) (mCons (mBin gAdd (mPeek 3) (mC (.int 3))) mNil)))) (mCons (mTup (mCons (mC (.str "wait")) (mCons (mVar 4) (mCons (mVar 5) mNil)))) (mCons (mTup (mCons (mC (.str "go")) (mCons (mBin gIx (mLst (mCons (mVar 3) (mCons (mBin gAdd (mPeek 3) (mC (.int 3))) mNil))) (mArg gInt (mCons (mBin gEq (mPeek 6) (mC (.int 1))) mNil))) mNil))) mNil))))) (r__law_wait_6))
def r__law_wait_4 (S__law_sum : FSpec) : SM := (mSeq (mSet 7 (mTup (mCons (mC (.str "not")) (mCons (mCall 4 S__law_sum (mCons (mVar 0) (mCons (mVar 1) (mCons (mLst mNil) (mCons (mC (.int 2)) mNil))))) mNil)))) (r__law_wait_5))
def r__law_wait_2 (S__law_sum : FSpec) : SM := (mSeq (mIf (mBinT gEq (mPeek 6) (mC (.int 0))) (r__law_wait_3) mNext) (r__law_wait_4 S__law_sum))
def r__law_wait_1 (S__law_sum : FSpec) (S__law_take : FSpec) : SM := (mSeq (mSet 6 (mCall 2 S__law_take (mCons (mVar 0) (mCons (mC (.int 3)) mNil)))) (r__law_wait_2 S__law_sum))
def r__law_wait_0 (S__law_sum : FSpec) (S__law_take : FSpec) : SM := (mSeq (mSet 5 (mBin gIx (mLst (mCons (mC (.int 0)) (mCons (mC (.str "given")) (mCons (mCall 4 S__law_sum (mCons (mVar 0) (mCons (mVar 1) (mCons (mVar 2) (mCons (mC (.int 1)) mNil))))) mNil)))) (mCall 2 S__law_take (mCons (mVar 0) (mCons (mC (.int 3)) mNil))))) (r__law_wait_1 S__law_sum S__law_take))
def r__law_wait (S__law_pick : FSpec) (S__law_sum : FSpec) (S__law_take : FSpec) : SM := (mSeq (mSet 4 (mCall 2 S__law_pick (mCons (mVar 0) (mCons (mVar 2) mNil)))) (r__law_wait_0 S__law_sum S__law_take))
abbrev N__law_wait : List Str := ["_law_hand_here", "_law_words", "_law_bells", "_law_at", "_law_bell", "_law_turn", "_law_way", "_law_test", "_law_rows"]
def r__law_deed_5 (S__law_wait : FSpec) : SM := (mExprX (mMut 8 gmExtend (mCons (mCall 4 S__law_wait (mCons (mVar 0) (mCons (mVar 7) (mCons (mVar 6) (mCons (mArg gLen (mCons (mPeek 8) mNil)) mNil))))) mNil)))
def r__law_deed_8 (S__law_pick : FSpec) : SM := (mExprX (mMut 8 gmAppend (mCons (mTup (mCons (mVar 11) (mCons (mCall 2 S__law_pick (mCons (mVar 0) (mCons (mVar 6) mNil))) mNil))) mNil)))
def r__law_deed_7 (S__law_take : FSpec) (S__law_pick : FSpec) : SM := (mSeq (mSet 11 (mBin gIx (mLst (mCons (mC (.str "call")) (mCons (mC (.str "all")) mNil))) (mArg gInt (mCons (mAndE (mBin gEq (mPeek 4) (mC (.str "when free"))) (mBin gEq (mCall 2 S__law_take (mCons (mVar 0) (mCons (mC (.int 3)) mNil))) (mC (.int 0)))) mNil)))) (r__law_deed_8 S__law_pick))
def r__law_deed_12 (S__law_pick : FSpec) (S__law_sum : FSpec) : SM := (mExprX (mMut 8 gmAppend (mCons (mTup (mCons (mC (.str "do")) (mCons (mVar 14) (mCons (mVar 12) (mCons (mCall 2 S__law_pick (mCons (mVar 0) (mCons (mVar 13) mNil))) (mCons (mCall 4 S__law_sum (mCons (mVar 0) (mCons (mVar 7) (mCons (mLst mNil) (mCons (mC (.int 1)) mNil))))) mNil)))))) mNil)))
def r__law_deed_11 (S__law_pick : FSpec) (S__law_sum : FSpec) : SM := (mSeq (mSet 14 (mCall 2 S__law_pick (mCons (mVar 0) (mCons (mBin gCat (mLst (mCons (mC .non) mNil)) (mPeek 5)) mNil)))) (r__law_deed_12 S__law_pick S__law_sum))
def r__law_deed_10 (S__law_pick : FSpec) (S__law_sum : FSpec) : SM := (mSeq (mAsg (tgT [(tgN 12), (tgN 13)]) (mCall 2 S__law_pick (mCons (mVar 0) (mCons (mVar 2) mNil)))) (r__law_deed_11 S__law_pick S__law_sum))
def r__law_deed_14 (S__law_sum : FSpec) : SM := (mExprX (mMut 8 gmAppend (mCons (mTup (mCons (mC (.str "tell")) (mCons (mCall 4 S__law_sum (mCons (mVar 0) (mCons (mVar 7) (mCons (mVar 6) (mCons (mC (.int 1)) mNil))))) mNil))) mNil)))
def r__law_deed_17 (S__law_take : FSpec) : SM := (mExprX (mMut 8 gmAppend (mCons (mTup (mCons (mC (.str "tell")) (mCons (mCall 2 S__law_take (mCons (mVar 0) (mCons (mC (.int 10)) mNil))) mNil))) mNil)))
def r__law_deed_16 (S__law_take : FSpec) (S__law_sum : FSpec) : SM := (mSeq (mExprX (mMut 8 gmAppend (mCons (mTup (mCons (mC (.str "unless")) (mCons (mCall 4 S__law_sum (mCons (mVar 0) (mCons (mVar 7) (mCons (mVar 6) (mCons (mC (.int 2)) mNil))))) (mCons (mBin gAdd (mArg gLen (mCons (mPeek 8) mNil)) (mC (.int 2))) mNil)))) mNil))) (r__law_deed_17 S__law_take))
def r__law_deed_19 (S__law_pick : FSpec) (S__law_sum : FSpec) : SM := (mExprX (mMut 8 gmAppend (mCons (mTup (mCons (mC (.str "put")) (mCons (mCall 2 S__law_pick (mCons (mVar 0) (mCons (mVar 5) mNil))) (mCons (mCall 4 S__law_sum (mCons (mVar 0) (mCons (mVar 7) (mCons (mVar 6) (mCons (mC (.int 2)) mNil))))) mNil)))) mNil)))
def r__law_deed_20 (S__law_sum : FSpec) : SM := (mExprX (mMut 8 gmAppend (mCons (mTup (mCons (mC (.str "tell")) (mCons (mCall 4 S__law_sum (mCons (mVar 0) (mCons (mVar 7) (mCons (mLst mNil) (mCons (mC (.int 1)) mNil))))) mNil))) mNil)))
def r__law_deed_18 (S__law_pick : FSpec) (S__law_sum : FSpec) : SM := (mIf (mBinT gNe (mPeek 5) (mLst mNil)) (r__law_deed_19 S__law_pick S__law_sum) (r__law_deed_20 S__law_sum))
def r__law_deed_15 (S__law_take : FSpec) (S__law_pick : FSpec) (S__law_sum : FSpec) : SM := (mIf (mBinT gEq (mPeek 10) (mC (.int 7))) (r__law_deed_16 S__law_take S__law_sum) (r__law_deed_18 S__law_pick S__law_sum))
def r__law_deed_13 (S__law_take : FSpec) (S__law_pick : FSpec) (S__law_sum : FSpec) : SM := (mIf (mBinT gEq (mPeek 10) (mC (.int 6))) (r__law_deed_14 S__law_sum) (r__law_deed_15 S__law_take S__law_pick S__law_sum))
def r__law_deed_9 (S__law_take : FSpec) (S__law_pick : FSpec) (S__law_sum : FSpec) : SM := (mIf (mAndT (mBinT gEq (mPeek 10) (mC (.int 5))) (mBinT gNe (mPeek 2) (mLst mNil))) (r__law_deed_10 S__law_pick S__law_sum) (r__law_deed_13 S__law_take S__law_pick S__law_sum))
def r__law_deed_6 (S__law_take : FSpec) (S__law_pick : FSpec) (S__law_sum : FSpec) : SM := (mIf (mAndT (mBinT gLt (mPeek 10) (mC (.int 5))) (mBinT gNe (mPeek 6) (mLst mNil))) (r__law_deed_7 S__law_take S__law_pick) (r__law_deed_9 S__law_take S__law_pick S__law_sum))
def r__law_deed_4 (S__law_take : FSpec) (S__law_wait : FSpec) (S__law_pick : FSpec) (S__law_sum : FSpec) : SM := (mIf (mAndT (mBinT gLt (mPeek 10) (mC (.int 3))) (mBinT gNe (mPeek 6) (mLst mNil))) (r__law_deed_5 S__law_wait) (r__law_deed_6 S__law_take S__law_pick S__law_sum))
def r__law_deed_3 (S__law_take : FSpec) (S__law_wait : FSpec) (S__law_pick : FSpec) (S__law_sum : FSpec) : SM := (mSeq (mSet 10 (mCall 2 S__law_take (mCons (mVar 0) (mCons (mC (.int 10)) mNil)))) (r__law_deed_4 S__law_take S__law_wait S__law_pick S__law_sum))
def r__law_deed_21 : SM := (mRet (mArg gTuple (mCons (mPeek 8) mNil)))
def r__law_deed_2 (S__law_take : FSpec) (S__law_wait : FSpec) (S__law_pick : FSpec) (S__law_sum : FSpec) : SM := (mSeq (mFor (mRng1 (mCons (mBin gAdd (mC (.int 1)) (mCall 2 S__law_take (mCons (mVar 0) (mCons (mVar 3) mNil)))) mNil)) (tgN 9) (r__law_deed_3 S__law_take S__law_wait S__law_pick S__law_sum)) (r__law_deed_21))
def r__law_deed_1 (S__law_take : FSpec) (S__law_wait : FSpec) (S__law_pick : FSpec) (S__law_sum : FSpec) : SM := (mSeq (mSetN 8 (mLst mNil)) (r__law_deed_2 S__law_take S__law_wait S__law_pick S__law_sum))
def r__law_deed_0 (S__law_take : FSpec) (S__law_wait : FSpec) (S__law_pick : FSpec) (S__law_sum : FSpec) : SM := (mSeq (mSet 7 (mBin gCat (mPeek 5) (mLst (mCons (mC (.str "given")) mNil)))) (r__law_deed_1 S__law_take S__law_wait S__law_pick S__law_sum))
def r__law_deed (S__law_take : FSpec) (S__law_wait : FSpec) (S__law_pick : FSpec) (S__law_sum : FSpec) : SM := (mSeq (mAsg (tgT [(tgN 4), (tgN 5), (tgN 6)]) (mVar 1)) (r__law_deed_0 S__law_take S__law_wait S__law_pick S__law_sum))
abbrev N__law_deed : List Str := ["_law_hand_here", "_law_room_here", "_law_later", "_law_many", "_law_manner", "_law_things", "_law_bells", "_law_words", "_law_rows", "_law_k", "_law_way", "_law_word", "_law_name", "_law_deeds", "_law_goal"]
def r__law_room_5 (S__law_deed : FSpec) : SM := (mExprX (mMut 6 gmAppend (mCons (mTup (mCons (mVar 7) (mCons (mCall 4 S__law_deed (mCons (mVar 0) (mCons (mTup (mCons (mVar 3) (mCons (mVar 4) (mCons (mVar 5) mNil)))) (mCons (mBin gAdd (mPeek 2) (mPeek 9)) (mCons (mC (.int 3)) mNil))))) mNil))) mNil)))
def r__law_room_4 (S__law_deed : FSpec) : SM := (mSeq (mSet 9 (mBin gRep (mLst (mCons (mTup (mCons (mVar 1) (mCons (mLcO 6 [8] (tgN 8) mYes (mBin gIx (mPeek 8) (mC (.int 0)))) mNil))) mNil)) (mArg gInt (mCons (mBin gNe (mPeek 6) (mLst mNil)) mNil)))) (r__law_room_5 S__law_deed))
def r__law_room_6 (S__law_take : FSpec) : SM := (mRet (mTup (mCons (mVar 1) (mCons (mVar 3) (mCons (mArg gTuple (mCons (mLc (mIter (mVar 4)) [10] (tgN 10) mYes (mTup (mCons (mVar 10) (mCons (mCall 2 S__law_take (mCons (mVar 0) (mCons (mC (.int 3)) mNil))) mNil)))) mNil)) (mCons (mArg gTuple (mCons (mLc (mIter (mVar 5)) [11] (tgN 11) mYes (mTup (mCons (mVar 11) (mCons (mBin gIx (mLst (mCons (mC (.str "row")) (mCons (mC (.str "turns")) mNil))) (mCall 2 S__law_take (mCons (mVar 0) (mCons (mC (.int 2)) mNil)))) mNil)))) mNil)) (mCons (mArg gTuple (mCons (mPeek 6) mNil)) mNil)))))))
def r__law_room_3 (S__law_take : FSpec) (S__law_names : FSpec) (S__law_deed : FSpec) : SM := (mSeq (mFor (mIter (mCall 2 S__law_names (mCons (mVar 0) (mCons (mBin gIx (mLst (mCons (mC (.int 1)) (mCons (mC (.int 2)) (mCons (mC (.int 2)) (mCons (mC (.int 3)) mNil))))) (mCall 2 S__law_take (mCons (mVar 0) (mCons (mC (.int 4)) mNil)))) mNil)))) (tgN 7) (r__law_room_4 S__law_deed)) (r__law_room_6 S__law_take))
def r__law_room_2 (S__law_take : FSpec) (S__law_names : FSpec) (S__law_deed : FSpec) : SM := (mSeq (mSetN 6 (mLst mNil)) (r__law_room_3 S__law_take S__law_names S__law_deed))
def r__law_room_1 (S__law_take : FSpec) (S__law_names : FSpec) (S__law_deed : FSpec) : SM := (mSeq (mSet 5 (mCall 2 S__law_names (mCons (mVar 0) (mCons (mBin gIx (mLst (mCons (mC (.int 1)) (mCons (mC (.int 1)) (mCons (mC (.int 2)) (mCons (mC (.int 0)) mNil))))) (mCall 2 S__law_take (mCons (mVar 0) (mCons (mC (.int 4)) mNil)))) mNil)))) (r__law_room_2 S__law_take S__law_names S__law_deed))
def r__law_room_0 (S__law_take : FSpec) (S__law_names : FSpec) (S__law_deed : FSpec) : SM := (mSeq (mSet 4 (mCall 2 S__law_names (mCons (mVar 0) (mCons (mBin gIx (mLst (mCons (mC (.int 1)) (mCons (mC (.int 1)) (mCons (mC (.int 2)) (mCons (mC (.int 0)) mNil))))) (mCall 2 S__law_take (mCons (mVar 0) (mCons (mC (.int 4)) mNil)))) mNil)))) (r__law_room_1 S__law_take S__law_names S__law_deed))
def r__law_room (S__law_take : FSpec) (S__law_names : FSpec) (S__law_deed : FSpec) : SM := (mSeq (mSet 3 (mBin gIx (mLst (mCons (mC (.str "at once")) (mCons (mC (.str "when free")) mNil))) (mCall 2 S__law_take (mCons (mVar 0) (mCons (mC (.int 2)) mNil))))) (r__law_room_0 S__law_take S__law_names S__law_deed))
abbrev N__law_room : List Str := ["_law_hand_here", "_law_name", "_law_later", "_law_manner", "_law_things", "_law_bells", "_law_deeds", "_law_word", "_law_one", "_law_own", "_law_thing", "_law_bell"]
def r__law_rooms_2 (S__law_room : FSpec) : SM := (mExprX (mMut 2 gmAppend (mCons (mCall 3 S__law_room (mCons (mVar 0) (mCons (mVar 3) (mCons (mVar 6) mNil)))) mNil)))
def r__law_rooms_1 (S__law_room : FSpec) : SM := (mSeq (mSet 6 (mLcO 2 [4] (tgN 4) mYes (mTup (mCons (mBin gIx (mPeek 4) (mC (.int 0))) (mCons (mLc (mIter (mBin gIx (mPeek 4) (mC (.int 4)))) [5] (tgN 5) mYes (mBin gIx (mPeek 5) (mC (.int 0)))) mNil))))) (r__law_rooms_2 S__law_room))
def r__law_rooms_3 : SM := (mRet (mArg gTuple (mCons (mSortedT (mPeek 2)) mNil)))
def r__law_rooms_0 (S__law_names : FSpec) (S__law_take : FSpec) (S__law_room : FSpec) : SM := (mSeq (mFor (mIter (mCall 2 S__law_names (mCons (mVar 0) (mCons (mBin gAdd (mC (.int 1)) (mCall 2 S__law_take (mCons (mVar 0) (mCons (mVar 1) mNil)))) mNil)))) (tgN 3) (r__law_rooms_1 S__law_room)) (r__law_rooms_3))
def r__law_rooms (S__law_names : FSpec) (S__law_take : FSpec) (S__law_room : FSpec) : SM := (mSeq (mSetN 2 (mLst mNil)) (r__law_rooms_0 S__law_names S__law_take S__law_room))
abbrev N__law_rooms : List Str := ["_law_hand_here", "_law_most", "_law_rooms_here", "_law_name", "_law_room_here", "_law_deed_here", "_law_later"]
def r__law_program_6 (S__law_pick : FSpec) (S__law_sum : FSpec) : SM := (mExprX (mMut 5 gmAppend (mCons (mTup (mCons (mC (.str "do")) (mCons (mCall 2 S__law_pick (mCons (mVar 0) (mCons (mVar 9) mNil))) (mCons (mBin gIx (mPeek 8) (mC (.int 0))) (mCons (mVar 10) (mCons (mCall 4 S__law_sum (mCons (mVar 0) (mCons (mVar 2) (mCons (mLst mNil) (mCons (mC (.int 1)) mNil))))) mNil)))))) mNil)))
def r__law_program_5 (S__law_pick : FSpec) (S__law_sum : FSpec) : SM := (mSeq (mSet 10 (mBin gIx (mCall 2 S__law_pick (mCons (mVar 0) (mCons (mBin gIx (mPeek 8) (mC (.int 4))) mNil))) (mC (.int 0)))) (r__law_program_6 S__law_pick S__law_sum))
def r__law_program_4 (S__law_pick : FSpec) (S__law_sum : FSpec) : SM := (mSeq (mSet 9 (mBin gCat (mLst (mCons (mC .non) mNil)) (mPeek 2))) (r__law_program_5 S__law_pick S__law_sum))
def r__law_program_3 (S__law_pick : FSpec) (S__law_sum : FSpec) : SM := (mSeq (mSet 8 (mCall 2 S__law_pick (mCons (mVar 0) (mCons (mVar 1) mNil)))) (r__law_program_4 S__law_pick S__law_sum))
def r__law_program_8 (S__law_take : FSpec) (S__law_pick : FSpec) : SM := (mExprX (mMut 5 gmAppend (mCons (mTup (mCons (mBin gIx (mLst (mCons (mC (.str "take")) (mCons (mC (.str "give")) mNil))) (mCall 2 S__law_take (mCons (mVar 0) (mCons (mC (.int 2)) mNil)))) (mCons (mCall 2 S__law_pick (mCons (mVar 0) (mCons (mVar 3) mNil))) mNil))) mNil)))
def r__law_program_10 (S__law_pick : FSpec) (S__law_sum : FSpec) : SM := (mExprX (mMut 5 gmAppend (mCons (mTup (mCons (mC (.str "put")) (mCons (mCall 2 S__law_pick (mCons (mVar 0) (mCons (mVar 2) mNil))) (mCons (mCall 4 S__law_sum (mCons (mVar 0) (mCons (mVar 2) (mCons (mLst mNil) (mCons (mC (.int 2)) mNil))))) mNil)))) mNil)))
def r__law_program_12 (S__law_sum : FSpec) : SM := (mExprX (mMut 5 gmAppend (mCons (mTup (mCons (mC (.str "unless")) (mCons (mCall 4 S__law_sum (mCons (mVar 0) (mCons (mVar 2) (mCons (mLst mNil) (mCons (mC (.int 2)) mNil))))) (mCons (mBin gAdd (mArg gLen (mCons (mPeek 5) mNil)) (mC (.int 2))) mNil)))) mNil)))
def r__law_program_14 : SM := (mExprX (mMut 5 gmAppend (mCons (mTup (mCons (mC (.str "go")) (mCons (mBin gAdd (mArg gLen (mCons (mPeek 5) mNil)) (mC (.int 2))) mNil))) mNil)))
def r__law_program_15 (S__law_sum : FSpec) : SM := (mExprX (mMut 5 gmAppend (mCons (mTup (mCons (mC (.str "say")) (mCons (mCall 4 S__law_sum (mCons (mVar 0) (mCons (mVar 2) (mCons (mLst mNil) (mCons (mC (.int 1)) mNil))))) mNil))) mNil)))
def r__law_program_13 (S__law_sum : FSpec) : SM := (mSeq (mIf (mBinT gEq (mPeek 7) (mC (.int 10))) (r__law_program_14) mNext) (r__law_program_15 S__law_sum))
def r__law_program_11 (S__law_sum : FSpec) : SM := (mSeq (mIf (mBinT gEq (mPeek 7) (mC (.int 9))) (r__law_program_12 S__law_sum) mNext) (r__law_program_13 S__law_sum))
def r__law_program_9 (S__law_pick : FSpec) (S__law_sum : FSpec) : SM := (mIf (mAndT (mBinT gEq (mPeek 7) (mC (.int 8))) (mBinT gNe (mPeek 2) (mLst mNil))) (r__law_program_10 S__law_pick S__law_sum) (r__law_program_11 S__law_sum))
def r__law_program_7 (S__law_take : FSpec) (S__law_pick : FSpec) (S__law_sum : FSpec) : SM := (mIf (mAndT (mBinT gLt (mPeek 7) (mC (.int 8))) (mBinT gNe (mPeek 3) (mLst mNil))) (r__law_program_8 S__law_take S__law_pick) (r__law_program_9 S__law_pick S__law_sum))
def r__law_program_2 (S__law_take : FSpec) (S__law_pick : FSpec) (S__law_sum : FSpec) : SM := (mIf (mAndT (mBinT gLt (mPeek 7) (mC (.int 6))) (mBinT gNe (mPeek 1) (mTup mNil))) (r__law_program_3 S__law_pick S__law_sum) (r__law_program_7 S__law_take S__law_pick S__law_sum))
def r__law_program_1 (S__law_take : FSpec) (S__law_pick : FSpec) (S__law_sum : FSpec) : SM := (mSeq (mSet 7 (mCall 2 S__law_take (mCons (mVar 0) (mCons (mC (.int 12)) mNil)))) (r__law_program_2 S__law_take S__law_pick S__law_sum))
def r__law_program_19 : SM := (mExprX (mMut 5 gmExtend (mCons (mLst (mCons (mTup (mCons (mC (.str "unless")) (mCons (mTup (mCons (mC (.str "less")) (mCons (mVar 11) (mCons (mC (.int 3)) mNil)))) (mCons (mBin gAdd (mPeek 12) (mC (.int 3))) mNil)))) (mCons (mTup (mCons (mC (.str "go")) (mCons (mC (.int 0)) mNil))) mNil))) mNil)))
def r__law_program_18 : SM := (mSeq (mExprX (mMut 5 gmAppend (mCons (mTup (mCons (mC (.str "put")) (mCons (mVar 11) (mCons (mTup (mCons (mC (.str "plus")) (mCons (mVar 11) (mCons (mC (.int 1)) mNil)))) mNil)))) mNil))) (r__law_program_19))
def r__law_program_17 (S__law_pick : FSpec) : SM := (mSeq (mPar 11 12 (mCons (mCall 2 S__law_pick (mCons (mVar 0) (mCons (mVar 2) mNil))) (mCons (mArg gLen (mCons (mPeek 5) mNil)) mNil))) (r__law_program_18))
def r__law_program_20 : SM := (mRet (mArg gTuple (mCons (mPeek 5) mNil)))
def r__law_program_16 (S__law_take : FSpec) (S__law_pick : FSpec) : SM := (mSeq (mIf (mAndT (mBinT gNe (mPeek 2) (mLst mNil)) (mBinT gEq (mCall 2 S__law_take (mCons (mVar 0) (mCons (mC (.int 4)) mNil))) (mC (.int 0)))) (r__law_program_17 S__law_pick) mNext) (r__law_program_20))
def r__law_program_0 (S__law_take : FSpec) (S__law_pick : FSpec) (S__law_sum : FSpec) : SM := (mSeq (mFor (mRng1 (mCons (mBin gAdd (mC (.int 1)) (mCall 2 S__law_take (mCons (mVar 0) (mCons (mVar 4) mNil)))) mNil)) (tgN 6) (r__law_program_1 S__law_take S__law_pick S__law_sum)) (r__law_program_16 S__law_take S__law_pick))
def r__law_program (S__law_take : FSpec) (S__law_pick : FSpec) (S__law_sum : FSpec) : SM := (mSeq (mSetN 5 (mLst mNil)) (r__law_program_0 S__law_take S__law_pick S__law_sum))
abbrev N__law_program : List Str := ["_law_hand_here", "_law_rooms_here", "_law_words", "_law_passes", "_law_many", "_law_rows", "_law_k", "_law_way", "_law_room_here", "_law_goal", "_law_deed_here", "_law_word", "_law_at"]
def r__law_world_6 (S__law_take : FSpec) : SM := (mExprX (mMut 7 gmAppend (mCons (mTup (mCons (mArg gTuple (mCons (mLc (mIter (mVar 9)) [11] (tgN 11) mYes (mTup (mCons (mVar 11) (mCons (mCall 2 S__law_take (mCons (mVar 0) (mCons (mC (.int 3)) mNil))) mNil)))) mNil)) (mCons (mVar 10) mNil))) mNil)))
def r__law_world_5 (S__law_take : FSpec) (S__law_program : FSpec) : SM := (mSeq (mSet 10 (mCall 5 S__law_program (mCons (mVar 0) (mCons (mVar 3) (mCons (mBin gAdd (mPeek 9) (mPeek 6)) (mCons (mVar 5) (mCons (mC (.int 3)) mNil))))))) (r__law_world_6 S__law_take))
def r__law_world_4 (S__law_names : FSpec) (S__law_take : FSpec) (S__law_program : FSpec) : SM := (mSeq (mSet 9 (mLc (mIter (mCall 2 S__law_names (mCons (mVar 0) (mCons (mBin gIx (mLst (mCons (mC (.int 0)) (mCons (mC (.int 1)) (mCons (mC (.int 1)) (mCons (mC (.int 2)) mNil))))) (mCall 2 S__law_take (mCons (mVar 0) (mCons (mC (.int 4)) mNil)))) mNil)))) [4] (tgN 4) mYes (mBin gAdd (mC (.str "h")) (mPeek 4)))) (r__law_world_5 S__law_take S__law_program))
def r__law_world_7 (S__law_take : FSpec) : SM := (mRet (mTup (mCons (mVar 3) (mCons (mArg gTuple (mCons (mLc (mIter (mVar 5)) [4] (tgN 4) mYes (mTup (mCons (mVar 4) (mCons (mCall 2 S__law_take (mCons (mVar 0) (mCons (mC (.int 3)) mNil))) mNil)))) mNil)) (mCons (mArg gTuple (mCons (mLc (mIter (mVar 6)) [4] (tgN 4) mYes (mTup (mCons (mVar 4) (mCons (mCall 2 S__law_take (mCons (mVar 0) (mCons (mC (.int 3)) mNil))) mNil)))) mNil)) (mCons (mArg gTuple (mCons (mPeek 7) mNil)) mNil))))))
def r__law_world_3 (S__law_names : FSpec) (S__law_take : FSpec) (S__law_program : FSpec) : SM := (mSeq (mFor (mRng1 (mCons (mVar 2) mNil)) (tgN 8) (r__law_world_4 S__law_names S__law_take S__law_program)) (r__law_world_7 S__law_take))
def r__law_world_2 (S__law_names : FSpec) (S__law_take : FSpec) (S__law_program : FSpec) : SM := (mSeq (mSetN 7 (mLst mNil)) (r__law_world_3 S__law_names S__law_take S__law_program))
def r__law_world_1 (S__law_names : FSpec) (S__law_take : FSpec) (S__law_program : FSpec) : SM := (mSeq (mSet 6 (mLc (mIter (mCall 2 S__law_names (mCons (mVar 0) (mCons (mBin gIx (mLst (mCons (mC (.int 0)) (mCons (mC (.int 0)) (mCons (mC (.int 0)) (mCons (mC (.int 1)) mNil))))) (mCall 2 S__law_take (mCons (mVar 0) (mCons (mC (.int 4)) mNil)))) mNil)))) [4] (tgN 4) mYes (mBin gAdd (mC (.str "o")) (mPeek 4)))) (r__law_world_2 S__law_names S__law_take S__law_program))
def r__law_world_0 (S__law_names : FSpec) (S__law_take : FSpec) (S__law_program : FSpec) : SM := (mSeq (mSet 5 (mLc (mIter (mCall 2 S__law_names (mCons (mVar 0) (mCons (mBin gIx (mLst (mCons (mC (.int 0)) (mCons (mC (.int 0)) (mCons (mC (.int 1)) (mCons (mC (.int 2)) mNil))))) (mCall 2 S__law_take (mCons (mVar 0) (mCons (mC (.int 4)) mNil)))) mNil)))) [4] (tgN 4) (mBinT gLt (mArg gLen (mCons (mPeek 4) mNil)) (mC (.int 5))) (mBin gAdd (mC (.str "pass")) (mPeek 4)))) (r__law_world_1 S__law_names S__law_take S__law_program))
def r__law_world (S__law_rooms : FSpec) (S__law_names : FSpec) (S__law_take : FSpec) (S__law_program : FSpec) : SM := (mSeq (mSet 3 (mCall 2 S__law_rooms (mCons (mVar 0) (mCons (mVar 1) mNil)))) (r__law_world_0 S__law_names S__law_take S__law_program))
abbrev N__law_world : List Str := ["_law_hand_here", "_law_most", "_law_hands", "_law_rooms_here", "_law_one", "_law_passes", "_law_opened", "_law_made", "_law_k", "_law_own", "_law_program_here", "_law_word"]
def PF (n : Nat) (is : List Int) : Prop := ∃ a b c : Int, is = [a, b, c] ∧ 0 ≤ a ∧ 0 ≤ b ∧ b < 2305843009213693951 ∧ 0 ≤ c ∧ c ≤ n
def potF (n : Nat) : Cell := potP (PF n)
def pf (e : Hi) (r n : Nat) : Hi := e.set r (potF n)
theorem pf_len (e : Hi) (r n : Nat) : (pf e r n).length = e.length := by unfold pf; rw [List.length_set]
def spTkFC : FSpec := fun args et R => ∃ (r : Nat) (m : Int) (e : Hi) (n : Nat) (is : List Int), args = [.ref r, .int m] ∧ et = e.set r (.lst (is.map .int)) ∧ r < e.length ∧ PF n is ∧ n < 1000000 ∧ 0 < m ∧ m < 1073741824 ∧
  ∀ (d : Int) (is' : List Int), 0 ≤ d → d < m → PF (n + 1) is' → R (.int d) (e.set r (.lst (is'.map .int)))
def spTkF : FSpec := fun args et R => ∃ (r : Nat) (m : Int) (e : Hi) (n : Nat), args = [.ref r, .int m] ∧ et = pf e r n ∧ r < e.length ∧ n < 1000000 ∧ 0 < m ∧ m < 1073741824 ∧ ∀ d : Int, 0 ≤ d → d < m → R (.int d) (pf e r (n + 1))
theorem tk {r : Nat} {m : Int} {e : Hi} {n : Nat} {R : PV → Hi → Prop} (hr : r < e.length) (hn : n < 1000000) (m0 : 0 < m) (m1 : m < 1073741824) (h : ∀ d : Int, 0 ≤ d → d < m → R (.int d) (pf e r (n + 1))) : spTkF [.ref r, .int m] (pf e r n) R := ⟨r, m, e, n, rfl, rfl, hr, hn, m0, m1, h⟩
theorem take_imp {K : PySem.W.Frag} {mg : Str → Option Value} {vs : List V} {H : Hp} {Q : VK} {E : XK} (h : FS K mg 2 spTkF vs H Q E) : FS K mg 2 spTkFC vs H Q E := by
  obtain ⟨hl, et, W, args, R, c, va, ⟨r, m, e, n, rfl, rfl, hr, hn, hm, hm2, hR⟩, q⟩ := h
  have hrl : r < (pf e r n).length := by rw [pf_len]; exact hr
  have hlr : r < W.mu.length := by rw [← c.len]; exact hrl
  have hg : (pf e r n)[r]? = some (potF n) := by unfold pf; rw [List.getElem?_set_self hr]
  obtain ⟨vs', k1, is, rfl, k2⟩ := c.ok r _ _ hg (List.getElem?_eq_getElem hlr)
  have c1 : Cel K mg H ((pf e r n).set r (.lst (is.map .int))) W := c.recell hg (by simp [potF, potP]) (by simp) fun a ha _ => by
    rw [List.getElem?_eq_getElem hlr] at ha; cases ha
    exact ⟨_, k1, VRs.ints is⟩
  have es : ∀ x, (pf e r n).set r x = e.set r x := fun x => by unfold pf; rw [List.set_set]
  rw [es] at c1
  refine ⟨hl, _, W, [.ref r, .int m], fun p et2 => ∃ (d : Int) (is' : List Int), p = .int d ∧ 0 ≤ d ∧ d < m ∧ PF (n + 1) is' ∧ et2 = e.set r (.lst (is'.map .int)), c1, va, ⟨r, m, e, n, is, rfl, rfl, hr, k2, hn, hm, hm2, fun d is' d1 d2 d3 => ⟨d, is', rfl, d1, d2, d3, rfl⟩⟩, ?_⟩
  rintro p et2 ⟨d, is', rfl, d1, d2, d3, rfl⟩ v H' W' x' c' v'
  have er : (e.set r (.lst (is'.map .int)))[r]? = some (.lst (is'.map .int)) := by rw [List.getElem?_set_self hr]
  have c3 := c'.recell er (d' := potF (n + 1)) (by simp) (by simp [potF, potP]) fun a ha ho => by
    obtain ⟨vs, g1, g2⟩ := ho
    rw [VRs.ints_eq g2] at g1
    exact ⟨_, g1, is', rfl, d3⟩
  have e3 : (e.set r (.lst (is'.map .int))).set r (potF (n + 1)) = pf e r (n + 1) := by rw [List.set_set]; rfl
  refine q (.int d) _ (hR d d1 d2) v H' W' ?_ (e3 ▸ c3) v'
  have er1 : (e.set r (.lst (is.map .int)))[r]? = some (.lst (is.map .int)) := by rw [List.getElem?_set_self hr]
  have e4 : (e.set r (.lst (is.map .int))).set r (potF n) = pf e r n := by rw [List.set_set]; rfl
  refine x'.live_iff (fun a => ?_) fun a => ?_
  · rw [← e4, Live.set er1 (by simp) (by simp [potF, potP])]
  · rw [← e3, Live.set er (by simp) (by simp [potF, potP])]
theorem take_ok (args : List PV) (et : Hi) (R : PV → Hi → Prop) (h : spTkFC args et R) : r__law_take (env0 N__law_take args) et (retK R) := by
  obtain ⟨r, m, e, n, is, rfl, rfl, hl, ⟨a, b, c, rfl, ha, hb, hb2, hc, hcn⟩, hn, hm, hm2, hR⟩ := h
  have hr : ∀ x, (e.set r (.lst x))[r]? = some (.lst x) := fun x => by rw [List.getElem?_set_self hl]
  have d0 : ∀ x, deref (e.set r (.lst x)) (.ref r) = .lst x := fun x => deref_ref (hr x)
  show r__law_take [.val (.ref r), .val (.int m), .no, .no] (e.set r (.lst [.int a, .int b, .int c])) (retK R)
  unfold r__law_take
  simp! [d0]
  by_cases h1 : 0 < a
  · rw [if_pos (decide_eq_true h1)]
    simp! [r__law_take_2, r__law_take_1, r__law_take_0, r__law_take_6, r__law_take_5, r__law_take_4, r__law_take_3, r__law_take, d0]
    refine ⟨_, if_pos hm, _, if_pos ⟨hm, hm2⟩, r, [.int a, .int b, .int c], 0, 0, rfl, hr _, rfl, rfl, ?_⟩
    rw [List.set_set]
    exact hR (a % m) [a / m, b, c] (Int.emod_nonneg _ (by omega)) (Int.emod_lt_of_pos _ hm) ⟨_, _, _, rfl, Int.ediv_nonneg ha (by omega), hb, hb2, hc, by omega⟩
  · rw [if_neg (by rw [decide_eq_false h1]; decide)]
    unfold r__law_take_3
    simp! [d0]
    refine ⟨r, _, 2, 2, rfl, hr _, rfl, rfl, ?_⟩
    rw [List.set_set]
    show r__law_take_4 _ (e.set r (.lst [.int a, .int b, .int (c + 1)])) _
    unfold r__law_take_4
    simp! [d0]
    refine ⟨_, if_pos (.inl ⟨by decide, by decide⟩), _, if_pos (.inr ⟨by omega, by omega⟩), _, rfl, _, rfl, _, if_pos (.inr ⟨by decide, by decide⟩), _, if_pos (by decide), ?_⟩
    generalize hN : (b + 65537 * (c + 1) * (c + 1) + 11) * 48271 % 2305843009213693921 = N
    have N0 : 0 ≤ N := by rw [← hN]; exact Int.emod_nonneg _ (by decide)
    have N1 : N < 2305843009213693921 := by rw [← hN]; exact Int.emod_lt_of_pos _ (by decide)
    unfold r__law_take_5
    simp! [d0]
    refine ⟨_, if_pos (by decide), _, if_pos (.inl ⟨by decide, by decide⟩), _, rfl, _, if_pos (.inl ⟨by omega, by omega⟩), _, if_pos (by decide), ?_⟩
    unfold r__law_take_6
    simp! [d0]
    refine ⟨_, if_pos ⟨by decide, by decide⟩, _, if_pos ⟨by decide, by decide⟩, _, rfl, _, if_pos hm, ?_⟩
    exact hR _ [a, b, c + 1] (Int.emod_nonneg _ (by omega)) (Int.emod_lt_of_pos _ hm) ⟨_, _, _, rfl, ha, hb, hb2, by omega, by omega⟩
theorem b01 (b : Bool) : (0 : Int) ≤ (if b = true then 1 else 0) := by cases b <;> decide
theorem hand_ok (args : List PV) (et : Hi) (R : PV → Hi → Prop) (h : spNewC 2 (PF 0) okPot args et R) : r__law_hand (env0 N__law_hand args) et (retK R) := by
  obtain ⟨⟨ns, k, rfl, hk⟩, _, hR⟩ := h
  show r__law_hand [.val (.scr ns), .val (.int k), .no] et (retK R)
  have p18 : gPow (.int 10) (.int 18) = some (.int (10 ^ 18)) := rfl
  have rest : ∀ c : Int, r__law_hand_2 [.val (.scr ns), .val (.int k), .val (.int c)] et (retK R) := fun c => by
    unfold r__law_hand_2
    have q2 : ∀ b : Bool, gInt [.bl b] = some (.int (if b = true then 1 else 0)) := fun _ => rfl
    simp! [q2]
    have hb : ∀ b : Bool, -2 ^ 64 < (if b = true then (1 : Int) else 0) ∧ (if b = true then (1 : Int) else 0) < 2 ^ 64 := fun b => by cases b <;> exact ⟨by decide, by decide⟩
    refine ⟨.int (10 ^ 18), by rw [if_pos ⟨by decide, by decide, by decide⟩]; rfl, _, rfl, _, q2 _, _, if_pos (Or.inr (hb _)), _, if_pos (by decide), _, if_pos (Or.inl ⟨by decide, by decide⟩), _, rfl, _, rfl, _, if_pos (by decide), by decide, ?_⟩
    refine hR [_, _, 0] ⟨_, _, _, rfl, ?_, Int.emod_nonneg _ (by decide), Int.emod_lt_of_pos _ (by decide), by decide, by decide⟩
    by_cases h1 : (10 : Int) ^ 18 ≤ c
    · exact Int.mul_nonneg (by omega) (b01 _)
    · rw [show (decide ((10 : Int) ^ 18 ≤ c)) = false from decide_eq_false h1]
      simp
  unfold r__law_hand
  simp!
  unfold r__law_hand_0
  have hlen : gLen [.scr ns] = some (.int ns.length) := rfl
  simp! [hlen]
  by_cases h : (k : Int) < ns.length
  · rw [if_pos (decide_eq_true h)]
    unfold r__law_hand_1
    obtain ⟨x, e⟩ : ∃ x, atI ns (k : Int) = some x := ⟨ns[k]'(by omega), atI_nat (List.getElem?_eq_getElem (by omega))⟩
    simp! [e, Option.map_some]
    exact rest x
  · rw [if_neg (by rw [decide_eq_false h]; decide)]
    exact rest 0
def spPkF : FSpec := fun args et R => ∃ (r : Nat) (xs : List PV) (e : Hi) (n : Nat), (args = [.ref r, .lst xs] ∨ args = [.ref r, .tup xs]) ∧ et = pf e r n ∧ r < e.length ∧ n < 1000000 ∧ 0 < xs.length ∧ xs.length < 1073741824 ∧ ∀ x ∈ xs, R x (pf e r (n + 1))
theorem pick_ok (args : List PV) (et : Hi) (R : PV → Hi → Prop) (h : spPkF args et R) : r__law_pick spTkF (env0 N__law_pick args) et (retK R) := by
  obtain ⟨r, xs, e, n, ha, rfl, hr, hn, h0, h1, hR⟩ := h
  have hlen : gLen [.lst xs] = some (.int xs.length) := rfl
  have hlen2 : gLen [.tup xs] = some (.int xs.length) := rfl
  rcases ha with rfl | rfl
  · show r__law_pick _ [.val (.ref r), .val (.lst xs)] (pf e r n) (retK R)
    simp! [r__law_pick, hlen]
    refine tk hr hn (by omega) (by omega) fun d d0 d1 => ?_
    obtain ⟨x, hx, e⟩ := atI_some d0 d1
    simp! [e]
    exact hR x hx
  · show r__law_pick _ [.val (.ref r), .val (.tup xs)] (pf e r n) (retK R)
    simp! [r__law_pick, hlen2]
    refine tk hr hn (by omega) (by omega) fun d d0 d1 => ?_
    obtain ⟨x, hx, e⟩ := atI_some d0 d1
    simp! [e]
    exact hR x hx
theorem pick {r : Nat} {xs : List PV} {e : Hi} {n : Nat} {R : PV → Hi → Prop} (hr : r < e.length) (hn : n < 1000000) (h0 : 0 < xs.length) (h1 : xs.length < 1073741824) (h : ∀ x ∈ xs, R x (pf e r (n + 1))) : spPkF [.ref r, .lst xs] (pf e r n) R := ⟨r, xs, e, n, .inl rfl, rfl, hr, hn, h0, h1, h⟩
theorem pickT {r : Nat} {xs : List PV} {e : Hi} {n : Nat} {R : PV → Hi → Prop} (hr : r < e.length) (hn : n < 1000000) (h0 : 0 < xs.length) (h1 : xs.length < 1073741824) (h : ∀ x ∈ xs, R x (pf e r (n + 1))) : spPkF [.ref r, .tup xs] (pf e r n) R := ⟨r, xs, e, n, .inr rfl, rfl, hr, hn, h0, h1, h⟩
theorem pickS {r : Nat} {xs : List Str} {e : Hi} {n : Nat} {R : PV → Hi → Prop} (hr : r < e.length) (hn : n < 1000000) (h0 : xs ≠ []) (h1 : xs.length < 1000) (h : ∀ x ∈ xs, R (.str x) (pf e r (n + 1))) : spPkF [.ref r, .lst (xs.map .str)] (pf e r n) R :=
  pick hr hn (by rw [List.length_map]; exact List.length_pos_iff.mpr h0) (by rw [List.length_map]; omega) fun y hy => by
    obtain ⟨z, hz, rfl⟩ := List.mem_map.mp hy
    exact h z hz
theorem lc_pf {α β : Type} {src want : List PV} {tg : PV → En → Option En} {me : EM PV} {epw : En} {e : Hi} {r n C : Nat} {R : PV → Hi → Prop} {xs : List α} (f : α → PV) (g : β → PV) (key : β → α) (P : β → Prop) (h : ∀ m, src.map (deref (pf e r m)) = want) (hl : xs.length ≤ sizeLine)
    (step : ∀ x ∈ xs, ∀ m, n ≤ m → m + C ≤ n + C * xs.length → ∃ ep1, tg (f x) epw = some ep1 ∧ ∀ Q : PV → Hi → Prop, (∀ b m', m' ≤ m + C → n ≤ m' → key b = x → P b → Q (g b) (pf e r m')) → me ep1 (pf e r m) Q)
    (fin : ∀ (bs : List β) (m : Nat), n ≤ m → m ≤ n + C * xs.length → bs.map key = xs → (∀ b ∈ bs, P b) → R (.lst (bs.map g)) (pf e r m)) : lcGo src want tg mYes me epw (xs.map f) (pf e r n) R := by
  refine ⟨fun i acc et1 => i ≤ xs.length ∧ ∃ (bs : List β) (m : Nat), et1 = pf e r m ∧ n ≤ m ∧ m ≤ n + C * i ∧ acc = bs.map g ∧ bs.map key = xs.take i ∧ ∀ b ∈ bs, P b, ⟨Nat.zero_le _, [], n, rfl, Nat.le_refl _, by simp, rfl, rfl, by simp⟩, ?_⟩
  rintro i acc et1 ⟨hi, bs, m, rfl, hm0, hm, rfl, hk, hP⟩
  refine ⟨h m, fun p hp => ?_, fun e => ?_⟩
  · rw [List.getElem?_map] at hp
    obtain ⟨x, hx, rfl⟩ : ∃ x, xs[i]? = some x ∧ p = f x := by
      cases e : xs[i]? with
      | none => rw [e] at hp; cases hp
      | some c => rw [e] at hp; cases hp; exact ⟨c, rfl, rfl⟩
    have hlt := (List.getElem?_eq_some_iff.mp hx).1
    have hmul : C * (i + 1) ≤ C * xs.length := Nat.mul_le_mul (Nat.le_refl _) hlt
    have hms : C * (i + 1) = C * i + C := Nat.mul_succ _ _
    obtain ⟨ep1, h1, h2⟩ := step x (List.mem_of_getElem? hx) m hm0 (by omega)
    refine ⟨ep1, h1, ?_⟩
    simp only [mYes, if_true]
    refine h2 _ fun b m' hm1 hm2 hb hPb => ⟨?_, hlt, bs ++ [b], m', rfl, hm2, by omega, by rw [List.map_append]; rfl, ?_, fun c hc => ?_⟩
    · rw [List.length_map]
      have := congrArg List.length hk
      rw [List.length_map, List.length_take] at this
      omega
    · rw [List.map_append, hk, List.take_succ, hx]; simp [hb]
    · rcases List.mem_append.mp hc with hc | hc
      · exact hP c hc
      · rw [List.mem_singleton.mp hc]; exact hPb
  · have hi2 : i = xs.length := by rw [e, List.length_map]
    subst hi2
    rw [List.take_length] at hk
    exact fin bs m hm0 hm hk hP
def endsF : List Str := ["", "zq", "x", "qqzzx"]
theorem endsF_ok : ∀ x ∈ endsF, x.cps.size ≤ 5 ∧ x.cps.size ≠ 4 ∧ (x.cps.toList.all fun c => decide (97 ≤ c) && decide (c ≤ 122)) = true := by decide +kernel
def wd (f t k : Nat) : Str := ⟨#[97 + (f + t * k) % 26]⟩ ++ endsF[(f + k * k) % 4]!
theorem ends_get (j : Nat) : endsF[j % 4]! ∈ endsF := by
  have : j % 4 < endsF.length := Nat.mod_lt _ (by decide)
  rw [getElem!_pos endsF (j % 4) this]; exact List.getElem_mem this
def isW6 (x : Str) : Prop := 1 ≤ x.cps.size ∧ x.cps.size ≤ 6 ∧ x.cps.size ≠ 5 ∧ (x.cps.toList.all fun c => decide (97 ≤ c) && decide (c ≤ 122)) = true
theorem isW6.word {x : Str} (h : isW6 x) : isWord x = true := by
  obtain ⟨h0, h1, _, h2⟩ := h
  unfold isWord
  simp only [h2, Bool.and_true, Bool.and_eq_true, decide_eq_true_eq]
  omega
theorem wd_ok (f t k : Nat) : isW6 (wd f t k) := by
  obtain ⟨h1, h4, h2⟩ := endsF_ok _ (ends_get (f + k * k))
  unfold isW6 wd
  rw [cps_append]
  have h3 : (f + t * k) % 26 < 26 := Nat.mod_lt _ (by decide)
  simp only [Array.size_append, Array.toList_append, List.all_append, h2]
  simp only [List.all_cons, List.all_nil, Bool.and_true, Bool.and_eq_true, decide_eq_true_eq]
  refine ⟨?_, ?_, ?_, ?_, ?_⟩
  · show 1 ≤ 1 + _; omega
  · show 1 + _ ≤ 6; omega
  · show 1 + _ ≠ 5; omega
  · omega
  · omega
theorem wd_first (f t k : Nat) : (wd f t k).cps.toList[0]? = some (97 + (f + t * k) % 26) := by
  unfold wd; rw [cps_append, Array.toList_append]; rfl
theorem wd_inj {f t j k : Nat} (ht : t ∈ turns) (hj : j < 26) (hk : k < 26) (h : wd f t j = wd f t k) : j = k := by
  have h1 := wd_first f t j
  rw [h, wd_first] at h1
  have h2 : (f + t * k) % 26 = (f + t * j) % 26 := by
    have := Option.some.inj h1; omega
  rcases Nat.le_total j k with hle | hle
  · obtain ⟨d, rfl⟩ := Nat.exists_eq_add_of_le hle
    have h3 : t * (j + d) = t * j + t * d := Nat.mul_add _ _ _
    have := turn_inj t ht d (by omega) (by omega)
    omega
  · obtain ⟨d, rfl⟩ := Nat.exists_eq_add_of_le hle
    have h3 : t * (k + d) = t * k + t * d := Nat.mul_add _ _ _
    have := turn_inj t ht d (by omega) (by omega)
    omega
def wds (f t n : Nat) : List Str := (List.range n).map (wd f t)
theorem wds_ok (f t n : Nat) : ∀ x ∈ wds f t n, isW6 x := fun x hx => by
  obtain ⟨k, _, rfl⟩ := List.mem_map.mp hx; exact wd_ok f t k
theorem wds_nodup {f t n : Nat} (ht : t ∈ turns) (hn : n ≤ 26) : (wds f t n).Nodup := nodup_map_on List.nodup_range fun x hx y hy h =>
  wd_inj ht (by have := List.mem_range.mp hx; omega) (by have := List.mem_range.mp hy; omega) h
theorem wds_succ (f t n : Nat) : wds f t (n + 1) = wds f t n ++ [wd f t n] := by unfold wds; rw [List.range_succ, List.map_append]; rfl
structure Wds (many : Nat) (ws : List Str) : Prop where
  len : ws.length = many
  srt : ws.Pairwise leS
  nd : ws.Nodup
  w6 : ∀ x ∈ ws, isW6 x
theorem Wds.w {many : Nat} {ws : List Str} (h : Wds many ws) : ∀ x ∈ ws, isWord x = true := fun x hx => (h.w6 x hx).word
def spNmF : FSpec := fun args et R => ∃ (r many : Nat) (e : Hi) (n : Nat), args = [.ref r, .int many] ∧ et = pf e r n ∧ r < e.length ∧ n + 2 < 1000000 ∧ many ≤ 26 ∧ ∀ ws, Wds many ws → R (.lst (ws.map .str)) (pf e r (n + 2))
theorem names_ok (args : List PV) (et : Hi) (R : PV → Hi → Prop) (h : spNmF args et R) : r__law_names spTkF (env0 N__law_names args) et (retK R) := by
  obtain ⟨r, many, e, n, rfl, rfl, hr, hn, hm, hR⟩ := h
  show r__law_names _ [.val (.ref r), .val (.int many), .no, .no, .no, .no, .no] (pf e r n) (retK R)
  have big : (2000 : Nat) ≤ sizeLine := by decide
  have k4 : (4 : Nat) ≤ sizeLine := by decide
  have k6 : (6 : Nat) ≤ sizeLine := by decide
  unfold r__law_names
  simp!
  unfold r__law_names_0
  simp!
  refine tk hr (by omega) (by decide) (by decide) fun f f0 f1 => ?_
  obtain ⟨f, rfl⟩ : ∃ j : Nat, f = (j : Int) := ⟨f.toNat, by omega⟩
  refine ⟨k6, ?_⟩
  refine tk hr (by omega) (by decide) (by decide) fun x x0 x1 => ?_
  obtain ⟨t, ht, ex⟩ : ∃ t : Nat, t ∈ turns ∧ atI [PV.int 1, .int 3, .int 5, .int 7, .int 9, .int 11] x = some (.int (t : Nat)) := by
    rcases (by omega : x = 0 ∨ x = 1 ∨ x = 2 ∨ x = 3 ∨ x = 4 ∨ x = 5) with rfl | rfl | rfl | rfl | rfl | rfl
    · exact ⟨1, by decide, rfl⟩
    · exact ⟨3, by decide, rfl⟩
    · exact ⟨5, by decide, rfl⟩
    · exact ⟨7, by decide, rfl⟩
    · exact ⟨9, by decide, rfl⟩
    · exact ⟨11, by decide, rfl⟩
  refine ⟨_, ex, ?_⟩
  unfold r__law_names_1
  simp!
  refine ⟨_, _, rfl, Nat.zero_le _, ?_⟩
  unfold r__law_names_2
  simp!
  refine ⟨_, rfl, by omega, by omega, fun j ep et1 => et1 = pf e r (n + 1 + 1) ∧ j ≤ many ∧ ∃ s6, ep = [.val (.ref r), .val (.int many), .val (.str letters), .val (.int f), .val (.int t), .own (.lst ((wds f t j).map .str)), s6], ⟨rfl, Nat.zero_le _, _, rfl⟩, ?_⟩
  rintro j ep et1 ⟨rfl, hj, s6, rfl⟩
  refine ⟨rfl, fun p hp => ⟨_, rfl, ?_⟩, fun e2 => ?_⟩
  · obtain ⟨rfl, hjm⟩ := Dw.rng_at hp
    have ht26 : t ≤ 11 := by
      simp only [turns, List.mem_cons, List.not_mem_nil, or_false] at ht
      omega
    have m1 : (-2 ^ 64 : Int) < t ∧ (t : Int) < 2 ^ 64 := ⟨by omega, by omega⟩
    have m2 : (-2 ^ 64 : Int) < j ∧ (j : Int) < 2 ^ 64 := ⟨by omega, by omega⟩
    have l1 : letters.length ≤ sizeLine := by decide +kernel
    have e1 : atI letters.cps.toList (((f : Int) + t * j) % 26) = some (97 + (f + t * j) % 26) := by
      have : ((f : Int) + t * j) % 26 = (((f + t * j) % 26 : Nat) : Int) := by simp
      rw [this]
      refine atI_nat ?_
      rw [letters_list, List.getElem?_map, List.getElem?_range (Nat.mod_lt _ (by decide))]
      simp [Nat.add_comm]
    have e2 : atI [PV.str "", .str "zq", .str "x", .str "qqzzx"] (((f : Int) + j * j) % 4) = some (.str endsF[(f + j * j) % 4]!) := by
      have : ((f : Int) + j * j) % 4 = (((f + j * j) % 4 : Nat) : Int) := by simp
      rw [this]
      refine atI_nat ?_
      have hlt : (f + j * j) % 4 < endsF.length := Nat.mod_lt _ (by decide)
      show (endsF.map PV.str)[(f + j * j) % 4]? = _
      rw [List.getElem?_map, List.getElem?_eq_getElem hlt, getElem!_pos endsF _ hlt]; rfl
    have hel := (endsF_ok _ (ends_get (f + j * j))).1
    have l2 : (⟨#[97 + (f + t * j) % 26]⟩ : Str).length + (endsF[(f + j * j) % 4]!).length ≤ sizeLine := by
      rw [len_cps, len_cps]
      show 1 + _ ≤ _
      omega
    have hix : gIx (.str letters) (.int (((f : Int) + t * j) % 26)) = some (.str ⟨#[97 + (f + t * j) % 26]⟩) := by
      show (if letters.length ≤ sizeLine then (atI letters.cps.toList (((f : Int) + t * j) % 26)).map fun c => PV.str ⟨#[c]⟩ else none) = _
      rw [if_pos l1, e1]; rfl
    have hcat : gAdd (.str ⟨#[97 + (f + t * j) % 26]⟩) (.str endsF[(f + j * j) % 4]!) = some (.str (wd f t j)) := by
      show (if (⟨#[97 + (f + t * j) % 26]⟩ : Str).length + (endsF[(f + j * j) % 4]!).length ≤ sizeLine then some (PV.str (⟨#[97 + (f + t * j) % 26]⟩ ++ endsF[(f + j * j) % 4]!)) else none) = _
      rw [if_pos l2]; rfl
    have app : ∀ (d : PV → PV), gmAppend d (.lst ((wds f t j).map .str)) [.str (wd f t j)] = some (.lst ((wds f t (j + 1)).map .str), .non) := fun d => by
      show (if ((wds f t j).map PV.str).length < sizeLine then some (PV.lst ((wds f t j).map PV.str ++ [.str (wd f t j)]), PV.non) else none) = _
      rw [if_pos (by unfold wds; rw [List.length_map, List.length_map, List.length_range]; omega), wds_succ, List.map_append]; rfl
    unfold r__law_names_3
    simp!
    refine ⟨_, if_pos (Or.inl m1), _, rfl, _, if_pos (by decide), _, hix, k4, _, if_pos (Or.inl m2), _, rfl, _, if_pos (by decide), _, e2, _, hcat, _, _, app _, by omega, _, rfl⟩
  · have e3 : j = many := by rw [e2]; simp [rng]
    subst e3
    unfold r__law_names_4
    have hl : (wds f t j).length < 64 := by unfold wds; rw [List.length_map, List.length_range]; omega
    simp! [gSorted_strs hl]
    have pc : (srtS (wds f t j)).Perm (wds f t j) := srt_perm _
    exact hR _ ⟨by rw [pc.length_eq]; simp [wds], srt_pw _, pc.nodup_iff.mpr (wds_nodup ht hm), fun x hx => wds_ok f t j x (pc.mem_iff.mp hx)⟩
def cS : Nat → Nat
  | 0 => 5
  | d + 1 => 2 + 2 * cS d
theorem cS_ge : ∀ d, 5 ≤ cS d
  | 0 => Nat.le_refl _
  | d + 1 => by have := cS_ge d; show 5 ≤ 2 + 2 * cS d; omega
def spSumF : Nat → FSpec := fun j args et R => ∃ (r deep : Nat) (ws bs : List Str) (e : Hi) (n : Nat), args = [.ref r, .lst (ws.map .str), .lst (bs.map .str), .int deep] ∧ et = pf e r n ∧ r < e.length ∧ n + cS deep < 1000000 ∧ deep < j ∧ (∀ x ∈ ws, isWord x = true) ∧ (∀ x ∈ bs, isWord x = true) ∧ ws.length < 1000 ∧ bs.length < 1000 ∧
  ∀ (s : Sm) (m : Nat), n ≤ m → m ≤ n + cS deep → s.dep ≤ deep + 1 → s.ok ws bs → R s.pv (pf e r m)
theorem sum_ok (j : Nat) (args : List PV) (et : Hi) (R : PV → Hi → Prop) (h : spSumF (j + 1) args et R) : r__law_sum spTkF spPkF (spSumF j) (env0 N__law_sum args) et (retK R) := by
  obtain ⟨r, deep, ws, bs, e, n, rfl, rfl, hr, hn, hj, hw, hb, lw, lb, hR⟩ := h
  show r__law_sum _ _ _ [.val (.ref r), .val (.lst (ws.map .str)), .val (.lst (bs.map .str)), .val (.int deep), .no, .no] (pf e r n) (retK R)
  have h5 := cS_ge deep
  unfold r__law_sum
  simp!
  refine tk hr (by omega) (by decide) (by decide) fun d d0 d1 => ?_
  unfold r__law_sum_0
  simp!
  have leaf : r__law_sum_1 spTkF spPkF [.val (.ref r), .val (.lst (ws.map .str)), .val (.lst (bs.map .str)), .val (.int deep), .val (.int d), .no] (pf e r (n + 1)) (retK R) := by
    have val : ∀ m, n ≤ m → m ≤ n + 2 → r__law_sum_3 spTkF [.val (.ref r), .val (.lst (ws.map .str)), .val (.lst (bs.map .str)), .val (.int deep), .val (.int d), .no] (pf e r m) (retK R) := fun m hm0 hm => by
      unfold r__law_sum_3
      simp!
      refine ⟨by decide, ?_⟩
      refine tk hr (by omega) (by decide) (by decide) fun d3 f0 f1 => ?_
      have go : ∀ c : Int, 0 < c → c ≤ 10 → spTkF [.ref r, .int c] (pf e r (m + 1)) R := fun c c0 c1 => by
        refine tk hr (by omega) c0 (by omega) fun v v0 v1 => ?_
        have := hR (.val v.toNat) (m + 1 + 1) (by omega) (by omega) (by simp [Sm.dep]) (show v.toNat ≤ 9 by omega)
        have e : ((v.toNat : Nat) : Int) = v := by omega
        simp only [Sm.pv, e] at this
        exact this
      have g2 : ∀ b : Bool, gInt [.bl b] = some (.int (if b = true then 1 else 0)) := fun _ => rfl
      simp! [g2]
      by_cases h0 : d3 = 0
      · rw [if_pos (decide_eq_true h0)]
        exact ⟨_, rfl, go 10 (by decide) (by decide)⟩
      · rw [if_neg (by rw [decide_eq_false h0]; decide)]
        exact ⟨_, rfl, go 3 (by decide) (by decide)⟩
    unfold r__law_sum_1
    simp! [gNe_words hw]
    refine ⟨by decide, ?_⟩
    cases ws with
    | nil => simpa using val (n + 1) (by omega) (by omega)
    | cons x xs =>
      simp only [List.isEmpty_cons, Bool.not_false, if_true]
      refine tk hr (by omega) (by decide) (by decide) fun d2 e0 e1 => ?_
      simp!
      by_cases h3 : 0 < d2
      · simp only [h3, decide_true, if_true]
        unfold r__law_sum_2
        simp!
        refine pickS (xs := x :: xs) hr (by omega) (by simp) lw fun z hz => ?_
        exact hR (.wrd z) _ (by omega) (by omega) (by simp [Sm.dep]) hz
      · have h3' : decide (0 < d2) = false := by simpa using h3
        simp only [h3', Bool.false_eq_true, if_false]
        exact val (n + 1 + 1) (by omega) (by omega)
  by_cases h1 : (deep : Int) = 0
  · simp only [h1, decide_true, if_true]
    rw [h1] at leaf
    exact leaf
  have h1' : decide ((deep : Int) = 0) = false := by simpa using h1
  simp only [h1', Bool.false_eq_true, if_false]
  by_cases h2 : d < 4
  · simp only [h2, decide_true, if_true]
    exact leaf
  have h2' : decide (d < 4) = false := by simpa using h2
  simp only [h2', Bool.false_eq_true, if_false, De.gEq_words hw]
  refine ⟨by decide, _, rfl, ?_⟩
  by_cases hwe : ws.isEmpty = true
  · rw [if_pos hwe]
    exact leaf
  rw [if_neg hwe]
  obtain ⟨k, rfl⟩ : ∃ k, deep = k + 1 := ⟨deep - 1, by omega⟩
  have ek : (((k + 1 : Nat) : Int) - 1) = (k : Int) := by omega
  have eC : cS (k + 1) = 2 + 2 * cS k := rfl
  have hk5 := cS_ge k
  have rest : r__law_sum_6 spTkF (spSumF j) [.val (.ref r), .val (.lst (ws.map .str)), .val (.lst (bs.map .str)), .val (.int ((k + 1 : Nat) : Int)), .val (.int d), .no] (pf e r (n + 1)) (retK R) := by
    unfold r__law_sum_6
    simp!
    by_cases h4 : d = 5
    · rw [if_pos (decide_eq_true h4)]
      unfold r__law_sum_7
      simp! [ek]
      refine ⟨r, k, ws, bs, e, _, rfl, rfl, hr, by omega, by omega, hw, hb, lw, lb, fun s m hm0 hm hs ho => ?_⟩
      exact ⟨by decide, hR (.not s) m (by omega) (by omega) (by show s.dep + 1 ≤ _; omega) ho⟩
    · rw [if_neg (by rw [decide_eq_false h4]; decide)]
      unfold r__law_sum_8
      simp!
      refine ⟨by decide, ?_⟩
      refine tk hr (by omega) (by decide) (by decide) fun d2 e0 e1 => ?_
      obtain ⟨y, hy, ey⟩ := atI_some (xs := [.str "plus", .str "minus", .str "less", .str "same", .str "both"]) e0 (by simpa using e1)
      obtain ⟨t, rfl⟩ := two_of hy
      simp! [ey]
      unfold r__law_sum_9
      simp! [ek]
      refine ⟨r, k, ws, bs, e, _, rfl, rfl, hr, by omega, by omega, hw, hb, lw, lb, fun s1 m1 hm10 hm1 hs1 ho1 => ?_⟩
      refine ⟨r, k, ws, bs, e, _, rfl, rfl, hr, by omega, by omega, hw, hb, lw, lb, fun s2 m2 hm20 hm2 hs2 ho2 => ?_⟩
      exact ⟨by decide, hR (.two t s1 s2) m2 (by omega) (by omega) (by show max s1.dep s2.dep + 1 ≤ _; omega) ⟨ho1, ho2⟩⟩
  unfold r__law_sum_4
  simp! [gNe_words hb]
  by_cases h3 : d = 4
  · rw [if_pos (decide_eq_true h3)]
    refine ⟨by decide, ?_⟩
    cases bs with
    | nil => simpa using rest
    | cons x xs =>
      simp only [List.isEmpty_cons, Bool.not_false, if_true]
      unfold r__law_sum_5
      simp!
      refine pickS (xs := x :: xs) hr (by omega) (by simp) lb fun z hz => ?_
      exact ⟨by decide, hR (.wts z) _ (by omega) (by omega) (by simp [Sm.dep]) hz⟩
  · rw [if_neg (by rw [decide_eq_false h3]; decide)]
    exact rest
theorem sumi {j r deep n : Nat} {ws bs : List Str} {e : Hi} {R : PV → Hi → Prop} (hr : r < e.length) (hn : n + cS deep < 1000000) (hd : deep < j) (hw : ∀ x ∈ ws, isWord x = true) (hb : ∀ x ∈ bs, isWord x = true) (lw : ws.length < 1000) (lb : bs.length < 1000)
    (h : ∀ (s : Sm) (m : Nat), n ≤ m → m ≤ n + cS deep → s.dep ≤ deep + 1 → s.ok ws bs → R s.pv (pf e r m)) : spSumF j [.ref r, .lst (ws.map .str), .lst (bs.map .str), .int deep] (pf e r n) R := ⟨r, deep, ws, bs, e, n, rfl, rfl, hr, hn, hd, hw, hb, lw, lb, h⟩
def spWtF : FSpec := fun args et R => ∃ (r at_ : Nat) (ws bs : List Str) (e : Hi) (n : Nat), args = [.ref r, .lst (ws.map .str), .lst (bs.map .str), .int at_] ∧ et = pf e r n ∧ r < e.length ∧ n + 50 < 1000000 ∧ (∀ x ∈ ws, isWord x = true) ∧ (∀ x ∈ bs, isWord x = true) ∧ ws.length < 1000 ∧ bs.length < 1000 ∧ bs ≠ [] ∧ ("given" : Str) ∈ ws ∧
  ∀ (rows : List Row) (m : Nat), n ≤ m → m ≤ n + 50 → rows.length ≤ 3 → 1 ≤ rows.length → (∀ row ∈ rows, ∀ ts gs, row.okD ws ts bs gs (at_ + rows.length)) → R (.lst (rows.map Row.pv)) (pf e r m)
theorem wait_ok (args : List PV) (et : Hi) (R : PV → Hi → Prop) (h : spWtF args et R) : r__law_wait spPkF (spSumF 3) spTkF (env0 N__law_wait args) et (retK R) := by
  obtain ⟨r, a, ws, bs, e, n, rfl, rfl, hr, hn, hw, hb, lw, lb, hbs, hg, hR⟩ := h
  show r__law_wait _ _ _ [.val (.ref r), .val (.lst (ws.map .str)), .val (.lst (bs.map .str)), .val (.int a), .no, .no, .no, .no, .no] (pf e r n) (retK R)
  have c1 : cS 1 = 12 := rfl
  have c2 : cS 2 = 26 := rfl
  unfold r__law_wait
  simp!
  refine pickS hr (by omega) hbs lb fun b hbm => ?_
  unfold r__law_wait_0
  simp!
  refine sumi (deep := 1) hr (by omega) (by decide) hw hb lw lb fun s1 m1 hm10 hm1 hs1 ho1 => ⟨by decide, ?_⟩
  refine tk hr (by omega) (by decide) (by decide) fun d d0 d1 => ?_
  obtain ⟨s, hs, es⟩ : ∃ s : Sm, okS ws bs s ∧ atI [PV.int 0, .str "given", s1.pv] d = some s.pv := by
    rcases (by omega : d = 0 ∨ d = 1 ∨ d = 2) with rfl | rfl | rfl
    · exact ⟨.val 0, ⟨Nat.zero_le _, by decide⟩, rfl⟩
    · exact ⟨.wrd "given", ⟨hg, by decide⟩, rfl⟩
    · exact ⟨s1, ⟨ho1, by omega⟩, rfl⟩
  refine ⟨_, es, ?_⟩
  unfold r__law_wait_1
  simp!
  refine tk hr (by omega) (by decide) (by decide) fun d2 e0 e1 => ?_
  unfold r__law_wait_2
  simp!
  by_cases h0 : d2 = 0
  · rw [if_pos (decide_eq_true h0)]
    unfold r__law_wait_3
    simp!
    refine ⟨by decide, by decide, hR [.wait b s] _ (by omega) (by omega) (by simp) (by simp) fun row hrow ts gs => ?_⟩
    rw [List.mem_singleton.mp hrow]
    exact ⟨hbm, hs⟩
  · rw [if_neg (by rw [decide_eq_false h0]; decide)]
    unfold r__law_wait_4
    simp!
    refine ⟨Nat.zero_le _, ?_⟩
    refine sumi (deep := 2) (bs := []) hr (by omega) (by decide) hw (by simp) lw (by simp) fun s2 m2 hm20 hm2 hs2 ho2 => ⟨by decide, ?_⟩
    unfold r__law_wait_5
    have g2 : ∀ b : Bool, gInt [.bl b] = some (.int (if b = true then 1 else 0)) := fun _ => rfl
    simp! [g2]
    obtain ⟨k, hk, ek⟩ : ∃ k : Nat, k ≤ a + 3 ∧ atI [PV.int a, .int ((a : Int) + 3)] (if decide (d2 = 1) = true then 1 else 0) = some (.int k) := by
      by_cases h1 : d2 = 1
      · rw [if_pos (decide_eq_true h1)]
        exact ⟨a + 3, Nat.le_refl _, rfl⟩
      · rw [if_neg (by rw [decide_eq_false h1]; decide)]
        exact ⟨a, by omega, rfl⟩
    refine ⟨by decide, by decide, by decide, _, ek, by decide, by decide, ?_⟩
    unfold r__law_wait_6
    simp!
    refine hR [.unl (.not s2) (a + 3), .wait b s, .go k] _ (by omega) (by omega) (by simp) (by simp) fun row hrow ts gs => ?_
    simp only [List.mem_cons, List.not_mem_nil, or_false] at hrow
    rcases hrow with rfl | rfl | rfl
    · exact ⟨⟨ok_nobell s2 ho2, by show s2.dep + 1 ≤ 5; omega⟩, Nat.le_refl _⟩
    · exact ⟨hbm, hs⟩
    · exact hk
abbrev Lat := Str × List Str
def latPV (l : Lat) : PV := .tup [.str l.1, .lst (l.2.map .str)]
structure LatOk (ls : List Lat) : Prop where
  w : ∀ l ∈ ls, isWord l.1 = true ∧ l.2 ≠ [] ∧ l.2.length < 100 ∧ ∀ x ∈ l.2, isWord x = true
  l : ls.length < 100
def latGo (ls : List Lat) : List (Str × Str) := ls.flatMap fun l => l.2.map fun d => (l.1, d)
theorem gNe_lat {ls : List Lat} (h : LatOk ls) : gNe (.lst (ls.map latPV)) (.lst []) = some (.bl (!ls.isEmpty)) := by
  obtain ⟨h1, h2⟩ := doks_map (f := latPV) (n := 2) ls fun l hl => by
    obtain ⟨a, _, _, b⟩ := h.w l hl
    obtain ⟨k1, k2⟩ := doks_words b
    exact ⟨by simp [latPV, dok, doks, isWord_strOk a, k1], by simp [latPV, dpt, dpts, k2]⟩
  rw [gNe_nil h1 (by omega)]
  cases ls <;> rfl
def spDdF : FSpec := fun args et R => ∃ (r many : Nat) (f : Bool) (ts bs : List Str) (ls : List Lat) (e : Hi) (n : Nat), args = [.ref r, .tup [.str (mnS f), .lst (ts.map .str), .lst (bs.map .str)], .lst (ls.map latPV), .int many] ∧ et = pf e r n ∧ r < e.length ∧ n + 400 < 1000000 ∧ 1 ≤ many ∧ many ≤ 3 ∧
  (∀ x ∈ ts, isWord x = true) ∧ (∀ x ∈ bs, isWord x = true) ∧ ts.length < 100 ∧ bs.length < 100 ∧ LatOk ls ∧
  ∀ (rows : List Row) (m : Nat), n ≤ m → m ≤ n + 200 → 1 ≤ rows.length → rows.length ≤ 30 → (∀ row ∈ rows, row.okD (ts ++ [("given" : Str)]) ts bs (latGo ls) rows.length) → R (.tup (rows.map Row.pv)) (pf e r m)
theorem rows_len (rows : List Row) : gLen [.lst (rows.map Row.pv)] = some (.int rows.length) := by show some (PV.int ((rows.map Row.pv).length : Int)) = _; rw [List.length_map]
theorem rows_app (d : PV → PV) (rows : List Row) (row : Row) (hl : rows.length ≤ 1000) : gmAppend d (.lst (rows.map Row.pv)) [row.pv] = some (.lst ((rows ++ [row]).map Row.pv), .non) := by
  have big : (2000 : Nat) ≤ sizeLine := by decide
  show (if (rows.map Row.pv).length < sizeLine then some (PV.lst (rows.map Row.pv ++ [row.pv]), PV.non) else none) = _
  rw [if_pos (by rw [List.length_map]; omega), List.map_append]; rfl
theorem rows_ext (d : PV → PV) (rows new : List Row) (hl : rows.length + new.length ≤ 1000) (hd : d (.lst (new.map Row.pv)) = .lst (new.map Row.pv)) : gmExtend d (.lst (rows.map Row.pv)) [.lst (new.map Row.pv)] = some (.lst ((rows ++ new).map Row.pv), .non) := by
  have big : (2000 : Nat) ≤ sizeLine := by decide
  show (match d (.lst (new.map Row.pv)) with
    | .lst zs => if (rows.map Row.pv).length + zs.length ≤ sizeLine then some (PV.lst (rows.map Row.pv ++ zs), PV.non) else none
    | _ => none) = _
  rw [hd]
  simp only []
  rw [if_pos (by rw [List.length_map, List.length_map]; omega), List.map_append]
theorem none_cat (ts : List Str) (hl : ts.length ≤ 1000) : gCat (.lst [.non]) (.lst (ts.map .str)) = some (.lst (.non :: ts.map .str)) := by
  have big : (2000 : Nat) ≤ sizeLine := by decide
  show (if [PV.non].length + (ts.map PV.str).length ≤ sizeLine then some (PV.lst ([PV.non] ++ ts.map .str)) else none) = _
  rw [if_pos (by rw [List.length_map, List.length_singleton]; omega)]; rfl
theorem none_mem {ts : List Str} {z : PV} (h : z ∈ PV.non :: ts.map PV.str) : ∃ go : Option Str, (∀ x, go = some x → x ∈ ts) ∧ z = optPV go := by
  rcases List.mem_cons.mp h with rfl | h
  · exact ⟨none, (fun x e => by cases e), rfl⟩
  · obtain ⟨x, hx, rfl⟩ := List.mem_map.mp h
    exact ⟨some x, (fun x e => by cases e; exact hx), rfl⟩
abbrev epD (r many : Nat) (f : Bool) (ts bs : List Str) (ls : List Lat) (L : PV) (s9 s10 s11 s12 s13 s14 : Mw.Slot) : En :=
  [.val (.ref r), .val (.tup [.str (mnS f), .lst (ts.map .str), .lst (bs.map .str)]), .val (.lst (ls.map latPV)), .val (.int many), .val (.str (mnS f)), .val (.lst (ts.map .str)), .val (.lst (bs.map .str)), .val (.lst ((ts ++ [("given" : Str)]).map .str)), .own L, s9, s10, s11, s12, s13, s14]
def GotD (r many : Nat) (f : Bool) (ts bs : List Str) (ls : List Lat) (rows : List Row) (e : Hi) (m : Nat) (K0 : Mw.Fl → En → Hi → Prop) : Prop :=
  ∀ (new : List Row) (m' : Nat) (s9 s10 s11 s12 s13 s14 : Mw.Slot), m ≤ m' → m' ≤ m + 60 → 1 ≤ new.length → new.length ≤ 3 → (∀ row ∈ new, row.okD (ts ++ [("given" : Str)]) ts bs (latGo ls) (rows.length + new.length)) → K0 .nx (epD r many f ts bs ls (.lst ((rows ++ new).map Row.pv)) s9 s10 s11 s12 s13 s14) (pf e r m')
theorem deed_it {r many : Nat} {f : Bool} {ts bs : List Str} {ls : List Lat} {rows : List Row} {e : Hi} {m : Nat} {K0 : Mw.Fl → En → Hi → Prop} {s9 s10 s11 s12 s13 s14 : Mw.Slot} (hr : r < e.length) (hn : m + 100 < 1000000) (hrl : rows.length ≤ 100)
    (ht : ∀ x ∈ ts, isWord x = true) (hb : ∀ x ∈ bs, isWord x = true) (htl : ts.length < 100) (hbl : bs.length < 100) (hls : LatOk ls) (hK : GotD r many f ts bs ls rows e m K0) :
    r__law_deed_3 spTkF spWtF spPkF (spSumF 3) (epD r many f ts bs ls (.lst (rows.map Row.pv)) s9 s10 s11 s12 s13 s14) (pf e r m) K0 := by
  have big : (2000 : Nat) ≤ sizeLine := by decide
  have c1 : cS 1 = 12 := rfl
  have c2 : cS 2 = 26 := rfl
  have hw : ∀ x ∈ ts ++ [("given" : Str)], isWord x = true := fun x hx => by
    rcases List.mem_append.mp hx with hx | hx
    · exact ht x hx
    · rw [List.mem_singleton.mp hx]; decide +kernel
  have hgv : ("given" : Str) ∈ ts ++ [("given" : Str)] := by simp
  have lw : (ts ++ [("given" : Str)]).length < 1000 := by rw [List.length_append, List.length_singleton]; omega
  have app := fun (d : PV → PV) (row : Row) => rows_app d rows row (by omega)
  have glen := rows_len rows
  have one : ∀ (row : Row) (m' : Nat) (s9 s10 s11 s12 s13 s14 : Mw.Slot), row.okD (ts ++ [("given" : Str)]) ts bs (latGo ls) (rows.length + 1) → m ≤ m' → m' ≤ m + 60 → K0 .nx (epD r many f ts bs ls (.lst ((rows ++ [row]).map Row.pv)) s9 s10 s11 s12 s13 s14) (pf e r m') := fun row m' s9 s10 s11 s12 s13 s14 h h1 h2 =>
    hK [row] m' _ _ _ _ _ _ h1 h2 (by simp) (by simp) fun r' hr' => by rw [List.mem_singleton.mp hr']; exact h
  unfold r__law_deed_3
  simp!
  refine tk hr (by omega) (by decide) (by decide) fun d d0 d1 => ?_
  have P13 : r__law_deed_13 spTkF spPkF (spSumF 3) (epD r many f ts bs ls (.lst (rows.map Row.pv)) s9 (.val (.int d)) s11 s12 s13 s14) (pf e r (m + 1)) K0 := by
    unfold r__law_deed_13
    simp!
    by_cases h6 : d = 6
    · rw [if_pos (decide_eq_true h6)]
      unfold r__law_deed_14
      simp!
      refine sumi (deep := 1) hr (by omega) (by decide) hw hb lw (by omega) fun s m2 hm20 hm2 hs ho => ⟨by decide, _, _, app _ (.tell s), ?_⟩
      exact one (.tell s) m2 _ _ _ _ _ _ ⟨ho, by omega⟩ (by omega) (by omega)
    rw [if_neg (by rw [decide_eq_false h6]; decide)]
    unfold r__law_deed_15
    simp!
    by_cases h7 : d = 7
    · rw [if_pos (decide_eq_true h7)]
      unfold r__law_deed_16
      simp! [glen]
      refine sumi (deep := 2) hr (by omega) (by decide) hw hb lw (by omega) fun s m2 hm20 hm2 hs ho => ⟨by decide, _, _, app _ (.unl s (rows.length + 2)), ?_⟩
      unfold r__law_deed_17
      simp!
      refine tk hr (by omega) (by decide) (by decide) fun v v0 v1 => ⟨by decide, ?_⟩
      have ev : ((v.toNat : Nat) : Int) = v := by omega
      have app2 := fun (d : PV → PV) => rows_app d (rows ++ [.unl s (rows.length + 2)]) (.tell (.val v.toNat)) (by simp; omega)
      simp only [Row.pv, Sm.pv, ev] at app2
      refine ⟨_, _, app2 _, ?_⟩
      have eh : (rows ++ [Row.unl s (rows.length + 2)]) ++ [Row.tell (.val v.toNat)] = rows ++ [Row.unl s (rows.length + 2), Row.tell (.val v.toNat)] := by simp
      rw [eh]
      refine hK [.unl s (rows.length + 2), .tell (.val v.toNat)] _ _ _ _ _ _ _ (by omega) (by omega) (by simp) (by simp) fun row hrow => ?_
      simp only [List.mem_cons, List.not_mem_nil, or_false] at hrow
      rcases hrow with rfl | rfl
      · exact ⟨⟨ho, by omega⟩, Nat.le_refl _⟩
      · exact ⟨show v.toNat ≤ 9 by omega, by simp [Sm.dep]⟩
    rw [if_neg (by rw [decide_eq_false h7]; decide)]
    unfold r__law_deed_18
    simp! [gNe_words ht]
    refine ⟨by decide, ?_⟩
    by_cases hte : ts = []
    · rw [if_neg (by rw [hte]; simp)]
      unfold r__law_deed_20
      simp!
      refine ⟨Nat.zero_le _, ?_⟩
      refine sumi (deep := 1) (bs := []) hr (by omega) (by decide) hw (by simp) lw (by simp) fun s m2 hm20 hm2 hs ho => ⟨by decide, _, _, app _ (.tell s), ?_⟩
      exact one (.tell s) m2 _ _ _ _ _ _ ⟨ok_nobell s ho, by omega⟩ (by omega) (by omega)
    · rw [if_pos (by cases ts with | nil => exact absurd rfl hte | cons a l => rfl)]
      unfold r__law_deed_19
      simp!
      refine pickS hr (by omega) hte (by omega) fun x hx => ?_
      refine sumi (deep := 2) hr (by omega) (by decide) hw hb lw (by omega) fun s m2 hm20 hm2 hs ho => ⟨by decide, _, _, app _ (.put x s), ?_⟩
      exact one (.put x s) m2 _ _ _ _ _ _ ⟨hx, ho, by omega⟩ (by omega) (by omega)
  have P9 : r__law_deed_9 spTkF spPkF (spSumF 3) (epD r many f ts bs ls (.lst (rows.map Row.pv)) s9 (.val (.int d)) s11 s12 s13 s14) (pf e r (m + 1)) K0 := by
    unfold r__law_deed_9
    simp! [gNe_lat hls]
    by_cases h5 : d = 5
    · rw [if_pos (decide_eq_true h5)]
      refine ⟨by decide, ?_⟩
      by_cases hle : ls = []
      · rw [if_neg (by rw [hle]; simp)]
        exact P13
      · rw [if_pos (by cases ls with | nil => exact absurd rfl hle | cons a l => rfl)]
        unfold r__law_deed_10
        simp!
        have hl100 := hls.l
        refine pick hr (by omega) (by rw [List.length_map]; exact List.length_pos_iff.mpr hle) (by rw [List.length_map]; omega) fun y hy => ?_
        obtain ⟨l, hl, rfl⟩ := List.mem_map.mp hy
        obtain ⟨hl1, hl2, hl3, hl4⟩ := hls.w l hl
        refine ⟨_, rfl, ?_⟩
        unfold r__law_deed_11
        simp! [none_cat ts (by omega)]
        refine ⟨by decide, pick hr (by omega) (by simp) (by simp; omega) fun z hz => ?_⟩
        obtain ⟨go, hgo, rfl⟩ := none_mem hz
        unfold r__law_deed_12
        simp!
        refine pickS hr (by omega) hl2 (by omega) fun dd hdd => ⟨Nat.zero_le _, ?_⟩
        refine sumi (deep := 1) (bs := []) hr (by omega) (by decide) hw (by simp) lw (by simp) fun s m2 hm20 hm2 hs ho => ⟨by decide, _, _, app _ (.doo go l.1 dd s), ?_⟩
        exact one (.doo go l.1 dd s) m2 _ _ _ _ _ _ ⟨hgo, List.mem_flatMap.mpr ⟨l, hl, List.mem_map.mpr ⟨dd, hdd, rfl⟩⟩, ok_nobell s ho, by omega⟩ (by omega) (by omega)
    · rw [if_neg (by rw [decide_eq_false h5]; decide)]
      exact P13
  have P6 : r__law_deed_6 spTkF spPkF (spSumF 3) (epD r many f ts bs ls (.lst (rows.map Row.pv)) s9 (.val (.int d)) s11 s12 s13 s14) (pf e r (m + 1)) K0 := by
    unfold r__law_deed_6
    simp! [gNe_words hb]
    by_cases h5 : d < 5
    · rw [if_pos (decide_eq_true h5)]
      refine ⟨by decide, ?_⟩
      by_cases hbe : bs = []
      · rw [if_neg (by rw [hbe]; simp)]
        exact P9
      · rw [if_pos (by cases bs with | nil => exact absurd rfl hbe | cons a l => rfl)]
        unfold r__law_deed_7
        have g2 : ∀ b : Bool, gInt [.bl b] = some (.int (if b = true then 1 else 0)) := fun _ => rfl
        simp! [g2]
        have call : ∀ (w : Bool) (m2 : Nat), m + 1 ≤ m2 → m2 ≤ m + 3 → r__law_deed_8 spPkF (epD r many f ts bs ls (.lst (rows.map Row.pv)) s9 (.val (.int d)) (.val (.str (if w = true then "all" else "call"))) s12 s13 s14) (pf e r m2) K0 := fun w m2 h1 h2 => by
          unfold r__law_deed_8
          simp!
          refine pickS hr (by omega) hbe (by omega) fun b hbm => ⟨by decide, ?_⟩
          cases w
          · exact ⟨_, _, app _ (.call b), one (.call b) _ _ _ _ _ _ _ hbm (by omega) (by omega)⟩
          · exact ⟨_, _, app _ (.all b), one (.all b) _ _ _ _ _ _ _ hbm (by omega) (by omega)⟩
        refine ⟨by decide, ?_⟩
        by_cases hmn : mnS f = "when free"
        · rw [if_pos (decide_eq_true hmn)]
          refine tk hr (by omega) (by decide) (by decide) fun d2 e0 e1 => ?_
          by_cases h0 : d2 = 0
          · simp! [h0, decide_true, g2]
            first | exact call true _ (by omega) (by omega) | exact ⟨_, rfl, call true _ (by omega) (by omega)⟩ | exact ⟨_, rfl, _, rfl, call true _ (by omega) (by omega)⟩
          · simp! [h0, decide_false, g2]
            first | exact call false _ (by omega) (by omega) | exact ⟨_, rfl, call false _ (by omega) (by omega)⟩ | exact ⟨_, rfl, _, rfl, call false _ (by omega) (by omega)⟩
        · rw [if_neg (by rw [decide_eq_false hmn]; decide)]
          first | exact call false _ (by omega) (by omega) | exact ⟨_, rfl, call false _ (by omega) (by omega)⟩ | exact ⟨_, rfl, _, rfl, call false _ (by omega) (by omega)⟩
    · rw [if_neg (by rw [decide_eq_false h5]; decide)]
      exact P9
  unfold r__law_deed_4
  simp! [gNe_words hb]
  by_cases h3 : d < 3
  · rw [if_pos (decide_eq_true h3)]
    refine ⟨by decide, ?_⟩
    by_cases hbe : bs = []
    · rw [if_neg (by rw [hbe]; simp)]
      exact P6
    · rw [if_pos (by cases bs with | nil => exact absurd rfl hbe | cons a l => rfl)]
      unfold r__law_deed_5
      simp! [glen]
      refine ⟨r, rows.length, _, bs, e, _, rfl, rfl, hr, by omega, hw, hb, lw, by omega, hbe, hgv, fun new m2 hm20 hm2 h1 h2 h4 => ?_⟩
      refine ⟨_, _, rows_ext _ rows new (by omega) rfl, ?_⟩
      exact hK new m2 _ _ _ _ _ _ (by omega) (by omega) h2 h1 fun row hrow => h4 row hrow ts _
  · rw [if_neg (by rw [decide_eq_false h3]; decide)]
    exact P6
theorem deed_ok (args : List PV) (et : Hi) (R : PV → Hi → Prop) (h : spDdF args et R) : r__law_deed spTkF spWtF spPkF (spSumF 3) (env0 N__law_deed args) et (retK R) := by
  obtain ⟨r, many, f, ts, bs, ls, e, n, rfl, rfl, hr, hn, hm1, hm3, ht, hb, htl, hbl, hls, hR⟩ := h
  show r__law_deed _ _ _ _ [.val (.ref r), .val (.tup [.str (mnS f), .lst (ts.map .str), .lst (bs.map .str)]), .val (.lst (ls.map latPV)), .val (.int many), .no, .no, .no, .no, .no, .no, .no, .no, .no, .no, .no] (pf e r n) (retK R)
  have big : (2000 : Nat) ≤ sizeLine := by decide
  have c1 : cS 1 = 12 := rfl
  have c2 : cS 2 = 26 := rfl
  have hw : ∀ x ∈ ts ++ [("given" : Str)], isWord x = true := fun x hx => by
    rcases List.mem_append.mp hx with hx | hx
    · exact ht x hx
    · rw [List.mem_singleton.mp hx]; decide +kernel
  have hgv : ("given" : Str) ∈ ts ++ [("given" : Str)] := by simp
  have lw : (ts ++ [("given" : Str)]).length < 1000 := by rw [List.length_append, List.length_singleton]; omega
  have ec : gCat (.lst (ts.map .str)) (.lst [.str "given"]) = some (.lst ((ts ++ [("given" : Str)]).map .str)) := Dw.cat_strs (a := ts) (b := ["given"]) (by simp; omega)
  unfold r__law_deed
  simp!
  refine ⟨_, rfl, ?_⟩
  unfold r__law_deed_0
  simp! [ec]
  refine ⟨by decide, ?_⟩
  unfold r__law_deed_1
  simp!
  refine ⟨Nat.zero_le _, ?_⟩
  unfold r__law_deed_2
  simp!
  refine tk hr (by omega) (by omega) (by omega) fun d d0 d1 => ?_
  obtain ⟨k, ek, k0, k1⟩ : ∃ k : Nat, 1 + d = (k : Int) ∧ 1 ≤ k ∧ k ≤ 3 := ⟨(1 + d).toNat, by omega, by omega, by omega⟩
  simp! [ek]
  refine ⟨_, rfl, by omega, by omega, fun t ep et1 => t ≤ k ∧ ∃ (rows : List Row) (m : Nat) (s9 s10 s11 s12 s13 s14 : Mw.Slot), et1 = pf e r m ∧ n ≤ m ∧ m ≤ n + 1 + 60 * t ∧ ep = epD r many f ts bs ls (.lst (rows.map Row.pv)) s9 s10 s11 s12 s13 s14 ∧ t ≤ rows.length ∧ rows.length ≤ 3 * t ∧
    ∀ row ∈ rows, row.okD (ts ++ [("given" : Str)]) ts bs (latGo ls) rows.length, ⟨Nat.zero_le _, [], n + 1, _, _, _, _, _, _, rfl, by omega, by omega, rfl, Nat.le_refl _, Nat.le_refl _, by simp⟩, ?_⟩
  rintro t ep et1 ⟨htk, rows, m, s9, s10, s11, s12, s13, s14, rfl, hm0, hm, rfl, hl1, hl2, hrows⟩
  refine ⟨rfl, fun p hp => ⟨_, rfl, ?_⟩, fun e2 => ?_⟩
  · obtain ⟨rfl, htk2⟩ := Dw.rng_at hp
    refine deed_it hr (by omega) (by omega) ht hb htl hbl hls fun new m' t9 t10 t11 t12 t13 t14 h1 h2 h3 h4 h5 => ?_
    refine ⟨by omega, rows ++ new, m', _, _, _, _, _, _, rfl, by omega, by omega, rfl, by rw [List.length_append]; omega, by rw [List.length_append]; omega, fun row hrow => ?_⟩
    rw [List.length_append]
    rcases List.mem_append.mp hrow with hrow | hrow
    · exact Row.okD_mono (by omega) row (hrows row hrow)
    · exact h5 row hrow
  · have e3 : t = k := by rw [e2]; simp [rng]
    subst e3
    unfold r__law_deed_21
    have gt : gTuple [.lst (rows.map Row.pv)] = some (.tup (rows.map Row.pv)) := rfl
    simp! [gt]
    exact hR rows m (by omega) (by omega) (by omega) (by omega) hrows
theorem doks_deeds {ws ts bs : List Str} {gs : List (Str × Str)} {ds : List Deed} (hw : ∀ x ∈ ws, isWord x = true) (ht : ∀ x ∈ ts, isWord x = true) (hb : ∀ x ∈ bs, isWord x = true) (hg : De.gsWords gs) (hd : ∀ d ∈ ds, isWord d.1 = true ∧ ∃ n, ∀ row ∈ d.2, row.okD ws ts bs gs n) : doks (ds.map deedPV) = true ∧ dpts (ds.map deedPV) ≤ 10 :=
  doks_map (f := deedPV) (n := 10) ds fun d hdd => by
    obtain ⟨h1, n, h2⟩ := hd d hdd
    obtain ⟨h3, h4⟩ := De.dok_tupE (f := Row.pv) (n := 7) d.2 fun row hrow => De.dok_rowE hw ht hb hg row (h2 row hrow)
    refine ⟨by simp only [deedPV, progPV, dok, doks, Bool.and_eq_true] at h3 ⊢; exact ⟨isWord_strOk h1, h3, trivial⟩, ?_⟩
    simp only [deedPV, progPV, dpt, dpts] at h4 ⊢; omega
structure RmF (name : Str) (gs : List (Str × Str)) (rm : Rm) : Prop where
  nm : rm.name = name
  ok : RoomOk gs rm
  b2 : rm.bells.length ≤ 2
  t2 : rm.things.length ≤ 2
  d3 : rm.deeds.length ≤ 3
  w6 : ∀ x ∈ rm.ts ++ rm.bs ++ rm.deeds.map (·.1), isW6 x
  ts : rm.ts.Pairwise leS
  bs : rm.bs.Pairwise leS
  ds : (rm.deeds.map (·.1)).Pairwise leS
def spRmF : FSpec := fun args et R => ∃ (r : Nat) (name : Str) (ls : List Lat) (e : Hi) (n : Nat), args = [.ref r, .str name, .lst (ls.map latPV)] ∧ et = pf e r n ∧ r < e.length ∧ n + 2000 < 1000000 ∧ isWord name = true ∧ LatOk ls ∧ ls.length < 50 ∧
  ∀ (rm : Rm) (m : Nat), n ≤ m → m ≤ n + 1000 → RmF name (latGo ls) rm → R rm.pv (pf e r m)
theorem nm_draw {xs : List PV} {d : Int} (ks : List Nat) (h : xs = ks.map fun (k : Nat) => PV.int k) (d0 : 0 ≤ d) (d1 : d < ks.length) : ∃ k ∈ ks, atI xs d = some (.int (k : Nat)) := by
  obtain ⟨x, hx, e⟩ := atI_some (xs := xs) d0 (by rw [h, List.length_map]; exact d1)
  rw [h] at hx
  obtain ⟨k, hk, rfl⟩ := List.mem_map.mp hx
  exact ⟨k, hk, e⟩
theorem latGo_app (a b : List Lat) : latGo (a ++ b) = latGo a ++ latGo b := List.flatMap_append
theorem room_ok (args : List PV) (et : Hi) (R : PV → Hi → Prop) (h : spRmF args et R) : r__law_room spTkF spNmF spDdF (env0 N__law_room args) et (retK R) := by
  obtain ⟨r, name, ls, e, n, rfl, rfl, hr, hn, hnm, hls, hll, hR⟩ := h
  show r__law_room _ _ _ [.val (.ref r), .val (.str name), .val (.lst (ls.map latPV)), .no, .no, .no, .no, .no, .no, .no, .no, .no] (pf e r n) (retK R)
  have big : (2000 : Nat) ≤ sizeLine := by decide
  have hgl : De.gsWords (latGo ls) := fun g hg => by
    obtain ⟨l, hl, hg⟩ := List.mem_flatMap.mp hg
    obtain ⟨d, hd, rfl⟩ := List.mem_map.mp hg
    exact ⟨(hls.w l hl).1, (hls.w l hl).2.2.2 d hd⟩
  unfold r__law_room
  simp!
  refine ⟨by decide, ?_⟩
  refine tk hr (by omega) (by decide) (by decide) fun d d0 d1 => ?_
  obtain ⟨f, ef⟩ : ∃ f : Bool, atI [PV.str "at once", .str "when free"] d = some (.str (mnS f)) := by
    rcases (by omega : d = 0 ∨ d = 1) with rfl | rfl
    · exact ⟨false, rfl⟩
    · exact ⟨true, rfl⟩
  refine ⟨_, ef, ?_⟩
  unfold r__law_room_0
  simp!
  refine ⟨by decide, ?_⟩
  refine tk hr (by omega) (by decide) (by decide) fun dt t0 t1 => ?_
  obtain ⟨kt, hkt, et_⟩ := nm_draw (xs := [PV.int 1, .int 1, .int 2, .int 0]) [1, 1, 2, 0] rfl t0 (by simpa using t1)
  have hkt2 : kt ≤ 2 := by simp at hkt; omega
  refine ⟨_, et_, ?_⟩
  refine ⟨r, kt, e, _, rfl, rfl, hr, by omega, by omega, fun ts hts => ?_⟩
  have htl : ts.length ≤ 2 := by rw [hts.len]; omega
  unfold r__law_room_1
  simp!
  refine ⟨by decide, ?_⟩
  refine tk hr (by omega) (by decide) (by decide) fun db b0 b1 => ?_
  obtain ⟨kb, hkb, eb⟩ := nm_draw (xs := [PV.int 1, .int 1, .int 2, .int 0]) [1, 1, 2, 0] rfl b0 (by simpa using b1)
  have hkb2 : kb ≤ 2 := by simp at hkb; omega
  refine ⟨_, eb, ?_⟩
  refine ⟨r, kb, e, _, rfl, rfl, hr, by omega, by omega, fun bs hbs => ?_⟩
  have hbl : bs.length ≤ 2 := by rw [hbs.len]; omega
  unfold r__law_room_2
  simp!
  refine ⟨Nat.zero_le _, ?_⟩
  unfold r__law_room_3
  simp!
  refine ⟨by decide, ?_⟩
  refine tk hr (by omega) (by decide) (by decide) fun dd e0 e1 => ?_
  obtain ⟨kd, hkd, ed⟩ := nm_draw (xs := [PV.int 1, .int 2, .int 2, .int 3]) [1, 2, 2, 3] rfl e0 (by simpa using e1)
  have hkd3 : 1 ≤ kd ∧ kd ≤ 3 := by simp at hkd; omega
  refine ⟨_, ed, ?_⟩
  refine ⟨r, kd, e, _, rfl, rfl, hr, by omega, by omega, fun dw hdw => ?_⟩
  have hdl := hdw.len
  refine ⟨_, rfl, fun t ep et1 => t ≤ kd ∧ ∃ (ds : List Deed) (m : Nat) (s7 s8 s9 : Mw.Slot), et1 = pf e r m ∧ n ≤ m ∧ m ≤ n + 20 + 210 * t ∧ ep = [.val (.ref r), .val (.str name), .val (.lst (ls.map latPV)), .val (.str (mnS f)), .val (.lst (ts.map .str)), .val (.lst (bs.map .str)), .own (.lst (ds.map deedPV)), s7, s8, s9, .no, .no] ∧
    ds.map (·.1) = dw.take t ∧ ∀ d ∈ ds, 1 ≤ d.2.length ∧ d.2.length ≤ 30 ∧ ∀ row ∈ d.2, row.okD (ts ++ [("given" : Str)]) ts bs (latGo ls ++ ds.map fun d => (name, d.1)) d.2.length,
    ⟨Nat.zero_le _, [], _, _, _, _, rfl, by omega, by omega, rfl, rfl, by simp⟩, ?_⟩
  rintro t ep et1 ⟨htk, ds, m, s7, s8, s9, rfl, hm0, hm, rfl, hnmd, hds⟩
  have hdsl : ds.length ≤ 3 := by
    have h1 : (ds.map (·.1)).length = ds.length := List.length_map _
    rw [hnmd, List.length_take, hdl] at h1
    omega
  have hdww : ∀ d ∈ ds, isWord d.1 = true := fun d hd => hdw.w d.1 (List.mem_of_mem_take (by rw [← hnmd]; exact List.mem_map.mpr ⟨d, hd, rfl⟩))
  have hgl2 : De.gsWords (latGo ls ++ ds.map fun d => (name, d.1)) := fun g hg => by
    rcases List.mem_append.mp hg with hg | hg
    · exact hgl g hg
    · obtain ⟨d, hd, rfl⟩ := List.mem_map.mp hg
      exact ⟨hnm, hdww d hd⟩
  have hw : ∀ x ∈ ts ++ [("given" : Str)], isWord x = true := fun x hx => by
    rcases List.mem_append.mp hx with hx | hx
    · exact hts.w x hx
    · rw [List.mem_singleton.mp hx]; decide +kernel
  refine ⟨rfl, fun p hp => ?_, fun e2 => ?_⟩
  · rw [List.getElem?_map] at hp
    obtain ⟨x, hx, rfl⟩ : ∃ x, dw[t]? = some x ∧ p = .str x := by
      cases e : dw[t]? with
      | none => rw [e] at hp; cases hp
      | some c => rw [e] at hp; cases hp; exact ⟨c, rfl, rfl⟩
    have hlt := (List.getElem?_eq_some_iff.mp hx).1
    refine ⟨_, rfl, ?_⟩
    have hne : gNe (.lst (ds.map deedPV)) (.lst []) = some (.bl (!ds.isEmpty)) := by
      obtain ⟨h1, h2⟩ := doks_deeds (ds := ds) hw hts.w hbs.w hgl2 fun d hd => ⟨hdww d hd, _, (hds d hd).2.2⟩
      rw [gNe_nil h1 (by omega)]
      cases ds <;> rfl
    have g2 : ∀ b : Bool, gInt [.bl b] = some (.int (if b = true then 1 else 0)) := fun _ => rfl
    unfold r__law_room_4
    simp! [mLcO, hne, g2]
    refine lc_map deedPV (fun d => .str d.1) rfl (by omega) (fun d hd => ⟨_, rfl, fun Q hQ => ?_⟩) ?_
    · simp! [deedPV]
      exact hQ
    refine ⟨by decide, by decide, by decide, ?_⟩
    have em : (ds.map fun d => PV.str d.1) = (ds.map (·.1)).map .str := by rw [List.map_map]; rfl
    rw [em]
    -- the rooms gone on to, with this one behind
    have own : ∃ ls' : List Lat, LatOk (ls ++ ls') ∧ latGo ls' = (ds.map fun d => (name, d.1)) ∧ ls'.length ≤ 1 ∧ gRep (.lst [.tup [.str name, .lst ((ds.map (·.1)).map .str)]]) (.int (if (!ds.isEmpty) = true then 1 else 0)) = some (.lst (ls'.map latPV)) := by
      cases hde : ds with
      | nil => exact ⟨[], by rw [List.append_nil]; exact hls, rfl, by decide, rfl⟩
      | cons d0 ds0 =>
        rw [← hde]
        refine ⟨[(name, ds.map (·.1))], ⟨fun l hl => ?_, by rw [List.length_append, List.length_singleton]; omega⟩, ?_, by simp, ?_⟩
        · rcases List.mem_append.mp hl with hl | hl
          · exact hls.w l hl
          · rw [List.mem_singleton.mp hl]
            refine ⟨hnm, by rw [hde]; simp, by rw [List.length_map]; omega, fun x hx => ?_⟩
            obtain ⟨d, hd, rfl⟩ := List.mem_map.mp hx
            exact hdww d hd
        · unfold latGo; simp
        · rw [if_pos (by rw [hde]; rfl)]; rfl
    obtain ⟨ls', hl1, hl2, hl3, hl4⟩ := own
    refine ⟨_, hl4, ?_⟩
    unfold r__law_room_5
    have ec : gAdd (.lst (ls.map latPV)) (.lst (ls'.map latPV)) = some (.lst ((ls ++ ls').map latPV)) := by
      show (if (ls.map latPV).length + (ls'.map latPV).length ≤ sizeLine then some (PV.lst (ls.map latPV ++ ls'.map latPV)) else none) = _
      rw [if_pos (by rw [List.length_map, List.length_map]; omega), List.map_append]
    simp! [ec]
    refine ⟨by decide, ?_⟩
    refine ⟨_, ec, r, 3, f, ts, bs, ls ++ ls', e, m, rfl, rfl, hr, by omega, by decide, by decide, hts.w, hbs.w, by omega, by omega, hl1, fun rows m' h1 h2 h3 h4 h5 => ⟨by decide, ?_⟩⟩
    have app : ∀ (d' : PV → PV), gmAppend d' (.lst (ds.map deedPV)) [.tup [.str x, .tup (rows.map Row.pv)]] = some (.lst ((ds ++ [(x, rows)]).map deedPV), .non) := fun d' => by
      show (if (ds.map deedPV).length < sizeLine then some (PV.lst (ds.map deedPV ++ [deedPV (x, rows)]), PV.non) else none) = _
      rw [if_pos (by rw [List.length_map]; omega), List.map_append]; rfl
    refine ⟨_, _, app _, by omega, ds ++ [(x, rows)], m', _, _, _, rfl, by omega, by omega, rfl, by rw [List.map_append, hnmd, List.take_succ, hx]; rfl, fun d hd => ?_⟩
    have gsub : ∀ g ∈ latGo ls ++ ds.map (fun d => (name, d.1)), g ∈ latGo ls ++ (ds ++ [(x, rows)]).map fun d => (name, d.1) := fun g hg => by
      rw [List.map_append, ← List.append_assoc]; exact List.mem_append_left _ hg
    rcases List.mem_append.mp hd with hd | hd
    · obtain ⟨a1, a2, a3⟩ := hds d hd
      exact ⟨a1, a2, fun row hrow => Row.okD_goals gsub row (a3 row hrow)⟩
    · rw [List.mem_singleton.mp hd]
      refine ⟨h3, h4, fun row hrow => Row.okD_goals gsub row ?_⟩
      have := h5 row hrow
      rw [latGo_app, hl2] at this
      exact this
  · have e3 : t = kd := by rw [e2, List.length_map, hdl]
    subst e3
    have hnm2 : ds.map (·.1) = dw := by rw [hnmd, List.take_of_length_le (by omega)]
    unfold r__law_room_6
    simp! [itemsP]
    refine lc_pf (n := m) (C := 1) PV.str pairPV (·.1) (fun p => 0 ≤ p.2 ∧ p.2 ≤ 9) (fun _ => rfl) (by omega) (fun b hb' m1 hm1 hm2 => ⟨_, rfl, fun Q hQ => ?_⟩) fun things m1 hm10 hm1 hkt hvt => ?_
    · simp!
      refine tk hr (by omega) (by decide) (by decide) fun d2 e0 e1 => ?_
      exact ⟨by decide, hQ (b, d2) _ (Nat.le_refl _) (by omega) rfl ⟨e0, by omega⟩⟩
    have gt : ∀ l, gTuple [.lst l] = some (.tup l) := fun _ => rfl
    simp! [gt, itemsP]
    refine lc_pf (n := m1) (C := 1) PV.str bellPV (·.1) (fun _ => True) (fun _ => rfl) (by omega) (fun b hb' m2 hm2 hm3 => ⟨_, rfl, fun Q hQ => ?_⟩) fun bells m2 hm20 hm2 hkb _ => ?_
    · simp!
      refine ⟨by decide, tk hr (by omega) (by decide) (by decide) fun d2 e0 e1 => ?_⟩
      have et2 : atI [PV.str "row", PV.str "turns"] d2 = some (.str (sortS (decide (d2 = 1)))) := by
        rcases (show d2 = 0 ∨ d2 = 1 by omega) with rfl | rfl <;> rfl
      exact ⟨_, et2, by decide, hQ (b, _) _ (Nat.le_refl _) (by omega) rfl trivial⟩
    simp! [gt]
    have e2 : bells.map (·.1) = bs := hkb
    have e4 : things.map (·.1) = ts := hkt
    have l2 : bells.length = bs.length := by rw [← e2, List.length_map]
    have l4 : things.length = ts.length := by rw [← e4, List.length_map]
    refine ⟨by decide, hR ⟨name, f, things, bells, ds⟩ m2 (by omega) (by omega) ⟨rfl, ?_, by show bells.length ≤ 2; omega, by show things.length ≤ 2; omega, hdsl, fun x hx => ?_, ?_, ?_, ?_⟩⟩
    · refine ⟨hnm, ?_, ?_, hvt, ?_, ?_, hdww, ?_, ?_, by show things.length ≤ 6; omega, by show bells.length ≤ 6; omega, by show ds.length ≤ 6; omega, fun d hd => ?_⟩
      · show ∀ x ∈ things.map (·.1), _; rw [e4]; exact hts.w
      · show (things.map (·.1)).Nodup; rw [e4]; exact hts.nd
      · show ∀ x ∈ bells.map (·.1), _; rw [e2]; exact hbs.w
      · show (bells.map (·.1)).Nodup; rw [e2]; exact hbs.nd
      · show (ds.map (·.1)).Nodup; rw [hnm2]; exact hdw.nd
      · intro z
        have z' : ds = [] := z
        rw [z'] at hnm2
        rw [← hnm2] at hdl
        simp at hdl; omega
      · obtain ⟨a1, a2, a3⟩ := hds d hd
        refine ⟨a1, a2, fun row hrow => ?_⟩
        show row.okD (things.map (·.1) ++ [("given" : Str)]) (things.map (·.1)) (bells.map (·.1)) (latGo ls ++ ds.map fun d => (name, d.1)) _
        rw [e2, e4]
        exact a3 row hrow
    · have hx : x ∈ things.map (·.1) ++ bells.map (·.1) ++ ds.map (·.1) := hx
      rw [e2, e4, hnm2] at hx
      rcases List.mem_append.mp hx with hx | hx
      · rcases List.mem_append.mp hx with hx | hx
        · exact hts.w6 x hx
        · exact hbs.w6 x hx
      · exact hdw.w6 x hx
    · show (things.map (·.1)).Pairwise leS; rw [e4]; exact hts.srt
    · show (bells.map (·.1)).Pairwise leS; rw [e2]; exact hbs.srt
    · show (ds.map (·.1)).Pairwise leS; rw [hnm2]; exact hdw.srt
structure RmsF (rs : List Rm) : Prop where
  ok : RoomsOk rs
  l3 : rs.length ≤ 3
  l1 : 1 ≤ rs.length
  w6 : ∀ rm ∈ rs, isW6 rm.name
  each : ∀ rm ∈ rs, ∃ gs, RmF rm.name gs rm
def spRmsF : FSpec := fun args et R => ∃ (r most : Nat) (e : Hi) (n : Nat), args = [.ref r, .int most] ∧ et = pf e r n ∧ r < e.length ∧ n + 6000 < 1000000 ∧ 1 ≤ most ∧ most ≤ 3 ∧
  ∀ (rs : List Rm) (m : Nat), n ≤ m → m ≤ n + 4000 → RmsF rs → R (.tup (rs.map Rm.pv)) (pf e r m)
def latOf (rm : Rm) : Lat := (rm.name, rm.deeds.map (·.1))
theorem latGo_of (rs : List Rm) : latGo (rs.map latOf) = goalsOf rs := by
  induction rs with
  | nil => rfl
  | cons a l ih =>
    unfold latGo goalsOf at *
    rw [List.map_cons, List.flatMap_cons, List.flatMap_cons, ih]
    congr 1
    show (a.deeds.map (·.1)).map _ = _
    rw [List.map_map]; rfl
theorem rooms_ok (args : List PV) (et : Hi) (R : PV → Hi → Prop) (h : spRmsF args et R) : r__law_rooms spNmF spTkF spRmF (env0 N__law_rooms args) et (retK R) := by
  obtain ⟨r, most, e, n, rfl, rfl, hr, hn, hm1, hm3, hR⟩ := h
  show r__law_rooms _ _ _ [.val (.ref r), .val (.int most), .no, .no, .no, .no, .no] (pf e r n) (retK R)
  have big : (2000 : Nat) ≤ sizeLine := by decide
  unfold r__law_rooms
  simp!
  refine ⟨Nat.zero_le _, ?_⟩
  unfold r__law_rooms_0
  simp!
  refine tk hr (by omega) (by omega) (by omega) fun d d0 d1 => ?_
  obtain ⟨k, ek, k0, k1⟩ : ∃ k : Nat, 1 + d = (k : Int) ∧ 1 ≤ k ∧ k ≤ 3 := ⟨(1 + d).toNat, by omega, by omega, by omega⟩
  simp! [ek]
  refine ⟨r, k, e, _, rfl, rfl, hr, by omega, by omega, fun ws hws => ?_⟩
  refine ⟨_, rfl, fun t ep et1 => t ≤ k ∧ ∃ (rs : List Rm) (m : Nat) (s3 s4 s5 s6 : Mw.Slot), et1 = pf e r m ∧ n ≤ m ∧ m ≤ n + 3 + 1000 * t ∧ ep = [.val (.ref r), .val (.int most), .own (.lst (rs.map Rm.pv)), s3, s4, s5, s6] ∧
    rs.map (·.name) = ws.take t ∧ (∀ rm ∈ rs, RoomOk (goalsOf rs) rm) ∧ ∀ rm ∈ rs, ∃ gs, RmF rm.name gs rm, ⟨Nat.zero_le _, [], _, _, _, _, _, rfl, by omega, by omega, rfl, rfl, by simp, by simp⟩, ?_⟩
  rintro t ep et1 ⟨htk, rs, m, s3, s4, s5, s6, rfl, hm0, hm, rfl, hnm, hok, heach⟩
  have hrl : rs.length ≤ 3 := by
    have h1 : (rs.map (·.name)).length = rs.length := List.length_map _
    rw [hnm, List.length_take, hws.len] at h1
    omega
  refine ⟨rfl, fun p hp => ?_, fun e2 => ?_⟩
  · rw [List.getElem?_map] at hp
    obtain ⟨x, hx, rfl⟩ : ∃ x, ws[t]? = some x ∧ p = .str x := by
      cases e : ws[t]? with
      | none => rw [e] at hp; cases hp
      | some c => rw [e] at hp; cases hp; exact ⟨c, rfl, rfl⟩
    have hlt := (List.getElem?_eq_some_iff.mp hx).1
    rw [hws.len] at hlt
    refine ⟨_, rfl, ?_⟩
    unfold r__law_rooms_1
    simp! [mLcO]
    refine lc_map Rm.pv (fun rm => latPV (latOf rm)) rfl (by omega) (fun rm hrm => ⟨_, rfl, fun Q hQ => ?_⟩) ?_
    · simp! [Rm.pv, itemsP]
      refine lc_map deedPV (fun d => .str d.1) rfl (by have := (hok rm hrm).dl; omega) (fun d hd => ⟨_, rfl, fun Q hQ => ?_⟩) ?_
      · simp! [deedPV]
        exact hQ
      have em : (rm.deeds.map fun d => PV.str d.1) = (rm.deeds.map (·.1)).map .str := by rw [List.map_map]; rfl
      rw [em]
      exact ⟨by decide, hQ⟩
    have em : (rs.map fun rm => latPV (latOf rm)) = (rs.map latOf).map latPV := by rw [List.map_map]; rfl
    rw [em]
    unfold r__law_rooms_2
    simp!
    refine ⟨r, x, rs.map latOf, e, m, rfl, rfl, hr, by omega, hws.w x (List.mem_of_getElem? hx), ⟨fun l hl => ?_, by rw [List.length_map]; omega⟩, by rw [List.length_map]; omega, fun rm m' h1 h2 h3 => ?_⟩
    · obtain ⟨rm, hrm, rfl⟩ := List.mem_map.mp hl
      have o := hok rm hrm
      refine ⟨o.nm, fun z => o.d0 (List.map_eq_nil_iff.mp z), by show (rm.deeds.map (·.1)).length < 100; rw [List.length_map]; have := o.dl; omega, fun x hx => ?_⟩
      obtain ⟨d, hd, rfl⟩ := List.mem_map.mp hx
      exact o.dw d hd
    rw [latGo_of] at h3
    have app : ∀ d', gmAppend d' (.lst (rs.map Rm.pv)) [rm.pv] = some (.lst ((rs ++ [rm]).map Rm.pv), .non) := fun d' => by
      show (if (rs.map Rm.pv).length < sizeLine then some (PV.lst (rs.map Rm.pv ++ [rm.pv]), PV.non) else none) = _
      rw [if_pos (by rw [List.length_map]; omega), List.map_append]; rfl
    have gsub : ∀ g ∈ goalsOf rs, g ∈ goalsOf (rs ++ [rm]) := fun g hg => by unfold goalsOf at *; rw [List.flatMap_append]; exact List.mem_append_left _ hg
    refine ⟨_, _, app _, by omega, rs ++ [rm], m', _, _, _, _, rfl, by omega, by omega, rfl, by rw [List.map_append, hnm, List.take_succ, hx, List.map_singleton, h3.nm]; rfl, fun q hq => ?_, fun q hq => ?_⟩
    · rcases List.mem_append.mp hq with hq | hq
      · exact (hok q hq).mono gsub
      · rw [List.mem_singleton.mp hq]; exact h3.ok.mono gsub
    · rcases List.mem_append.mp hq with hq | hq
      · exact heach q hq
      · rw [List.mem_singleton.mp hq]; exact ⟨_, by rw [h3.nm]; exact h3⟩
  · have e3 : t = k := by rw [e2, List.length_map, hws.len]
    subst e3
    have hnm2 : rs.map (·.name) = ws := by rw [hnm, List.take_of_length_le (by rw [hws.len]; exact Nat.le_refl _)]
    have hnd : (rs.map (·.name)).Nodup := by rw [hnm2]; exact hws.nd
    unfold r__law_rooms_3
    simp!
    refine ⟨rs.map Rm.pv, rs.map (·.name), rfl, by rw [List.map_map, List.map_map]; rfl, hnd, fun qs ks' pq hk hs => ?_⟩
    obtain ⟨rs', p1, rfl⟩ := perm_of_map pq
    have gt : ∀ l, gTuple [.lst l] = some (.tup l) := fun _ => rfl
    simp! [gt]
    have hkk : ks' = rs'.map (·.name) := by
      have : (rs'.map Rm.pv).map keyT = (rs'.map (·.name)).map some := by rw [List.map_map, List.map_map]; rfl
      rw [this] at hk
      exact (List.map_inj_right (fun x y h => by simpa using h)).mp hk.symm
    have gm : ∀ g ∈ goalsOf rs, g ∈ goalsOf rs' := fun g hg => by
      obtain ⟨rm, h1, h2⟩ := List.mem_flatMap.mp hg
      exact List.mem_flatMap.mpr ⟨rm, p1.mem_iff.mpr h1, h2⟩
    have hlen : rs'.length = t := by
      have h1 : (rs.map (·.name)).length = rs.length := List.length_map _
      rw [p1.length_eq, ← h1, hnm2, hws.len]
    refine hR rs' m (by omega) (by omega) ⟨⟨by rw [← hkk]; exact hs, (p1.map _).nodup_iff.mpr hnd, fun rm hrm => (hok rm (p1.mem_iff.mp hrm)).mono gm⟩, by omega, by omega, fun rm hrm => ?_, fun rm hrm => heach rm (p1.mem_iff.mp hrm)⟩
    exact hws.w6 _ (by rw [← hnm2]; exact List.mem_map.mpr ⟨rm, p1.mem_iff.mp hrm, rfl⟩)
def spPgF : FSpec := fun args et R => ∃ (r most : Nat) (rs : List Rm) (ws ps : List Str) (e : Hi) (n : Nat), args = [.ref r, .tup (rs.map Rm.pv), .lst (ws.map .str), .lst (ps.map .str), .int most] ∧ et = pf e r n ∧ r < e.length ∧ n + 400 < 1000000 ∧ 1 ≤ most ∧ most ≤ 3 ∧ RoomsOk rs ∧ rs.length ≤ 10 ∧
  (∀ x ∈ ws, isWord x = true) ∧ (∀ x ∈ ps, isWord x = true) ∧ ws.length < 100 ∧ ps.length < 100 ∧
  ∀ (rows : List Row) (m : Nat), n ≤ m → m ≤ n + 200 → 1 ≤ rows.length → rows.length ≤ 30 → (∀ row ∈ rows, row.okH ws ps (goalsOf rs) rows.length) → R (progPV rows) (pf e r m)
abbrev epP (r most : Nat) (rs : List Rm) (ws ps : List Str) (L : PV) (s6 s7 s8 s9 s10 s11 s12 : Mw.Slot) : En :=
  [.val (.ref r), .val (.tup (rs.map Rm.pv)), .val (.lst (ws.map .str)), .val (.lst (ps.map .str)), .val (.int most), .own L, s6, s7, s8, s9, s10, s11, s12]
def GotP (r most : Nat) (rs : List Rm) (ws ps : List Str) (rows : List Row) (e : Hi) (m : Nat) (K0 : Mw.Fl → En → Hi → Prop) : Prop :=
  ∀ (new : List Row) (m' : Nat) (s6 s7 s8 s9 s10 s11 s12 : Mw.Slot), m ≤ m' → m' ≤ m + 50 → 1 ≤ new.length → new.length ≤ 3 → (∀ row ∈ new, row.okH ws ps (goalsOf rs) (rows.length + new.length)) → K0 .nx (epP r most rs ws ps (.lst ((rows ++ new).map Row.pv)) s6 s7 s8 s9 s10 s11 s12) (pf e r m')
theorem gNe_rooms {rs : List Rm} (h : RoomsOk rs) : gNe (.tup (rs.map Rm.pv)) (.tup []) = some (.bl (!rs.isEmpty)) := by
  have hg : De.gsWords (goalsOf rs) := okG_of h.ok
  obtain ⟨h1, h2⟩ := doks_map (f := Rm.pv) (n := 12) rs fun q hq => De.dok_rmE hg (h.ok q hq)
  rw [De.gNe_tup0 h1 (by omega)]
  cases rs <;> rfl
theorem prog_it {r most : Nat} {rs : List Rm} {ws ps : List Str} {rows : List Row} {e : Hi} {m : Nat} {K0 : Mw.Fl → En → Hi → Prop} {s6 s7 s8 s9 s10 s11 s12 : Mw.Slot} (hr : r < e.length) (hn : m + 100 < 1000000) (hrl : rows.length ≤ 100)
    (hrs : RoomsOk rs) (hrsl : rs.length ≤ 10) (hw : ∀ x ∈ ws, isWord x = true) (hp : ∀ x ∈ ps, isWord x = true) (hwl : ws.length < 100) (hpl : ps.length < 100) (hK : GotP r most rs ws ps rows e m K0) :
    r__law_program_1 spTkF spPkF (spSumF 3) (epP r most rs ws ps (.lst (rows.map Row.pv)) s6 s7 s8 s9 s10 s11 s12) (pf e r m) K0 := by
  have big : (2000 : Nat) ≤ sizeLine := by decide
  have c1 : cS 1 = 12 := rfl
  have c2 : cS 2 = 26 := rfl
  have app := fun (d : PV → PV) (row : Row) => rows_app d rows row (by omega)
  have glen := rows_len rows
  have one : ∀ (row : Row) (m' : Nat) (s6 s7 s8 s9 s10 s11 s12 : Mw.Slot), row.okH ws ps (goalsOf rs) (rows.length + 1) → m ≤ m' → m' ≤ m + 50 → K0 .nx (epP r most rs ws ps (.lst ((rows ++ [row]).map Row.pv)) s6 s7 s8 s9 s10 s11 s12) (pf e r m') := fun row m' s6 s7 s8 s9 s10 s11 s12 h h1 h2 =>
    hK [row] m' _ _ _ _ _ _ _ h1 h2 (by simp) (by simp) fun r' hr' => by rw [List.mem_singleton.mp hr']; exact h
  have two : ∀ (row row2 : Row) (m' : Nat) (s6 s7 s8 s9 s10 s11 s12 : Mw.Slot), row.okH ws ps (goalsOf rs) (rows.length + 2) → row2.okH ws ps (goalsOf rs) (rows.length + 2) → m ≤ m' → m' ≤ m + 50 → K0 .nx (epP r most rs ws ps (.lst (((rows ++ [row]) ++ [row2]).map Row.pv)) s6 s7 s8 s9 s10 s11 s12) (pf e r m') := fun row row2 m' s6 s7 s8 s9 s10 s11 s12 h h' h1 h2 => by
    have eh : (rows ++ [row]) ++ [row2] = rows ++ [row, row2] := by simp
    rw [eh]
    refine hK [row, row2] m' _ _ _ _ _ _ _ h1 h2 (by simp) (by simp) fun r' hr' => ?_
    simp only [List.mem_cons, List.not_mem_nil, or_false] at hr'
    rcases hr' with rfl | rfl
    · exact h
    · exact h'
  unfold r__law_program_1
  simp!
  refine tk hr (by omega) (by decide) (by decide) fun d d0 d1 => ?_
  have P11 : r__law_program_11 (spSumF 3) (epP r most rs ws ps (.lst (rows.map Row.pv)) s6 (.val (.int d)) s8 s9 s10 s11 s12) (pf e r (m + 1)) K0 := by
    have say : ∀ (x : List Row) (m2 : Nat) (t6 t7 t8 t9 t10 t11 t12 : Mw.Slot), m + 1 ≤ m2 → m2 ≤ m + 30 → (x = [] ∨ ∃ row, x = [row] ∧ row.okH ws ps (goalsOf rs) (rows.length + 2)) → r__law_program_15 (spSumF 3) (epP r most rs ws ps (.lst ((rows ++ x).map Row.pv)) t6 t7 t8 t9 t10 t11 t12) (pf e r m2) K0 := fun x m2 t6 t7 t8 t9 t10 t11 t12 h1 h2 h3 => by
      unfold r__law_program_15
      simp!
      refine ⟨Nat.zero_le _, ?_⟩
      refine sumi (deep := 1) (bs := []) hr (by omega) (by decide) hw (by simp) (by omega) (by simp) fun s m3 hm30 hm3 hs ho => ⟨by decide, ?_⟩
      rcases h3 with rfl | ⟨row, rfl, hrow⟩
      · rw [List.append_nil]
        exact ⟨_, _, app _ (.say s), one (.say s) m3 _ _ _ _ _ _ _ ⟨ho, by omega⟩ (by omega) (by omega)⟩
      · exact ⟨_, _, rows_app _ (rows ++ [row]) (.say s) (by simp; omega), two row (.say s) m3 _ _ _ _ _ _ _ hrow ⟨ho, by omega⟩ (by omega) (by omega)⟩
    have P13 : ∀ (x : List Row) (m2 : Nat), m + 1 ≤ m2 → m2 ≤ m + 30 → (x = [] ∨ d ≠ 10 ∧ ∃ row, x = [row] ∧ row.okH ws ps (goalsOf rs) (rows.length + 2)) → r__law_program_13 (spSumF 3) (epP r most rs ws ps (.lst ((rows ++ x).map Row.pv)) s6 (.val (.int d)) s8 s9 s10 s11 s12) (pf e r m2) K0 := fun x m2 h1 h2 h3 => by
      unfold r__law_program_13
      simp!
      by_cases h10 : d = 10
      · rw [if_pos (decide_eq_true h10)]
        rcases h3 with rfl | ⟨h, _⟩
        · rw [List.append_nil]
          unfold r__law_program_14
          simp! [glen]
          refine ⟨by decide, _, _, app _ (.go (rows.length + 2)), ?_⟩
          exact say [.go (rows.length + 2)] m2 _ _ _ _ _ _ _ h1 h2 (.inr ⟨_, rfl, Nat.le_refl _⟩)
        · exact absurd h10 h
      · rw [if_neg (by rw [decide_eq_false h10]; decide)]
        exact say x m2 _ _ _ _ _ _ _ h1 h2 (h3.imp id (·.2))
    unfold r__law_program_11
    simp!
    by_cases h9 : d = 9
    · rw [if_pos (decide_eq_true h9)]
      unfold r__law_program_12
      simp! [glen]
      refine ⟨Nat.zero_le _, ?_⟩
      refine sumi (deep := 2) (bs := []) hr (by omega) (by decide) hw (by simp) (by omega) (by simp) fun s m2 hm20 hm2 hs ho => ⟨by decide, _, _, app _ (.unl s (rows.length + 2)), ?_⟩
      exact P13 [.unl s (rows.length + 2)] m2 (by omega) (by omega) (.inr ⟨by omega, _, rfl, ⟨ho, by omega⟩, Nat.le_refl _⟩)
    · rw [if_neg (by rw [decide_eq_false h9]; decide)]
      have := P13 [] (m + 1) (by omega) (by omega) (.inl rfl)
      rw [List.append_nil] at this
      exact this
  have P7 : r__law_program_7 spTkF spPkF (spSumF 3) (epP r most rs ws ps (.lst (rows.map Row.pv)) s6 (.val (.int d)) s8 s9 s10 s11 s12) (pf e r (m + 1)) K0 := by
    have P9 : r__law_program_9 spPkF (spSumF 3) (epP r most rs ws ps (.lst (rows.map Row.pv)) s6 (.val (.int d)) s8 s9 s10 s11 s12) (pf e r (m + 1)) K0 := by
      unfold r__law_program_9
      simp! [gNe_words hw]
      by_cases h8 : d = 8
      · rw [if_pos (decide_eq_true h8)]
        refine ⟨by decide, ?_⟩
        by_cases hwe : ws = []
        · rw [if_neg (by rw [hwe]; simp)]
          exact P11
        · rw [if_pos (by cases ws with | nil => exact absurd rfl hwe | cons a l => rfl)]
          unfold r__law_program_10
          simp!
          refine pickS hr (by omega) hwe (by omega) fun x hx => ⟨Nat.zero_le _, ?_⟩
          refine sumi (deep := 2) (bs := []) hr (by omega) (by decide) hw (by simp) (by omega) (by simp) fun s m2 hm20 hm2 hs ho => ⟨by decide, _, _, app _ (.put x s), ?_⟩
          exact one (.put x s) m2 _ _ _ _ _ _ _ ⟨hx, ho, by omega⟩ (by omega) (by omega)
      · rw [if_neg (by rw [decide_eq_false h8]; decide)]
        exact P11
    unfold r__law_program_7
    simp! [gNe_words hp]
    by_cases h8 : d < 8
    · rw [if_pos (decide_eq_true h8)]
      refine ⟨by decide, ?_⟩
      by_cases hpe : ps = []
      · rw [if_neg (by rw [hpe]; simp)]
        exact P9
      · rw [if_pos (by cases ps with | nil => exact absurd rfl hpe | cons a l => rfl)]
        unfold r__law_program_8
        simp!
        refine ⟨by decide, ?_⟩
        refine tk hr (by omega) (by decide) (by decide) fun d2 e0 e1 => ?_
        rcases (by omega : d2 = 0 ∨ d2 = 1) with rfl | rfl
        · refine ⟨_, rfl, pickS hr (by omega) hpe (by omega) fun p hpm => ⟨by decide, _, _, app _ (.take p), ?_⟩⟩
          exact one (.take p) _ _ _ _ _ _ _ _ hpm (by omega) (by omega)
        · refine ⟨_, rfl, pickS hr (by omega) hpe (by omega) fun p hpm => ⟨by decide, _, _, app _ (.give p), ?_⟩⟩
          exact one (.give p) _ _ _ _ _ _ _ _ hpm (by omega) (by omega)
    · rw [if_neg (by rw [decide_eq_false h8]; decide)]
      exact P9
  unfold r__law_program_2
  simp! [gNe_rooms hrs]
  by_cases h6 : d < 6
  · rw [if_pos (decide_eq_true h6)]
    refine ⟨by decide, ?_⟩
    by_cases hre : rs = []
    · rw [if_neg (by rw [hre]; simp)]
      exact P7
    · rw [if_pos (by cases rs with | nil => exact absurd rfl hre | cons a l => rfl)]
      unfold r__law_program_3
      simp!
      refine pickT hr (by omega) (by rw [List.length_map]; exact List.length_pos_iff.mpr hre) (by rw [List.length_map]; omega) fun y hy => ?_
      obtain ⟨rm, hrm, rfl⟩ := List.mem_map.mp hy
      have o := hrs.ok rm hrm
      unfold r__law_program_4
      simp! [none_cat ws (by omega)]
      refine ⟨by decide, ?_⟩
      unfold r__law_program_5
      simp! [Rm.pv]
      have hd0 : 0 < rm.deeds.length := List.length_pos_iff.mpr o.d0
      have hd6 := o.dl
      refine pickT hr (by omega) (by rw [List.length_map]; exact hd0) (by rw [List.length_map]; omega) fun z hz => ?_
      obtain ⟨dd, hdd, rfl⟩ := List.mem_map.mp hz
      simp! [deedPV]
      unfold r__law_program_6
      simp!
      refine pick hr (by omega) (by simp) (by simp; omega) fun g hg => ?_
      obtain ⟨go, hgo, rfl⟩ := none_mem hg
      refine ⟨Nat.zero_le _, ?_⟩
      refine sumi (deep := 1) (bs := []) hr (by omega) (by decide) hw (by simp) (by omega) (by simp) fun s m2 hm20 hm2 hs ho => ⟨by decide, _, _, app _ (.doo go rm.name dd.1 s), ?_⟩
      exact one (.doo go rm.name dd.1 s) m2 _ _ _ _ _ _ _ ⟨hgo, List.mem_flatMap.mpr ⟨rm, hrm, List.mem_map.mpr ⟨dd, hdd, rfl⟩⟩, ho, by omega⟩ (by omega) (by omega)
  · rw [if_neg (by rw [decide_eq_false h6]; decide)]
    exact P7
theorem prog_ok (args : List PV) (et : Hi) (R : PV → Hi → Prop) (h : spPgF args et R) : r__law_program spTkF spPkF (spSumF 3) (env0 N__law_program args) et (retK R) := by
  obtain ⟨r, most, rs, ws, ps, e, n, rfl, rfl, hr, hn, hm1, hm3, hrs, hrsl, hw, hp, hwl, hpl, hR⟩ := h
  show r__law_program _ _ _ [.val (.ref r), .val (.tup (rs.map Rm.pv)), .val (.lst (ws.map .str)), .val (.lst (ps.map .str)), .val (.int most), .no, .no, .no, .no, .no, .no, .no, .no] (pf e r n) (retK R)
  have big : (2000 : Nat) ≤ sizeLine := by decide
  unfold r__law_program
  simp!
  refine ⟨Nat.zero_le _, ?_⟩
  unfold r__law_program_0
  simp!
  refine tk hr (by omega) (by omega) (by omega) fun d d0 d1 => ?_
  obtain ⟨k, ek, k0, k1⟩ : ∃ k : Nat, 1 + d = (k : Int) ∧ 1 ≤ k ∧ k ≤ 3 := ⟨(1 + d).toNat, by omega, by omega, by omega⟩
  simp! [ek]
  refine ⟨_, rfl, by omega, by omega, fun t ep et1 => t ≤ k ∧ ∃ (rows : List Row) (m : Nat) (s6 s7 s8 s9 s10 s11 s12 : Mw.Slot), et1 = pf e r m ∧ n ≤ m ∧ m ≤ n + 1 + 50 * t ∧ ep = epP r most rs ws ps (.lst (rows.map Row.pv)) s6 s7 s8 s9 s10 s11 s12 ∧ t ≤ rows.length ∧ rows.length ≤ 3 * t ∧
    ∀ row ∈ rows, row.okH ws ps (goalsOf rs) rows.length, ⟨Nat.zero_le _, [], n + 1, _, _, _, _, _, _, _, rfl, by omega, by omega, rfl, Nat.le_refl _, Nat.le_refl _, by simp⟩, ?_⟩
  rintro t ep et1 ⟨htk, rows, m, s6, s7, s8, s9, s10, s11, s12, rfl, hm0, hm, rfl, hl1, hl2, hrows⟩
  refine ⟨rfl, fun p hpi => ⟨_, rfl, ?_⟩, fun e2 => ?_⟩
  · obtain ⟨rfl, htk2⟩ := Dw.rng_at hpi
    refine prog_it hr (by omega) (by omega) hrs hrsl hw hp hwl hpl fun new m' t6 t7 t8 t9 t10 t11 t12 h1 h2 h3 h4 h5 => ?_
    refine ⟨by omega, rows ++ new, m', _, _, _, _, _, _, _, rfl, by omega, by omega, rfl, by rw [List.length_append]; omega, by rw [List.length_append]; omega, fun row hrow => ?_⟩
    rw [List.length_append]
    rcases List.mem_append.mp hrow with hrow | hrow
    · exact Row.okH_mono (by omega) row (hrows row hrow)
    · exact h5 row hrow
  · have e3 : t = k := by rw [e2]; simp [rng]
    subst e3
    have fin : ∀ (rows : List Row) (m : Nat) (t11 t12 : Mw.Slot), n ≤ m → m ≤ n + 190 → 1 ≤ rows.length → rows.length ≤ 20 → (∀ row ∈ rows, row.okH ws ps (goalsOf rs) rows.length) → r__law_program_20 (epP r most rs ws ps (.lst (rows.map Row.pv)) s6 s7 s8 s9 s10 t11 t12) (pf e r m) (retK R) := fun rows m t11 t12 h1 h2 h3 h4 h5 => by
      unfold r__law_program_20
      have gt : gTuple [.lst (rows.map Row.pv)] = some (.tup (rows.map Row.pv)) := rfl
      simp! [gt]
      exact hR rows m h1 (by omega) h3 (by omega) h5
    unfold r__law_program_16
    simp! [gNe_words hw]
    refine ⟨by decide, ?_⟩
    by_cases hwe : ws = []
    · rw [if_neg (by rw [hwe]; simp)]
      exact fin rows m _ _ (by omega) (by omega) (by omega) (by omega) hrows
    · rw [if_pos (by cases ws with | nil => exact absurd rfl hwe | cons a l => rfl)]
      refine tk hr (by omega) (by decide) (by decide) fun d2 e0 e1 => ?_
      by_cases h0 : d2 = 0
      · simp! [h0, decide_true]
        unfold r__law_program_17
        simp! [rows_len rows]
        refine pickS hr (by omega) hwe (by omega) fun x hx => ?_
        refine ⟨_, _, rfl, ?_⟩
        unfold r__law_program_18
        simp!
        refine ⟨by decide, by decide, ?_⟩
        have app1 := fun (d : PV → PV) => rows_app d rows (.put x (.two .plus (.wrd x) (.val 1))) (by omega)
        refine ⟨_, _, app1 _, ?_⟩
        unfold r__law_program_19
        simp!
        refine ⟨by decide, by decide, by decide, by decide, ?_⟩
        have ext := fun (d : PV → PV) (hd : ∀ l, d (.lst l) = .lst l) => rows_ext d (rows ++ [.put x (.two .plus (.wrd x) (.val 1))]) [.unl (.two .less (.wrd x) (.val 3)) (rows.length + 3), .go 0] (by simp; omega) (hd _)
        refine ⟨_, _, ext _ (fun _ => rfl), ?_⟩
        refine fin _ _ _ _ (by omega) (by omega) (by simp) (by simp; omega) fun row hrow => ?_
        have hlen : ((rows ++ [Row.put x (.two .plus (.wrd x) (.val 1))]) ++ [Row.unl (.two .less (.wrd x) (.val 3)) (rows.length + 3), Row.go 0]).length = rows.length + 3 := by simp
        rw [hlen]
        rcases List.mem_append.mp hrow with hrow | hrow
        · rcases List.mem_append.mp hrow with hrow | hrow
          · exact Row.okH_mono (by omega) row (hrows row hrow)
          · rw [List.mem_singleton.mp hrow]
            exact ⟨hx, ⟨hx, show (1 : Nat) ≤ 9 by decide⟩, by simp [Sm.dep]⟩
        · simp only [List.mem_cons, List.not_mem_nil, or_false] at hrow
          rcases hrow with rfl | rfl
          · exact ⟨⟨⟨hx, show (3 : Nat) ≤ 9 by decide⟩, by simp [Sm.dep]⟩, Nat.le_refl _⟩
          · exact Nat.zero_le _
      · simp! [h0, decide_false]
        exact fin rows _ _ _ (by omega) (by omega) (by omega) (by omega) hrows
theorem lc_filt {src want : List PV} {tg : PV → En → Option En} {mt : EM Bool} {me : EM PV} {epw : En} {ps : List PV} {et : Hi} {R : PV → Hi → Prop} (keep : PV → Bool) (val : PV → PV) (h : src.map (deref et) = want) (hl : ps.length ≤ sizeLine)
    (step : ∀ p ∈ ps, ∃ ep1, tg p epw = some ep1 ∧ (∀ Q : Bool → Hi → Prop, Q (keep p) et → mt ep1 et Q) ∧ (keep p = true → ∀ Q : PV → Hi → Prop, Q (val p) et → me ep1 et Q)) (fin : R (.lst ((ps.filter keep).map val)) et) : lcGo src want tg mt me epw ps et R := by
  refine ⟨fun i acc et1 => et1 = et ∧ acc = ((ps.take i).filter keep).map val ∧ i ≤ ps.length, ⟨rfl, by simp, Nat.zero_le _⟩, ?_⟩
  rintro i acc et1 ⟨rfl, rfl, hi⟩
  refine ⟨h, fun p hp => ?_, fun e => ?_⟩
  · have hlt := (List.getElem?_eq_some_iff.mp hp).1
    obtain ⟨ep1, h1, h2, h3⟩ := step p (List.mem_of_getElem? hp)
    have et' : (ps.take (i + 1)).filter keep = (ps.take i).filter keep ++ [p].filter keep := by rw [List.take_succ, hp, List.filter_append]; rfl
    refine ⟨ep1, h1, h2 _ ?_⟩
    cases hk : keep p with
    | true =>
      simp only [if_true]
      refine h3 hk _ ⟨?_, rfl, ?_, hlt⟩
      · rw [List.length_map]
        have := List.length_filter_le keep (ps.take i)
        rw [List.length_take] at this; omega
      · rw [et']; simp [hk]
    | false =>
      simp only [Bool.false_eq_true, if_false]
      refine ⟨trivial, ?_, hlt⟩
      rw [et']; simp [hk]
  · rw [e, List.take_length]; exact fin
theorem word_app {s x : Str} (hs : s.cps.toList.all (fun c => decide (97 ≤ c) && decide (c ≤ 122)) = true) (h1 : 1 ≤ x.cps.size) (h8 : s.cps.size + x.cps.size ≤ 8) (hx : x.cps.toList.all (fun c => decide (97 ≤ c) && decide (c ≤ 122)) = true) : isWord (s ++ x) = true := by
  unfold isWord
  rw [cps_append]
  simp only [Array.size_append, Array.toList_append, List.all_append, hs, hx, Bool.and_true, Bool.and_eq_true, decide_eq_true_eq]
  omega
structure Stm (s : Str) (n : Nat) (ws : List Str) : Prop where
  l : ws.length ≤ n
  nd : ws.Nodup
  srt : ws.Pairwise leS
  w : ∀ x ∈ ws, isWord x = true
  from_ : ∀ x ∈ ws, ∃ y, isW6 y ∧ x = s ++ y
theorem lt_app (s : List Nat) : ∀ {x y : List Nat}, s ++ x < s ++ y → x < y := by
  induction s with
  | nil => intro x y h; exact h
  | cons c s ih =>
    intro x y h
    rw [List.cons_append, List.cons_append, List.cons_lt_cons_iff] at h
    rcases h with h | ⟨_, h⟩
    · exact absurd h (Nat.lt_irrefl _)
    · exact ih h
theorem leS_app {s x y : Str} (h : leS x y) : leS (s ++ x) (s ++ y) := fun z => h (by
  rw [cps_append, cps_append, Array.toList_append, Array.toList_append] at z
  exact lt_app _ z)
theorem Stm.of {s : Str} {n : Nat} {ws : List Str} {k : Nat} (h : Wds k ws) (hk : k ≤ n) (keep : Str → Bool) (hs : s.cps.toList.all (fun c => decide (97 ≤ c) && decide (c ≤ 122)) = true) (h8 : ∀ x ∈ ws, keep x = true → s.cps.size + x.cps.size ≤ 8) : Stm s n ((ws.filter keep).map fun x => s ++ x) := by
  refine ⟨?_, ?_, ?_, fun x hx => ?_, fun x hx => ?_⟩
  · rw [List.length_map]
    have := List.length_filter_le keep ws
    rw [h.len] at this; omega
  · exact nodup_map_on (h.nd.sublist List.filter_sublist) fun x _ y _ e => app_inj e
  · rw [List.pairwise_map]
    exact (h.srt.sublist List.filter_sublist).imp leS_app
  · obtain ⟨y, hy, rfl⟩ := List.mem_map.mp hx
    obtain ⟨hy1, hy2⟩ := List.mem_filter.mp hy
    have := h.w6 y hy1
    exact word_app hs this.1 (h8 y hy1 hy2) this.2.2.2
  · obtain ⟨y, hy, rfl⟩ := List.mem_map.mp hx
    exact ⟨y, h.w6 y (List.mem_filter.mp hy).1, rfl⟩
theorem Stm.pairs {s : Str} {n : Nat} {ws : List Str} (h : Stm s n ws) (hn : n ≤ 6) {ps : List (Str × Int)} (e : ps.map (·.1) = ws) (hv : ∀ p ∈ ps, 0 ≤ p.2 ∧ p.2 ≤ 9) : PairsOk ps := by
  refine ⟨?_, ?_, hv, ?_⟩
  · show ∀ x ∈ ps.map (·.1), _; rw [e]; exact h.w
  · show (ps.map (·.1)).Nodup; rw [e]; exact h.nd
  · have : ps.length = ws.length := by rw [← e, List.length_map]
    have := h.l
    omega
structure WldF (w : Wld) (hands : Nat) : Prop where
  ok : WorldOk w
  rooms : RmsF w.rooms
  hl : w.hands.length = hands
  ps : Stm "pass" 2 (nm w.passes)
  op : Stm "o" 1 (nm w.shared)
  own : ∀ h ∈ w.hands, Stm "h" 2 (nm h.1)
def spWdF : FSpec := fun args et R => ∃ (r most hands : Nat) (e : Hi) (n : Nat), args = [.ref r, .int most, .int hands] ∧ et = pf e r n ∧ r < e.length ∧ n + 20000 < 1000000 ∧ 1 ≤ most ∧ most ≤ 3 ∧ 1 ≤ hands ∧ hands ≤ 8 ∧
  ∀ (w : Wld) (m : Nat), n ≤ m → m ≤ n + 10000 → WldF w hands → R w.pv (pf e r m)
theorem str_cat (s x : Str) (h : s.cps.size + x.cps.size ≤ 100) : gAdd (.str s) (.str x) = some (.str (s ++ x)) := by
  have big : (2000 : Nat) ≤ sizeLine := by decide
  show (if s.length + x.length ≤ sizeLine then some (PV.str (s ++ x)) else none) = _
  rw [if_pos (by rw [len_cps, len_cps]; omega)]
theorem world_ok (args : List PV) (et : Hi) (R : PV → Hi → Prop) (h : spWdF args et R) : r__law_world spRmsF spNmF spTkF spPgF (env0 N__law_world args) et (retK R) := by
  obtain ⟨r, most, hands, e, n, rfl, rfl, hr, hn, hm1, hm3, hh1, hh8, hR⟩ := h
  show r__law_world _ _ _ _ [.val (.ref r), .val (.int most), .val (.int hands), .no, .no, .no, .no, .no, .no, .no, .no, .no] (pf e r n) (retK R)
  have big : (2000 : Nat) ≤ sizeLine := by decide
  have gt : ∀ l, gTuple [.lst l] = some (.tup l) := fun _ => rfl
  unfold r__law_world
  simp!
  refine ⟨r, most, e, n, rfl, rfl, hr, by omega, hm1, hm3, fun rs m0 hm00 hm0 hrs => ?_⟩
  have hrl := hrs.l3
  unfold r__law_world_0
  simp!
  refine ⟨by decide, ?_⟩
  refine tk hr (by omega) (by decide) (by decide) fun d d0 d1 => ?_
  obtain ⟨kp, hkp, ep⟩ := nm_draw (xs := [PV.int 0, .int 0, .int 1, .int 2]) [0, 0, 1, 2] rfl d0 (by simpa using d1)
  have hkp2 : kp ≤ 2 := by simp at hkp; omega
  refine ⟨_, ep, ?_⟩
  refine ⟨r, kp, e, _, rfl, rfl, hr, by omega, by omega, fun ps0 hps0 => ?_⟩
  have hps0l := hps0.len
  refine ⟨_, rfl, ?_⟩
  refine lc_filt (fun p => match p with | .str x => decide (x.cps.size < 5) | _ => false) (fun p => match p with | .str x => .str (("pass" : Str) ++ x) | _ => .non) rfl (by rw [List.length_map]; omega) (fun p hp => ?_) ?_
  · obtain ⟨x, hx, rfl⟩ := List.mem_map.mp hp
    have h6 := (hps0.w6 x hx).2.1
    have hlen : gLen [.str x] = some (.int x.cps.size) := by
      show (if x.length ≤ sizeLine then some (PV.int x.length) else none) = _
      rw [if_pos (by rw [len_cps]; omega)]; rfl
    refine ⟨_, rfl, fun Q hQ => ?_, fun _ Q hQ => ?_⟩
    · simp! [hlen]
      have : (decide ((x.cps.size : Int) < 5)) = decide (x.cps.size < 5) := decide_eq_decide.mpr (by omega)
      rw [this]; exact hQ
    · have ec := str_cat "pass" x (by show 4 + _ ≤ _; omega)
      simp! [ec]
      exact ⟨_, ec, hQ⟩
  have eps : (((ps0.map PV.str).filter fun p => match p with | .str x => decide (x.cps.size < 5) | _ => false).map fun p => match p with | .str x => PV.str (("pass" : Str) ++ x) | _ => .non) = ((ps0.filter fun x => decide (x.cps.size < 5)).map fun x => ("pass" : Str) ++ x).map .str := by
    rw [List.filter_map, List.map_map, List.map_map]; rfl
  rw [eps]
  have hps : Stm "pass" 2 ((ps0.filter fun x => decide (x.cps.size < 5)).map fun x => ("pass" : Str) ++ x) := Stm.of hps0 hkp2 _ (by decide +kernel) fun x _ h => by
    have := of_decide_eq_true h
    show 4 + _ ≤ 8; omega
  generalize ((ps0.filter fun x => decide (x.cps.size < 5)).map fun x => ("pass" : Str) ++ x) = ps at hps
  have hpl := hps.l
  unfold r__law_world_1
  simp!
  refine ⟨by decide, ?_⟩
  refine tk hr (by omega) (by decide) (by decide) fun d d0 d1 => ?_
  obtain ⟨ko, hko, eo⟩ := nm_draw (xs := [PV.int 0, .int 0, .int 0, .int 1]) [0, 0, 0, 1] rfl d0 (by simpa using d1)
  have hko1 : ko ≤ 1 := by simp at hko; omega
  refine ⟨_, eo, ?_⟩
  refine ⟨r, ko, e, _, rfl, rfl, hr, by omega, by omega, fun sh0 hsh0 => ?_⟩
  have hsh0l := hsh0.len
  refine ⟨_, rfl, ?_⟩
  refine lc_map PV.str (fun x => .str (("o" : Str) ++ x)) rfl (by omega) (fun x hx => ⟨_, rfl, fun Q hQ => ?_⟩) ?_
  · have ec := str_cat "o" x (by have := (hsh0.w6 x hx).2.1; show 1 + _ ≤ _; omega)
    simp!
    exact ⟨_, ec, hQ⟩
  have eall : ∀ (s : Str) (ws : List Str), (ws.map fun x => PV.str (s ++ x)) = ((ws.filter fun _ => true).map fun x => s ++ x).map .str := fun s ws => by rw [List.filter_eq_self.mpr (by simp), List.map_map]; rfl
  rw [eall]
  have hsh : Stm "o" 1 ((sh0.filter fun _ => true).map fun x => ("o" : Str) ++ x) := Stm.of hsh0 hko1 _ (by decide +kernel) fun x hx _ => by
    have := (hsh0.w6 x hx).2.1
    show 1 + _ ≤ 8; omega
  generalize ((sh0.filter fun _ => true).map fun x => ("o" : Str) ++ x) = sh at hsh
  have hsl := hsh.l
  unfold r__law_world_2
  simp!
  refine ⟨Nat.zero_le _, ?_⟩
  unfold r__law_world_3
  simp!
  refine ⟨_, rfl, by omega, by omega, fun t ep et1 => t ≤ hands ∧ ∃ (hs : List Hand) (m : Nat) (s4 s8 s9 s10 s11 : Mw.Slot), et1 = pf e r m ∧ n ≤ m ∧ m ≤ n + 4010 + 300 * t ∧ ep = [.val (.ref r), .val (.int most), .val (.int hands), .val (.tup (rs.map Rm.pv)), s4, .val (.lst (ps.map .str)), .val (.lst (sh.map .str)), .own (.lst (hs.map handPV)), s8, s9, s10, s11] ∧
    hs.length = t ∧ (∀ h ∈ hs, HandOk (goalsOf rs) sh ps h) ∧ ∀ h ∈ hs, Stm "h" 2 (nm h.1), ⟨Nat.zero_le _, [], _, _, _, _, _, _, rfl, by omega, by omega, rfl, rfl, by simp, by simp⟩, ?_⟩
  rintro t ep et1 ⟨htk, hs, m, s4, s8, s9, s10, s11, rfl, hm0', hm', rfl, hhl, hho, hhs⟩
  refine ⟨rfl, fun p hpi => ⟨_, rfl, ?_⟩, fun e2 => ?_⟩
  · obtain ⟨rfl, htk2⟩ := Dw.rng_at hpi
    unfold r__law_world_4
    simp!
    refine ⟨by decide, ?_⟩
    refine tk hr (by omega) (by decide) (by decide) fun d d0 d1 => ?_
    obtain ⟨kh, hkh, eh⟩ := nm_draw (xs := [PV.int 0, .int 1, .int 1, .int 2]) [0, 1, 1, 2] rfl d0 (by simpa using d1)
    have hkh2 : kh ≤ 2 := by simp at hkh; omega
    refine ⟨_, eh, ?_⟩
    refine ⟨r, kh, e, _, rfl, rfl, hr, by omega, by omega, fun w0 hw0 => ?_⟩
    have hw0l := hw0.len
    refine ⟨_, rfl, ?_⟩
    refine lc_map PV.str (fun x => .str (("h" : Str) ++ x)) rfl (by omega) (fun x hx => ⟨_, rfl, fun Q hQ => ?_⟩) ?_
    · have ec := str_cat "h" x (by have := (hw0.w6 x hx).2.1; show 1 + _ ≤ _; omega)
      simp!
      exact ⟨_, ec, hQ⟩
    rw [eall]
    have hw : Stm "h" 2 ((w0.filter fun _ => true).map fun x => ("h" : Str) ++ x) := Stm.of hw0 hkh2 _ (by decide +kernel) fun x hx _ => by
      have := (hw0.w6 x hx).2.1
      show 1 + _ ≤ 8; omega
    generalize ((w0.filter fun _ => true).map fun x => ("h" : Str) ++ x) = ws at hw
    have hwl := hw.l
    unfold r__law_world_5
    have ec : gAdd (.lst (ws.map .str)) (.lst (sh.map .str)) = some (.lst ((ws ++ sh).map .str)) := by
      show (if (ws.map PV.str).length + (sh.map PV.str).length ≤ sizeLine then some (PV.lst (ws.map .str ++ sh.map .str)) else none) = _
      rw [if_pos (by rw [List.length_map, List.length_map]; omega), List.map_append]
    simp!
    refine ⟨_, ec, r, 3, rs, ws ++ sh, ps, e, _, rfl, rfl, hr, by omega, by decide, by decide, hrs.ok, by omega, fun x hx => ?_, hps.w, by rw [List.length_append]; omega, by omega, fun rows m1 hm10 hm1 l1 l2 hrows => ?_⟩
    · rcases List.mem_append.mp hx with hx | hx
      · exact hw.w x hx
      · exact hsh.w x hx
    unfold r__law_world_6
    simp! [itemsP]
    refine lc_pf (n := m1) (C := 1) PV.str pairPV (·.1) (fun p => 0 ≤ p.2 ∧ p.2 ≤ 9) (fun _ => rfl) (by omega) (fun b hb' m2 hm2 hm3 => ⟨_, rfl, fun Q hQ => ?_⟩) fun own m2 hm20 hm2 hko hvo => ?_
    · simp!
      refine tk hr (by omega) (by decide) (by decide) fun d2 e0 e1 => ?_
      exact ⟨by decide, hQ (b, d2) _ (Nat.le_refl _) (by omega) rfl ⟨e0, by omega⟩⟩
    simp! [gt]
    have app : ∀ d', gmAppend d' (.lst (hs.map handPV)) [.tup [.tup (own.map pairPV), progPV rows]] = some (.lst ((hs ++ [(own, rows)]).map handPV), .non) := fun d' => by
      show (if (hs.map handPV).length < sizeLine then some (PV.lst (hs.map handPV ++ [handPV (own, rows)]), PV.non) else none) = _
      rw [if_pos (by rw [List.length_map]; omega), List.map_append]; rfl
    refine ⟨by decide, _, _, app _, by omega, hs ++ [(own, rows)], m2, _, _, _, _, _, rfl, by omega, by omega, rfl, by rw [List.length_append, List.length_singleton, hhl], fun h hh => ?_, fun h hh => ?_⟩
    · rcases List.mem_append.mp hh with hh | hh
      · exact hho h hh
      · rw [List.mem_singleton.mp hh]
        refine ⟨hw.pairs (by decide) hko hvo, l1, l2, ?_⟩
        show ∀ row ∈ rows, row.okH (own.map (·.1) ++ sh) ps (goalsOf rs) rows.length
        rw [hko]; exact hrows
    · rcases List.mem_append.mp hh with hh | hh
      · exact hhs h hh
      · rw [List.mem_singleton.mp hh]
        show Stm "h" 2 (own.map (·.1))
        rw [hko]; exact hw
  · have e3 : t = hands := by rw [e2]; simp [rng]
    subst e3
    unfold r__law_world_7
    simp! [itemsP]
    refine lc_pf (n := m) (C := 1) PV.str pairPV (·.1) (fun p => 0 ≤ p.2 ∧ p.2 ≤ 9) (fun _ => rfl) (by omega) (fun b hb' m2 hm2 hm3 => ⟨_, rfl, fun Q hQ => ?_⟩) fun counted m2 hm20 hm2 hck hcv => ?_
    · simp!
      refine tk hr (by omega) (by decide) (by decide) fun d2 e0 e1 => ?_
      exact ⟨by decide, hQ (b, d2) _ (Nat.le_refl _) (by omega) rfl ⟨e0, by omega⟩⟩
    simp! [gt, itemsP]
    refine lc_pf (n := m2) (C := 1) PV.str pairPV (·.1) (fun p => 0 ≤ p.2 ∧ p.2 ≤ 9) (fun _ => rfl) (by omega) (fun b hb' m3 hm3 hm4 => ⟨_, rfl, fun Q hQ => ?_⟩) fun shared m3 hm30 hm3 hsk hsv => ?_
    · simp!
      refine tk hr (by omega) (by decide) (by decide) fun d2 e0 e1 => ?_
      exact ⟨by decide, hQ (b, d2) _ (Nat.le_refl _) (by omega) rfl ⟨e0, by omega⟩⟩
    simp! [gt]
    refine ⟨by decide, ?_⟩
    refine hR ⟨rs, counted, shared, hs⟩ m3 (by omega) (by omega) ⟨⟨hrs.ok, by show rs.length ≤ 6; omega, fun rm hrm => ?_, hps.pairs (by decide) hck hcv, hsh.pairs (by decide) hsk hsv, ?_, ?_, by show hs.length ≤ 10; omega⟩, hrs, hhl, ?_, ?_, hhs⟩
    · obtain ⟨gs, hg⟩ := hrs.each rm hrm
      have := hg.b2; omega
    · show ∀ h ∈ hs, HandOk (goalsOf rs) (shared.map (·.1)) (counted.map (·.1)) h
      rw [hsk, hck]; exact hho
    · intro z
      have z' : hs = [] := z
      rw [z'] at hhl; simp at hhl; omega
    · show Stm "pass" 2 (counted.map (·.1)); rw [hck]; exact hps
    · show Stm "o" 1 (shared.map (·.1)); rw [hsk]; exact hsh
section
open Sc St Sp Wk
end
end Df
namespace Rw
open PySem L2 Mw Lw Cw De
mutual
def pg : PV → Bool
  | .non => true
  | .bl _ => true
  | .int i => decide (0 ≤ i) && decide (i ≤ 99)
  | .str x => PyData.strOk x && x.cps.toList.all fun c => decide (c < 16 ^ 8)
  | .tup xs => pgs xs
  | .lst xs => pgs xs
  | _ => false
def pgs : List PV → Bool
  | [] => true
  | x :: xs => pg x && pgs xs
end
mutual
def pk : PV → Nat
  | .str x => x.cps.size
  | .tup xs => pks xs
  | .lst xs => pks xs
  | _ => 0
def pks : List PV → Nat
  | [] => 0
  | x :: xs => pk x + 1 + pks xs
end
theorem int_short : ∀ n, n < 100 → (PyData.shown (.int (n : Nat))).length ≤ 10 ∧ (n : Int).natAbs.log2 < 1920 := by decide +kernel
mutual
theorem pg_dat : ∀ (p : PV), pg p = true → ∃ d, dat p = some d ∧ d.canLay0 = true ∧ PyData.depth d = dpt p ∧ d.showable = true ∧ d.leavesShort 10 = true ∧ d.bulk = pk p
  | .non, h => ⟨_, rfl, rfl, rfl, rfl, rfl, rfl⟩
  | .bl b, h => ⟨_, rfl, rfl, rfl, rfl, rfl, rfl⟩
  | .int i, h => by
    simp only [pg, Bool.and_eq_true, decide_eq_true_eq] at h
    obtain ⟨n, rfl⟩ := Int.eq_ofNat_of_zero_le h.1
    have hn := int_short n (by omega)
    exact ⟨_, rfl, rfl, rfl, by simpa [PyData.showable] using hn.2, by simpa [PyData.leavesShort] using hn.1, rfl⟩
  | .str x, h => by
    simp only [pg, Bool.and_eq_true] at h
    exact ⟨_, rfl, by simpa [PyData.canLay0] using h.1, rfl, rfl, by simpa [PyData.leavesShort] using h.2, rfl⟩
  | .tup xs, h => by
    obtain ⟨ds, h1, h2, h3, h4, h5, h6⟩ := pgs_dat xs (by simpa [pg] using h)
    exact ⟨.tuple ds, by simp [dat, h1], by simpa [PyData.canLay0] using h2, by simp [PyData.depth, dpt, h3], by simpa [PyData.showable] using h4, by simpa [PyData.leavesShort] using h5, by simpa [PyData.bulk, pk] using h6⟩
  | .lst xs, h => by
    obtain ⟨ds, h1, h2, h3, h4, h5, h6⟩ := pgs_dat xs (by simpa [pg] using h)
    exact ⟨.list ds, by simp [dat, h1], by simpa [PyData.canLay0] using h2, by simp [PyData.depth, dpt, h3], by simpa [PyData.showable] using h4, by simpa [PyData.leavesShort] using h5, by simpa [PyData.bulk, pk] using h6⟩
  | .dic _, h => by simp [pg] at h
  | .scr _, h => by simp [pg] at h
  | .ref _, h => by simp [pg] at h
  | .glo _, h => by simp [pg] at h
  | .ty _, h => by simp [pg] at h
  | .dik _, h => by simp [pg] at h
theorem pgs_dat : ∀ (ps : List PV), pgs ps = true → ∃ ds, dats ps = some ds ∧ PyData.canLayAll0 ds = true ∧ PyData.depthAll ds = dpts ps ∧ PyData.showableAll ds = true ∧ PyData.leavesShortAll 10 ds = true ∧ PyData.bulkAll ds = pks ps
  | [], h => ⟨[], rfl, rfl, rfl, rfl, rfl, rfl⟩
  | p :: ps, h => by
    simp only [pgs, Bool.and_eq_true] at h
    obtain ⟨d, a1, a2, a3, a4, a5, a6⟩ := pg_dat p h.1
    obtain ⟨ds, b1, b2, b3, b4, b5, b6⟩ := pgs_dat ps h.2
    exact ⟨d :: ds, by simp [dats, a1, b1], by simp [PyData.canLayAll0, a2, b2], by simp [PyData.depthAll, dpts, a3, b3], by simp [PyData.showableAll, a4, b4], by simp [PyData.leavesShortAll, a5, b5], by simp [PyData.bulkAll, pks, a6, b6]⟩
end
structure Sh (b k : Nat) (p : PV) : Prop where
  g : pg p = true
  b : pk p ≤ b
  d : dpt p ≤ k
theorem Sh.mono {b k b' k' : Nat} {p : PV} (h : Sh b k p) (hb : b ≤ b') (hk : k ≤ k') : Sh b' k' p := ⟨h.g, Nat.le_trans h.b hb, Nat.le_trans h.d hk⟩
theorem Sh.shw {b k : Nat} {xs : List PV} (h : Sh b k (.tup xs)) (hb : b ≤ 1390000) (hk : k ≤ 60) : ∃ t, shwP (.tup xs) = some t := by
  obtain ⟨d, h1, h2, h3, h4, h5, h6⟩ := pg_dat _ h.g
  have e := PyData.shown_le_bulk 10 (by decide) d h5
  have hb2 := h.b
  have hd := h.d
  refine ⟨d.shown, ?_⟩
  unfold shwP
  rw [h1]
  show (if _ then _ else _) = _
  rw [if_pos]
  refine ⟨?_, h2, h4, ?_, by omega⟩
  · simp only [dat] at h1
    cases e2 : dats xs with
    | none => rw [e2] at h1; cases h1
    | some ds => rw [e2] at h1; cases h1; rfl
  · rw [sizeLine_eq]
    omega
theorem Sh.wrd {x : Str} (h : isWord x = true) : Sh 8 0 (.str x) := by
  have h2 := isWord_strOk h
  unfold isWord at h
  simp only [Bool.and_eq_true, decide_eq_true_eq, List.all_eq_true] at h
  refine ⟨?_, h.1.2, Nat.le_refl _⟩
  simp only [pg, h2, Bool.true_and, List.all_eq_true, decide_eq_true_eq]
  intro c hc
  have := h.2 c hc
  omega
theorem lits : ∀ x ∈ (["put", "unless", "go", "do", "wait", "call", "all", "tell", "take", "give", "pass", "say", "waits", "not", "plus", "minus", "less", "same", "both", "given", "at once", "when free", "row", "turns"] : List Str), pg (.str x) = true ∧ x.cps.size ≤ 9 := by decide +kernel
theorem Sh.lit {x : Str} (h : x ∈ (["put", "unless", "go", "do", "wait", "call", "all", "tell", "take", "give", "pass", "say", "waits", "not", "plus", "minus", "less", "same", "both", "given", "at once", "when free", "row", "turns"] : List Str)) : Sh 9 0 (.str x) := ⟨(lits x h).1, (lits x h).2, Nat.le_refl _⟩
theorem Sh.num {n : Nat} (h : n ≤ 99) : Sh 0 0 (.int n) := ⟨by simp [pg]; omega, Nat.le_refl _, Nat.le_refl _⟩
theorem Sh.int {i : Int} (h0 : 0 ≤ i) (h : i ≤ 99) : Sh 0 0 (.int i) := ⟨by simp [pg, h0, h], Nat.le_refl _, Nat.le_refl _⟩
theorem Sh.non : Sh 0 0 .non := ⟨rfl, Nat.le_refl _, Nat.le_refl _⟩
theorem Sh.t2 {a b k : Nat} {p q : PV} (h : Sh a k p) (g : Sh b k q) : Sh (a + b + 2) (k + 1) (.tup [p, q]) := ⟨by simp [pg, pgs, h.g, g.g], by have := h.b; have := g.b; simp [pk, pks]; omega, by have := h.d; have := g.d; simp [dpt, dpts]; omega⟩
theorem Sh.t3 {a b c k : Nat} {p q r : PV} (h : Sh a k p) (g : Sh b k q) (f : Sh c k r) : Sh (a + b + c + 3) (k + 1) (.tup [p, q, r]) := ⟨by simp [pg, pgs, h.g, g.g, f.g], by have := h.b; have := g.b; have := f.b; simp [pk, pks]; omega, by have := h.d; have := g.d; have := f.d; simp [dpt, dpts]; omega⟩
theorem Sh.t4 {a b c d k : Nat} {p q r s : PV} (h : Sh a k p) (g : Sh b k q) (f : Sh c k r) (e : Sh d k s) : Sh (a + b + c + d + 4) (k + 1) (.tup [p, q, r, s]) :=
  ⟨by simp [pg, pgs, h.g, g.g, f.g, e.g], by have := h.b; have := g.b; have := f.b; have := e.b; simp [pk, pks]; omega, by have := h.d; have := g.d; have := f.d; have := e.d; simp [dpt, dpts]; omega⟩
theorem Sh.t5 {a b c d e k : Nat} {p q r s t : PV} (h : Sh a k p) (g : Sh b k q) (f : Sh c k r) (u : Sh d k s) (v : Sh e k t) : Sh (a + b + c + d + e + 5) (k + 1) (.tup [p, q, r, s, t]) :=
  ⟨by simp [pg, pgs, h.g, g.g, f.g, u.g, v.g], by have := h.b; have := g.b; have := f.b; have := u.b; have := v.b; simp [pk, pks]; omega, by have := h.d; have := g.d; have := f.d; have := u.d; have := v.d; simp [dpt, dpts]; omega⟩
theorem pgs_map {α : Type} {f : α → PV} {b k : Nat} : ∀ (l : List α), (∀ a ∈ l, Sh b k (f a)) → pgs (l.map f) = true ∧ pks (l.map f) ≤ l.length * (b + 1) ∧ dpts (l.map f) ≤ k
  | [], _ => ⟨rfl, Nat.zero_le _, Nat.zero_le _⟩
  | a :: l, h => by
    have h1 := h a List.mem_cons_self
    obtain ⟨i1, i2, i3⟩ := pgs_map l fun x hx => h x (List.mem_cons_of_mem _ hx)
    refine ⟨by simp [pgs, h1.g, i1], ?_, by have := h1.d; simp only [List.map_cons, dpts]; omega⟩
    have := h1.b
    simp only [List.map_cons, pks, List.length_cons, Nat.add_mul, Nat.one_mul]
    omega
theorem Sh.tupm {α : Type} {f : α → PV} {b k n : Nat} {l : List α} (h : ∀ a ∈ l, Sh b k (f a)) (hn : l.length ≤ n) : Sh (n * (b + 1)) (k + 1) (.tup (l.map f)) := by
  obtain ⟨h1, h2, h3⟩ := pgs_map l h
  exact ⟨by simpa [pg] using h1, Nat.le_trans h2 (Nat.mul_le_mul_right _ hn), by simp only [dpt]; omega⟩
theorem sh_sm {ws bs : List Str} (hw : ∀ x ∈ ws, isWord x = true) (hb : ∀ x ∈ bs, isWord x = true) : ∀ s : Sm, s.ok ws bs → pg s.pv = true ∧ pk s.pv + 10 ≤ 15 * 2 ^ s.dep ∧ dpt s.pv ≤ s.dep
  | .val n, h => ⟨by have h : n ≤ 9 := h; simp [Sm.pv, pg]; omega, by simp [Sm.pv, pk, Sm.dep], Nat.zero_le _⟩
  | .wrd x, h => by
    have w := Sh.wrd (hw x h)
    exact ⟨w.g, by have := w.b; simp only [Sm.pv, Sm.dep]; omega, Nat.zero_le _⟩
  | .wts x, h => by
    have w := Sh.wrd (hb x h)
    have l : Sh 9 0 (.str "waits") := Sh.lit (by simp)
    have t := l.t2 w
    exact ⟨t.g, by have := t.b; have e : pk (.tup [.str "waits", .str x]) ≤ 5 + 8 + 2 := (by have := w.b; simp only [pk, pks] at this ⊢; have : ("waits" : Str).cps.size = 5 := rfl; omega); simp only [Sm.pv, Sm.dep]; omega, by simp [Sm.pv, dpt, dpts, Sm.dep]⟩
  | .not a, h => by
    obtain ⟨h1, h2, h3⟩ := sh_sm hw hb a h
    refine ⟨by simp [Sm.pv, pg, pgs, h1]; exact by simpa [pg] using (lits "not" (by simp)).1, ?_, by simp only [Sm.pv, dpt, dpts, Sm.dep]; omega⟩
    have e : ("not" : Str).cps.size = 3 := rfl
    simp only [Sm.pv, pk, pks, Sm.dep, Nat.pow_succ, e]
    omega
  | .two t a b, h => by
    obtain ⟨h1, h2, h3⟩ := sh_sm hw hb a h.1
    obtain ⟨g1, g2, g3⟩ := sh_sm hw hb b h.2
    have ht : pg (.str t.str) = true ∧ t.str.cps.size ≤ 5 := by cases t <;> decide +kernel
    have e1 : 2 ^ a.dep ≤ 2 ^ max a.dep b.dep := Nat.pow_le_pow_right (by decide) (Nat.le_max_left _ _)
    have e2 : 2 ^ b.dep ≤ 2 ^ max a.dep b.dep := Nat.pow_le_pow_right (by decide) (Nat.le_max_right _ _)
    refine ⟨by simp [Sm.pv, pg, pgs, h1, g1]; exact by simpa [pg] using ht.1, ?_, by simp only [Sm.pv, dpt, dpts, Sm.dep]; omega⟩
    simp only [Sm.pv, pk, pks, Sm.dep, Nat.pow_succ]
    have := ht.2
    omega
theorem sh_okS {ws bs : List Str} (hw : ∀ x ∈ ws, isWord x = true) (hb : ∀ x ∈ bs, isWord x = true) {s : Sm} (h : okS ws bs s) : Sh 470 5 s.pv := by
  obtain ⟨h1, h2, h3⟩ := sh_sm hw hb s h.1
  have hd := h.2
  have e : 2 ^ s.dep ≤ 2 ^ 5 := Nat.pow_le_pow_right (by decide) hd
  exact ⟨h1, by omega, by omega⟩
theorem sh_opt {ts : List Str} (ht : ∀ x ∈ ts, isWord x = true) {g : Option Str} (h : ∀ x, g = some x → x ∈ ts) : Sh 8 0 (optPV g) := by
  cases g with
  | none => exact Sh.non.mono (by omega) (by omega)
  | some x => exact Sh.wrd (ht x (h x rfl))
theorem sh_rowD {ws ts bs : List Str} {gs : List (Str × Str)} {n : Nat} (hn : n ≤ 40) (hw : ∀ x ∈ ws, isWord x = true) (ht : ∀ x ∈ ts, isWord x = true) (hb : ∀ x ∈ bs, isWord x = true) (hg : gsWords gs) : ∀ row : Row, row.okD ws ts bs gs n → Sh 510 6 row.pv
  | .put x s, h => ((Sh.lit (x := "put") (by simp)).mono (Nat.le_refl _) (by omega) |>.t3 ((Sh.wrd (ht x h.1)).mono (Nat.le_refl _) (by omega)) (sh_okS hw hb h.2)).mono (by omega) (by omega)
  | .unl s k, h => ((Sh.lit (x := "unless") (by simp)).mono (Nat.le_refl _) (by omega) |>.t3 (sh_okS hw hb h.1) ((Sh.num (n := k) (by have := h.2; omega)).mono (Nat.le_refl _) (by omega))).mono (by omega) (by omega)
  | .go k, h => ((Sh.lit (x := "go") (by simp)).t2 (Sh.num (n := k) (by have : k ≤ n := h; omega))).mono (by omega) (by omega)
  | .doo g rm dd s, h => by
    obtain ⟨g1, g2⟩ := hg _ h.2.1
    exact ((Sh.lit (x := "do") (by simp)).mono (Nat.le_refl _) (by omega) |>.t5 ((sh_opt ht h.1).mono (Nat.le_refl _) (by omega)) ((Sh.wrd g1).mono (Nat.le_refl _) (by omega)) ((Sh.wrd g2).mono (Nat.le_refl _) (by omega)) (sh_okS hw hb h.2.2)).mono (by omega) (by omega)
  | .wait b s, h => ((Sh.lit (x := "wait") (by simp)).mono (Nat.le_refl _) (by omega) |>.t3 ((Sh.wrd (hb b h.1)).mono (Nat.le_refl _) (by omega)) (sh_okS hw hb h.2)).mono (by omega) (by omega)
  | .call b, h => ((Sh.lit (x := "call") (by simp)).t2 (Sh.wrd (hb b h))).mono (by omega) (by omega)
  | .all b, h => ((Sh.lit (x := "all") (by simp)).t2 (Sh.wrd (hb b h))).mono (by omega) (by omega)
  | .tell s, h => ((Sh.lit (x := "tell") (by simp)).mono (Nat.le_refl _) (by omega) |>.t2 (sh_okS hw hb h)).mono (by omega) (by omega)
  | .take _, h => h.elim
  | .give _, h => h.elim
  | .pass _ _, h => h.elim
  | .say _, h => h.elim
theorem sh_rowH {ws ps : List Str} {gs : List (Str × Str)} {n : Nat} (hn : n ≤ 40) (hw : ∀ x ∈ ws, isWord x = true) (hp : ∀ x ∈ ps, isWord x = true) (hg : gsWords gs) : ∀ row : Row, row.okH ws ps gs n → Sh 510 6 row.pv
  | .put x s, h => ((Sh.lit (x := "put") (by simp)).mono (Nat.le_refl _) (by omega) |>.t3 ((Sh.wrd (hw x h.1)).mono (Nat.le_refl _) (by omega)) (sh_okS hw (by simp) h.2)).mono (by omega) (by omega)
  | .unl s k, h => ((Sh.lit (x := "unless") (by simp)).mono (Nat.le_refl _) (by omega) |>.t3 (sh_okS hw (by simp) h.1) ((Sh.num (n := k) (by have := h.2; omega)).mono (Nat.le_refl _) (by omega))).mono (by omega) (by omega)
  | .go k, h => ((Sh.lit (x := "go") (by simp)).t2 (Sh.num (n := k) (by have : k ≤ n := h; omega))).mono (by omega) (by omega)
  | .doo g rm dd s, h => by
    obtain ⟨g1, g2⟩ := hg _ h.2.1
    exact ((Sh.lit (x := "do") (by simp)).mono (Nat.le_refl _) (by omega) |>.t5 ((sh_opt hw h.1).mono (Nat.le_refl _) (by omega)) ((Sh.wrd g1).mono (Nat.le_refl _) (by omega)) ((Sh.wrd g2).mono (Nat.le_refl _) (by omega)) (sh_okS hw (by simp) h.2.2)).mono (by omega) (by omega)
  | .take p, h => ((Sh.lit (x := "take") (by simp)).t2 (Sh.wrd (hp p h))).mono (by omega) (by omega)
  | .give p, h => ((Sh.lit (x := "give") (by simp)).t2 (Sh.wrd (hp p h))).mono (by omega) (by omega)
  | .pass p q, h => ((Sh.lit (x := "pass") (by simp)).t3 (Sh.wrd (hp p h.1)) (Sh.wrd (hp q h.2))).mono (by omega) (by omega)
  | .say s, h => ((Sh.lit (x := "say") (by simp)).mono (Nat.le_refl _) (by omega) |>.t2 (sh_okS hw (by simp) h)).mono (by omega) (by omega)
  | .wait _ _, h => h.elim
  | .call _, h => h.elim
  | .all _, h => h.elim
  | .tell _, h => h.elim
theorem sh_prog {p : List Row} (h : ∀ row ∈ p, Sh 510 6 row.pv) (hl : p.length ≤ 30) : Sh 15330 7 (progPV p) := (Sh.tupm h hl).mono (by omega) (by omega)
theorem sh_pairs {ps : List (Str × Int)} (hw : ∀ x ∈ nm ps, isWord x = true) (hv : ∀ p ∈ ps, 0 ≤ p.2 ∧ p.2 ≤ 9) (hl : ps.length ≤ 6) : Sh 66 2 (.tup (ps.map pairPV)) :=
  (Sh.tupm (b := 10) (k := 1) (fun p hp => (Sh.wrd (hw _ (List.mem_map.mpr ⟨p, hp, rfl⟩))).t2 (Sh.int (hv p hp).1 (by have := (hv p hp).2; omega))) hl).mono (by omega) (by omega)
theorem sh_bells {bs : List (Str × Bool)} (hw : ∀ x ∈ bs.map (·.1), isWord x = true) (hl : bs.length ≤ 6) : Sh 120 2 (.tup (bs.map bellPV)) :=
  (Sh.tupm (b := 19) (k := 1) (fun p hp => (Sh.wrd (hw _ (List.mem_map.mpr ⟨p, hp, rfl⟩))).t2 (Sh.lit (by cases p.2 <;> simp [sortS]))) hl).mono (by omega) (by omega)
theorem sh_room {gs : List (Str × Str)} {rm : Rm} (hg : gsWords gs) (h : RoomOk gs rm) : Sh 93000 10 rm.pv := by
  have gn : ∀ x ∈ rm.ts ++ [("given" : Str)], isWord x = true := fun x hx => by
    rcases List.mem_append.mp hx with hx | hx
    · exact h.tw x hx
    · rw [List.mem_singleton.mp hx]; decide +kernel
  have hg2 : gsWords (gs ++ rm.goals) := fun g hx => by
    rcases List.mem_append.mp hx with hx | hx
    · exact hg g hx
    · obtain ⟨d, hd, rfl⟩ := List.mem_map.mp hx
      exact ⟨h.nm, h.dw d hd⟩
  have hd : ∀ d ∈ rm.deeds, Sh 15340 8 (deedPV d) := fun d hd => by
    obtain ⟨a1, a2, a3⟩ := h.rows d hd
    exact (((Sh.wrd (h.dw d hd)).mono (Nat.le_refl _) (Nat.zero_le 7)).t2 (sh_prog (fun row hr => sh_rowD (by omega) gn h.tw h.bw hg2 row (a3 row hr)) a2)).mono (by omega) (by omega)
  have h1 : Sh 92046 9 (.tup (rm.deeds.map deedPV)) := (Sh.tupm hd h.dl).mono (by omega) (by omega)
  have h2 : Sh 9 0 (.str (mnS rm.free)) := Sh.lit (by cases rm.free <;> simp [mnS])
  exact (((Sh.wrd h.nm).mono (Nat.le_refl _) (Nat.zero_le 9)).t5 (h2.mono (Nat.le_refl _) (Nat.zero_le 9)) ((sh_pairs h.tw h.tv h.tl).mono (Nat.le_refl _) (by omega)) ((sh_bells h.bw h.bl).mono (Nat.le_refl _) (by omega)) h1).mono (by omega) (by omega)
theorem RoomsOk.gsw {rs : List Rm} (h : RoomsOk rs) : gsWords (goalsOf rs) := okG_of h.ok
theorem sh_world {w : Wld} {rs : List Rm} (hw : WorldOk w) (hr : ∀ rm ∈ rs, Sh 93000 10 rm.pv) (hl : rs.length ≤ 6) : Sh 720000 12 (Wld.pv { w with rooms := rs }) := by
  have hh : ∀ h ∈ w.hands, Sh 15400 8 (handPV h) := fun h hm => by
    have k := hw.hands h hm
    have ws : ∀ x ∈ nm h.1 ++ nm w.shared, isWord x = true := fun x hx => (List.mem_append.mp hx).elim (k.own.w x) (hw.shared.w x)
    exact (((sh_pairs k.own.w k.own.v k.own.l).mono (Nat.le_refl _) (by omega)).t2 (sh_prog (fun row hr => sh_rowH (by have := k.l2; omega) ws hw.passes.w (RoomsOk.gsw hw.rooms) row (k.rows row hr)) k.l2)).mono (by omega) (by omega)
  have h1 : Sh 558006 11 (.tup (rs.map Rm.pv)) := (Sh.tupm hr hl).mono (by omega) (by omega)
  have h2 : Sh 154010 11 (.tup (w.hands.map handPV)) := (Sh.tupm hh hw.hl).mono (by omega) (by omega)
  exact (h1.t4 ((sh_pairs hw.passes.w hw.passes.v hw.passes.l).mono (Nat.le_refl _) (by omega)) ((sh_pairs hw.shared.w hw.shared.v hw.shared.l).mono (Nat.le_refl _) (by omega)) h2).mono (by omega) (by omega)
theorem shw_world {w : Wld} {rs : List Rm} (hw : WorldOk w) (hr : ∀ rm ∈ rs, Sh 93000 10 rm.pv) (hl : rs.length ≤ 6) : ∃ t, shwP (Wld.pv { w with rooms := rs }) = some t := (sh_world hw hr hl).shw (by omega) (by omega)
end Rw
namespace Q65
open PySem L2 Mw Lw Cw De Df Rw
abbrev tb_OTHERS : List (Str × Str) := [("at once", "when free"), ("when free", "at once")]
def r_exchanged_X_2 : SMX := (mRaise0 "NoManner")
def r_exchanged_X_4 : SM := (mRet (mTup (mCons (mBin gAdd (mBin gAdd (mSl gSlA (mPeek 2) mO0 (mO1 (mVar 1))) (mTup (mCons (mVar 11) mNil))) (mSl gSlA (mPeek 2) (mO1 (mBin gAdd (mPeek 1) (mC (.int 1)))) mO0)) (mCons (mVar 3) (mCons (mVar 4) (mCons (mVar 5) mNil))))))
def r_exchanged_X_3 : SM := (mSeq (mSet 11 (mTup (mCons (mVar 6) (mCons (mTabS tb_OTHERS (mVar 7)) (mCons (mVar 8) (mCons (mVar 9) (mCons (mVar 10) mNil))))))) (r_exchanged_X_4))
def r_exchanged_X_1 (S_has_all : FSpec) : SMX := (mSeqX (mIfX (mAsT (mCall 1 S_has_all (mCons (mVar 10) mNil))) (r_exchanged_X_2) mNextX) (mLiftX (r_exchanged_X_3)))
def r_exchanged_X_0 (S_has_all : FSpec) : SMX := (mSeqX (mLiftX (mAsg (tgT [(tgN 6), (tgN 7), (tgN 8), (tgN 9), (tgN 10)]) (mBin gIx (mPeek 2) (mPeek 1)))) (r_exchanged_X_1 S_has_all))
def r_exchanged_X (S_has_all : FSpec) : SMX := (mSeqX (mLiftX (mAsg (tgT [(tgN 2), (tgN 3), (tgN 4), (tgN 5)]) (mVar 0))) (r_exchanged_X_0 S_has_all))
abbrev N_exchanged_X : List Str := ["world", "room", "rooms", "passes", "opened", "hands", "name", "manner", "things", "bells", "deeds", "other"]
def r_exchanged_2 : SM := mNever
def r_exchanged_4 : SM := (mRet (mTup (mCons (mBin gAdd (mBin gAdd (mSl gSlA (mPeek 2) mO0 (mO1 (mVar 1))) (mTup (mCons (mVar 11) mNil))) (mSl gSlA (mPeek 2) (mO1 (mBin gAdd (mPeek 1) (mC (.int 1)))) mO0)) (mCons (mVar 3) (mCons (mVar 4) (mCons (mVar 5) mNil))))))
def r_exchanged_3 : SM := (mSeq (mSet 11 (mTup (mCons (mVar 6) (mCons (mTabS tb_OTHERS (mVar 7)) (mCons (mVar 8) (mCons (mVar 9) (mCons (mVar 10) mNil))))))) (r_exchanged_4))
def r_exchanged_1 (S_has_all : FSpec) : SM := (mSeq (mIf (mAsT (mCall 1 S_has_all (mCons (mVar 10) mNil))) (r_exchanged_2) mNext) (r_exchanged_3))
def r_exchanged_0 (S_has_all : FSpec) : SM := (mSeq (mAsg (tgT [(tgN 6), (tgN 7), (tgN 8), (tgN 9), (tgN 10)]) (mBin gIx (mPeek 2) (mPeek 1))) (r_exchanged_1 S_has_all))
def r_exchanged (S_has_all : FSpec) : SM := (mSeq (mAsg (tgT [(tgN 2), (tgN 3), (tgN 4), (tgN 5)]) (mVar 0)) (r_exchanged_0 S_has_all))
abbrev N_exchanged : List Str := ["world", "room", "rooms", "passes", "opened", "hands", "name", "manner", "things", "bells", "deeds", "other"]
def r_has_all : SM := (mRet (mArg gAny (mCons (mLc (mIter (mVar 0)) [1, 2] (tgT [(tgN 1), (tgN 2)]) mYes (mArg gAny (mCons (mLc (mIter (mVar 2)) [3] (tgN 3) mYes (mBin gEq (mBin gIx (mPeek 3) (mC (.int 0))) (mC (.str "all")))) mNil))) mNil)))
abbrev N_has_all : List Str := ["deeds", "word", "program", "row"]
def r__law_refused_1 : SM := (mSet 2 (mVar 3))
def r__law_refused_3 : SM := (mRet (mC (.bl false)))
def r__law_refused_4 : SM := (mRet (mAndE (mIsiE false [("NoManner", true)] (mVar 2)) (mIsiE false [("NoManner", true)] (mVar 2))))
def r__law_refused_2 : SM := (mSeq (mIf (mAsT (mIsiE false [("NoManner", false)] (mVar 2))) (r__law_refused_3) mNext) (r__law_refused_4))
def r__law_refused_0 (S_exchanged_X : XSpec) : SM := (mSeq (mTryC 3 ["NoManner"] (mExprE (mCallE 2 S_exchanged_X (mCons (mVar 0) (mCons (mVar 1) mNil)))) (r__law_refused_1)) (r__law_refused_2))
def r__law_refused (S_exchanged_X : XSpec) : SM := (mSeq (mSet 2 (mC .non)) (r__law_refused_0 S_exchanged_X))
abbrev N__law_refused : List Str := ["_law_world_here", "_law_room_here", "_law_caught", "e"]
def r__law_other_3 : SM := (mSet 5 (mBin gIx (mLst (mCons (mC (.str "at once")) (mCons (mC (.str "when free")) mNil))) (mArg gInt (mCons (mBin gEq (mPeek 5) (mC (.str "at once"))) mNil))))
def r__law_other_4 : SM := (mExprX (mMut 2 gmAppend (mCons (mTup (mCons (mBin gIx (mPeek 4) (mC (.int 0))) (mCons (mVar 5) (mCons (mBin gIx (mPeek 4) (mC (.int 2))) (mCons (mBin gIx (mPeek 4) (mC (.int 3))) (mCons (mBin gIx (mPeek 4) (mC (.int 4))) mNil)))))) mNil)))
def r__law_other_2 : SM := (mSeq (mIf (mBinT gEq (mPeek 3) (mPeek 1)) (r__law_other_3) mNext) (r__law_other_4))
def r__law_other_1 : SM := (mSeq (mSet 5 (mBin gIx (mPeek 4) (mC (.int 1)))) (r__law_other_2))
def r__law_other_5 : SM := (mRet (mTup (mCons (mArg gTuple (mCons (mPeek 2) mNil)) (mCons (mBin gIx (mPeek 0) (mC (.int 1))) (mCons (mBin gIx (mPeek 0) (mC (.int 2))) (mCons (mBin gIx (mPeek 0) (mC (.int 3))) mNil))))))
def r__law_other_0 : SM := (mSeq (mFor (mEnumA (mCons (mBin gIx (mPeek 0) (mC (.int 0))) mNil)) (tgT [(tgN 3), (tgN 4)]) (r__law_other_1)) (r__law_other_5))
def r__law_other : SM := (mSeq (mSetN 2 (mLst mNil)) (r__law_other_0))
abbrev N__law_other : List Str := ["_law_world_here", "_law_at", "_law_rooms_here", "_law_k", "_law_room_here", "_law_manner"]
def r__law_calls_all_1 : SM := (mExprX (mMut 1 gmExtend (mCons (mLc (mIter (mVar 3)) [4] (tgN 4) (mBinT gEq (mBin gIx (mPeek 4) (mC (.int 0))) (mC (.str "all"))) (mVar 4)) mNil)))
def r__law_calls_all_2 : SM := (mRet (mBin gNe (mPeek 1) (mLst mNil)))
def r__law_calls_all_0 : SM := (mSeq (mFor (mIter (mBin gIx (mPeek 0) (mC (.int 4)))) (tgT [(tgN 2), (tgN 3)]) (r__law_calls_all_1)) (r__law_calls_all_2))
def r__law_calls_all : SM := (mSeq (mSetN 1 (mLst mNil)) (r__law_calls_all_0))
abbrev N__law_calls_all : List Str := ["_law_room_here", "_law_found", "_law_word", "_law_program_here", "_law_row"]
def r_law_6 : SM := (mRet (mC (.bl false)))
def r_law_5 (S__law_refused : FSpec) : SM := (mIf (mNotT (mAsT (mCall 2 S__law_refused (mCons (mVar 3) (mCons (mVar 5) mNil))))) (r_law_6) mNext)
def r_law_9 : SM := (mRet (mC (.bl false)))
def r_law_8 (S_exchanged : FSpec) (S__law_other : FSpec) : SM := (mIf (mOrT (mBinT gNe (mArg gReprD (mCons (mPeek 7) mNil)) (mArg gReprD (mCons (mCall 2 S__law_other (mCons (mVar 3) (mCons (mVar 5) mNil))) mNil))) (mBinT gNe (mArg gReprD (mCons (mCall 2 S_exchanged (mCons (mVar 7) (mCons (mVar 5) mNil))) mNil)) (mPeek 4))) (r_law_9) mNext)
def r_law_7 (S_exchanged : FSpec) (S__law_other : FSpec) : SM := (mSeq (mSet 7 (mCall 2 S_exchanged (mCons (mVar 3) (mCons (mVar 5) mNil)))) (r_law_8 S_exchanged S__law_other))
def r_law_4 (S__law_calls_all : FSpec) (S__law_refused : FSpec) (S_exchanged : FSpec) (S__law_other : FSpec) : SM := (mIf (mAsT (mCall 1 S__law_calls_all (mCons (mVar 6) mNil))) (r_law_5 S__law_refused) (r_law_7 S_exchanged S__law_other))
def r_law_11 : SM := (mRet (mC (.bl false)))
def r_law_10 : SM := (mIf (mBinT gNe (mArg gReprD (mCons (mPeek 3) mNil)) (mPeek 4)) (r_law_11) mNext)
def r_law_3 (S__law_calls_all : FSpec) (S__law_refused : FSpec) (S_exchanged : FSpec) (S__law_other : FSpec) : SM := (mSeq (mFor (mEnumA (mCons (mBin gIx (mPeek 3) (mC (.int 0))) mNil)) (tgT [(tgN 5), (tgN 6)]) (r_law_4 S__law_calls_all S__law_refused S_exchanged S__law_other)) (r_law_10))
def r_law_2 (S__law_calls_all : FSpec) (S__law_refused : FSpec) (S_exchanged : FSpec) (S__law_other : FSpec) : SM := (mSeq (mSet 4 (mArg gReprD (mCons (mPeek 3) mNil))) (r_law_3 S__law_calls_all S__law_refused S_exchanged S__law_other))
def r_law_1 (S__law_world : FSpec) (S__law_take : FSpec) (S__law_calls_all : FSpec) (S__law_refused : FSpec) (S_exchanged : FSpec) (S__law_other : FSpec) : SM := (mSeq (mSet 3 (mCall 3 S__law_world (mCons (mVar 2) (mCons (mC (.int 3)) (mCons (mBin gAdd (mC (.int 2)) (mCall 2 S__law_take (mCons (mVar 2) (mCons (mC (.int 2)) mNil)))) mNil))))) (r_law_2 S__law_calls_all S__law_refused S_exchanged S__law_other))
def r_law_0 (S__law_hand : FSpec) (S__law_world : FSpec) (S__law_take : FSpec) (S__law_calls_all : FSpec) (S__law_refused : FSpec) (S_exchanged : FSpec) (S__law_other : FSpec) : SM := (mSeq (mSet 2 (mCall 2 S__law_hand (mCons (mVar 0) (mCons (mVar 1) mNil)))) (r_law_1 S__law_world S__law_take S__law_calls_all S__law_refused S_exchanged S__law_other))
def r_law_12 : SM := (mRet (mC (.bl true)))
def r_law (S__law_hand : FSpec) (S__law_world : FSpec) (S__law_take : FSpec) (S__law_calls_all : FSpec) (S__law_refused : FSpec) (S_exchanged : FSpec) (S__law_other : FSpec) : SM := (mSeq (mFor (mRng1 (mCons (mArg gMax2 (mCons (mC (.int 2)) (mCons (mArg gMin2 (mCons (mC (.int 6)) (mCons (mArg gLen (mCons (mPeek 0) mNil)) mNil))) mNil))) mNil)) (tgN 1) (r_law_0 S__law_hand S__law_world S__law_take S__law_calls_all S__law_refused S_exchanged S__law_other)) (r_law_12))
abbrev N_law : List Str := ["_law_script", "_law_k", "_law_hand_here", "_law_world_here", "_law_kept", "_law_at", "_law_room_here", "_law_told"]
def isAllR : Row → Bool
  | .all _ => true
  | _ => false
def allB (ds : List Deed) : Bool := ds.any fun d => d.2.any isAllR
theorem row_all (row : Row) : ∃ x, gIx row.pv (.int 0) = some (.str x) ∧ decide (x = "all") = isAllR row := by cases row <;> exact ⟨_, rfl, rfl⟩
theorem bls_map {α : Type} (f : α → Bool) : ∀ l : List α, bls (l.map fun x => PV.bl (f x)) = some (l.map f)
  | [] => rfl
  | a :: l => by rw [List.map_cons, bls, bls_map f l]; rfl
theorem gAny_map {α : Type} (f : α → Bool) (l : List α) : gAny [.lst (l.map fun x => PV.bl (f x))] = some (.bl (l.any f)) := by
  unfold gAny
  simp only [bls_map, Option.map_some]
  congr 2
  induction l with
  | nil => rfl
  | cons a l ih => simp only [List.map_cons, List.any_cons, ih]; rfl
theorem drow (et : Hi) (row : Row) : deref et row.pv = row.pv := by cases row <;> rfl
def spHasAll : FSpec := fun args et R => ∃ ds : List Deed, args = [.tup (ds.map deedPV)] ∧ ds.length ≤ 6 ∧ (∀ d ∈ ds, d.2.length ≤ 30) ∧ R (.bl (allB ds)) et
theorem has_all_ok (args : List PV) (et : Hi) (R : PV → Hi → Prop) (h : spHasAll args et R) : r_has_all (env0 N_has_all args) et (retK R) := by
  obtain ⟨ds, rfl, hl, hd, hR⟩ := h
  show r_has_all [.val (.tup (ds.map deedPV)), .no, .no, .no] et (retK R)
  have big : (2000 : Nat) ≤ sizeLine := by decide
  unfold r_has_all
  simp!
  refine ⟨_, rfl, ?_⟩
  refine lc_map deedPV (fun d => .bl (d.2.any isAllR)) rfl (by omega) (fun d hm => ⟨_, rfl, fun Q hQ => ?_⟩) ?_
  · simp!
    refine ⟨_, rfl, ?_⟩
    refine lc_map Row.pv (fun row => .bl (isAllR row)) rfl (by have := hd d hm; omega) (fun row hr => ⟨_, rfl, fun Q2 hQ2 => ?_⟩) ?_
    · obtain ⟨x, h1, h2⟩ := row_all row
      unfold gIx at h1
      simp!
      refine ⟨.str x, by rw [drow]; exact h1, .bl (isAllR row), ?_, hQ2⟩
      rw [← h2]
      rfl
    · simp! [gAny_map]
      exact hQ
  · simp! [gAny_map]
    exact hR
def allRows (ds : List Deed) : List Row := ds.flatMap fun d => d.2.filter isAllR
theorem allRows_empty (ds : List Deed) : (!(allRows ds).isEmpty) = allB ds := by
  unfold allRows allB
  induction ds with
  | nil => rfl
  | cons d ds ih =>
    rw [List.flatMap_cons, List.any_cons, ← ih]
    have : (!(d.2.filter isAllR).isEmpty) = d.2.any isAllR := by
      induction d.2 with
      | nil => rfl
      | cons a l ih2 =>
        rw [List.filter_cons, List.any_cons]
        cases isAllR a <;> simp [← ih2]
    rw [← this]
    cases (d.2.filter isAllR) <;> simp
theorem allRows_len : ∀ ds : List Deed, (∀ d ∈ ds, d.2.length ≤ 30) → (allRows ds).length ≤ 30 * ds.length
  | [], _ => by simp [allRows]
  | d :: ds, h => by
    have ih := allRows_len ds fun x hx => h x (List.mem_cons_of_mem _ hx)
    have h1 := h d List.mem_cons_self
    have hf : (d.2.filter isAllR).length ≤ d.2.length := List.length_filter_le _ _
    unfold allRows at ih ⊢
    rw [List.flatMap_cons, List.length_append, List.length_cons]
    omega
theorem _root_.Cw.RoomOk.gn {gs : List (Str × Str)} {rm : Rm} (h : RoomOk gs rm) : ∀ x ∈ rm.ts ++ [("given" : Str)], isWord x = true := fun x hx => by
  rcases List.mem_append.mp hx with hx | hx
  · exact h.tw x hx
  · rw [List.mem_singleton.mp hx]; decide +kernel
theorem _root_.Cw.RoomOk.gs2 {gs : List (Str × Str)} {rm : Rm} (h : RoomOk gs rm) (hg : gsWords gs) : gsWords (gs ++ rm.goals) := fun g hx => by
  rcases List.mem_append.mp hx with hx | hx
  · exact hg g hx
  · obtain ⟨d, hd, rfl⟩ := List.mem_map.mp hx
    exact ⟨h.nm, h.dw d hd⟩
def spCalls : FSpec := fun args et R => ∃ gs rm, args = [Rm.pv rm] ∧ RoomOk gs rm ∧ gsWords gs ∧ R (.bl (allB rm.deeds)) et
theorem calls_ok (args : List PV) (et : Hi) (R : PV → Hi → Prop) (h : spCalls args et R) : r__law_calls_all (env0 N__law_calls_all args) et (retK R) := by
  obtain ⟨gs, rm, rfl, ok, hg, hR⟩ := h
  show r__law_calls_all [.val rm.pv, .no, .no, .no, .no] et (retK R)
  have big : (2000 : Nat) ≤ sizeLine := by decide
  unfold r__law_calls_all
  simp!
  unfold r__law_calls_all_0
  simp! [Rm.pv]
  refine ⟨by omega, _, rfl, ?_⟩
  refine ⟨fun j ep et1 => et1 = et ∧ j ≤ rm.deeds.length ∧ ∃ s2 s3 s4 : Mw.Slot, ep = [.val (.tup [.str rm.name, .str (mnS rm.free), .tup (rm.things.map pairPV), .tup (rm.bells.map bellPV), .tup (rm.deeds.map deedPV)]), .own (.lst ((allRows (rm.deeds.take j)).map Row.pv)), s2, s3, s4], ⟨rfl, Nat.zero_le _, _, _, _, rfl⟩, ?_⟩
  rintro j ep et1 ⟨rfl, hj, s2, s3, s4, rfl⟩
  refine ⟨rfl, fun p hp => ?_, fun e => ?_⟩
  · rw [List.getElem?_map] at hp
    cases hd : rm.deeds[j]? with
    | none => rw [hd] at hp; cases hp
    | some d =>
      rw [hd] at hp
      cases hp
      have hlt := (List.getElem?_eq_some_iff.mp hd).1
      refine ⟨_, rfl, ?_⟩
      unfold r__law_calls_all_1
      simp!
      refine ⟨_, rfl, ?_⟩
      have hdm := List.mem_of_getElem? hd
      obtain ⟨b1, b2, b3⟩ := ok.rows d hdm
      refine Fl.lc_sel Row.pv Row.pv isAllR rfl (by omega) (fun row hr => ⟨_, rfl, fun Q hQ => ?_, fun hk Q hQ => ?_⟩) ?_
      · obtain ⟨x, h1, h2⟩ := row_all row
        unfold gIx at h1
        simp!
        refine ⟨.str x, by rw [drow]; exact h1, isAllR row, ?_, hQ⟩
        rw [← h2]
        rfl
      · simp!
        exact hQ
      · have ha : (allRows (rm.deeds.take j)).length ≤ 30 * (rm.deeds.take j).length := allRows_len _ fun d hd => (ok.rows d (List.mem_of_mem_take hd)).2.1
        have hb : (rm.deeds.take j).length ≤ 6 := Nat.le_trans (List.length_take_le _ _) (by have := ok.dl; omega)
        have et' : allRows (rm.deeds.take (j + 1)) = allRows (rm.deeds.take j) ++ d.2.filter isAllR := by
          unfold allRows
          rw [List.take_succ, hd]
          simp
        have hf : (d.2.filter isAllR).length ≤ d.2.length := List.length_filter_le _ _
        refine ⟨.lst ((allRows (rm.deeds.take (j + 1))).map Row.pv), .non, ?_, rfl, hlt, _, _, _, rfl⟩
        unfold gmExtend
        simp only [deref_lst]
        rw [if_pos (by rw [List.length_map, List.length_map]; omega), et', List.map_append]
  · rw [List.length_map] at e
    subst e
    rw [List.take_length]
    show r__law_calls_all_2 _ _ _
    unfold r__law_calls_all_2
    have gn : gNe (.lst ((allRows rm.deeds).map Row.pv)) (.lst []) = some (.bl (allB rm.deeds)) := by
      rw [← allRows_empty]
      have hdk : doks ((allRows rm.deeds).map Row.pv) = true ∧ dpts ((allRows rm.deeds).map Row.pv) ≤ 7 := doks_map _ fun row hr => by
        obtain ⟨d, hd, hr2⟩ := List.mem_flatMap.mp hr
        obtain ⟨b1, b2, b3⟩ := ok.rows d hd
        exact dok_rowE (ok.gn) ok.tw ok.bw (ok.gs2 hg) row (b3 row (List.mem_filter.mp hr2).1)
      rw [gNe_nil hdk.1 (by omega)]
      cases allRows rm.deeds <;> rfl
    simp! [gn]
    exact ⟨by omega, hR⟩
def flip (rm : Rm) : Rm := { rm with free := !rm.free }
theorem flip_flip (rm : Rm) : flip (flip rm) = rm := by cases rm; simp [flip]
def exch (w : Wld) (k : Nat) (rm : Rm) : Wld := { w with rooms := w.rooms.set k (flip rm) }
theorem exch_exch {w : Wld} {k : Nat} {rm : Rm} (h : w.rooms[k]? = some rm) : exch (exch w k rm) k (flip rm) = w := by
  unfold exch
  obtain ⟨hlt, e⟩ := List.getElem?_eq_some_iff.mp h
  have : (w.rooms.set k (flip rm)).set k (flip (flip rm)) = w.rooms := by
    rw [List.set_set, flip_flip, ← e, List.set_getElem_self]
  simp only [this]
theorem sl_takeT (xs : List PV) (n : Nat) : gSlA (.tup xs) none (some (n : Int)) = some (.tup (xs.take n)) := by
  show some (PV.tup (cutP xs none (some (n : Int)))) = _
  unfold cutP
  rw [HT.sIx_nat, HT.sIx_none]
  congr 2
  rw [List.drop_zero, Nat.sub_zero]
  by_cases h : n ≤ xs.length
  · rw [Nat.min_eq_left h]
  · rw [Nat.min_eq_right (by omega), List.take_length, List.take_of_length_le (by omega)]
theorem sl_dropT (xs : List PV) (n : Nat) : gSlA (.tup xs) (some (n : Int)) none = some (.tup (xs.drop n)) := by
  show some (PV.tup (cutP xs (some (n : Int)) none)) = _
  unfold cutP
  rw [HT.sIx_nat, HT.sIx_none]
  congr 2
  by_cases h : n ≤ xs.length
  · rw [Nat.min_eq_left h]
    exact List.take_of_length_le (by rw [List.length_drop]; exact Nat.le_refl _)
  · rw [Nat.min_eq_right (by omega), List.drop_eq_nil_of_le (Nat.le_refl _), List.drop_eq_nil_of_le (by omega)]; simp
theorem exch_pv {w : Wld} {k : Nat} {rm : Rm} (h : w.rooms[k]? = some rm) : (exch w k rm).pv = .tup [.tup ((w.rooms.map Rm.pv).take k ++ [(flip rm).pv] ++ (w.rooms.map Rm.pv).drop (k + 1)), .tup (w.passes.map pairPV), .tup (w.shared.map pairPV), .tup (w.hands.map handPV)] := by
  have hlt := (List.getElem?_eq_some_iff.mp h).1
  unfold exch Wld.pv
  simp only []
  congr 3
  rw [List.set_eq_take_append_cons_drop, if_pos hlt, List.map_append, List.map_cons, List.map_take, List.map_drop]
  simp
structure ExOk (w : Wld) (k : Nat) (rm : Rm) : Prop where
  at_ : w.rooms[k]? = some rm
  l : w.rooms.length ≤ 6
  dl : rm.deeds.length ≤ 6
  d30 : ∀ d ∈ rm.deeds, d.2.length ≤ 30
theorem ExOk.flip {w : Wld} {k : Nat} {rm : Rm} (h : ExOk w k rm) : ExOk (exch w k rm) k (flip rm) := by
  obtain ⟨hlt, e⟩ := List.getElem?_eq_some_iff.mp h.at_
  exact ⟨List.getElem?_set_self hlt, by show (w.rooms.set k _).length ≤ 6; rw [List.length_set]; exact h.l, h.dl, h.d30⟩
def spExch : FSpec := fun args et R => ∃ w k rm, args = [Wld.pv w, .int (k : Nat)] ∧ ExOk w k rm ∧ allB rm.deeds = false ∧ R (exch w k rm).pv et
theorem others (b : Bool) : tb_OTHERS.lookup (mnS b) = some (mnS !b) := by cases b <;> rfl
theorem exch_ok (args : List PV) (et : Hi) (R : PV → Hi → Prop) (h : spExch args et R) : r_exchanged spHasAll (env0 N_exchanged args) et (retK R) := by
  obtain ⟨w, k, rm, rfl, ok, ha, hR⟩ := h
  show r_exchanged _ [.val w.pv, .val (.int k), .no, .no, .no, .no, .no, .no, .no, .no, .no, .no] et (retK R)
  have big : (2000 : Nat) ≤ sizeLine := by decide
  have gx : atI (w.rooms.map Rm.pv) (k : Int) = some rm.pv := atI_nat (by rw [List.getElem?_map, ok.at_]; rfl)
  unfold r_exchanged
  simp! [Wld.pv]
  refine ⟨_, rfl, ?_⟩
  unfold r_exchanged_0
  simp! [gx, Rm.pv]
  refine ⟨_, rfl, ?_⟩
  unfold r_exchanged_1
  simp!
  refine ⟨rm.deeds, rfl, ok.dl, ok.d30, ?_⟩
  rw [ha]
  simp!
  unfold r_exchanged_3
  simp! [mTabS]
  refine ⟨mnS rm.free, _, rfl, others _, ?_⟩
  unfold r_exchanged_4
  simp!
  have ek : (k : Int) + 1 = ((k + 1 : Nat) : Int) := by omega
  have l1 : ((w.rooms.map Rm.pv).take k).length ≤ 6 := Nat.le_trans (List.length_take_le' _ _) (by rw [List.length_map]; exact ok.l)
  have l2 : ((w.rooms.map Rm.pv).drop (k + 1)).length ≤ 6 := by rw [List.length_drop, List.length_map]; have := ok.l; omega
  refine ⟨by omega, _, sl_takeT _ k, by omega, .tup ((w.rooms.map Rm.pv).take k ++ [(flip rm).pv]), if_pos (by simp only [List.length_cons, List.length_nil]; omega), .tup ((w.rooms.map Rm.pv).drop (k + 1)), by rw [ek]; exact sl_dropT _ (k + 1),
    .tup ((w.rooms.map Rm.pv).take k ++ [(flip rm).pv] ++ (w.rooms.map Rm.pv).drop (k + 1)), if_pos (by rw [List.length_append]; simp only [List.length_cons, List.length_nil]; omega), by omega, ?_⟩
  rw [exch_pv ok.at_] at hR
  exact hR
def spExchX : XSpec := fun args et R RX => ∃ w k rm, args = [Wld.pv w, .int (k : Nat)] ∧ ExOk w k rm ∧ allB rm.deeds = true ∧ RX "NoManner" [] et
theorem exchX_ok (args : List PV) (et : Hi) (R : PV → Hi → Prop) (RX : RXT) (h : spExchX args et R RX) : r_exchanged_X spHasAll (env0 N_exchanged_X args) et (retK R) RX := by
  obtain ⟨w, k, rm, rfl, ok, ha, hR⟩ := h
  show r_exchanged_X _ [.val w.pv, .val (.int k), .no, .no, .no, .no, .no, .no, .no, .no, .no, .no] et (retK R) RX
  have gx : atI (w.rooms.map Rm.pv) (k : Int) = some rm.pv := atI_nat (by rw [List.getElem?_map, ok.at_]; rfl)
  unfold r_exchanged_X
  simp! [mSeqX, mIfX, mLiftX, mNextX, mRaise0, mRaise1, mForX, forGoX, mTryC, mExprE, mCallE, mAsgE, mRetE, Wld.pv]
  refine ⟨_, rfl, ?_⟩
  unfold r_exchanged_X_0
  simp! [mSeqX, mIfX, mLiftX, mNextX, mRaise0, mRaise1, mForX, forGoX, mTryC, mExprE, mCallE, mAsgE, mRetE, gx, Rm.pv]
  refine ⟨_, rfl, ?_⟩
  unfold r_exchanged_X_1
  simp! [mSeqX, mIfX, mLiftX, mNextX, mRaise0, mRaise1, mForX, forGoX, mTryC, mExprE, mCallE, mAsgE, mRetE]
  refine ⟨rm.deeds, rfl, ok.dl, ok.d30, ?_⟩
  rw [ha]
  simp!
  unfold r_exchanged_X_2
  simp! [mSeqX, mIfX, mLiftX, mNextX, mRaise0, mRaise1, mForX, forGoX, mTryC, mExprE, mCallE, mAsgE, mRetE]
  exact hR
def spRefJ : FSpec := fun args et R => ∃ w k rm, args = [Wld.pv w, .int (k : Nat)] ∧ (∀ d ∈ et, belC et.length d) ∧ ExOk w k rm ∧ allB rm.deeds = true ∧ ∀ junk, R (.bl true) (et ++ junk)
def spRef : FSpec := fun args et R => ∃ w k rm, args = [Wld.pv w, .int (k : Nat)] ∧ (∀ d ∈ et, belC et.length d) ∧ ExOk w k rm ∧ allB rm.deeds = true ∧ R (.bl true) et
theorem ref_imp {K : PySem.W.Frag} {mg : Str → Option Value} {vs : List V} {H : Hp} {Q : VK} {E : XK} (h : FS K mg 2 spRef vs H Q E) : FS K mg 2 spRefJ vs H Q E :=
  gc_imp h fun args et R ⟨w, k, rm, e, hb, ok, ha, hR⟩ => ⟨hb, w, k, rm, e, hb, ok, ha, fun junk => ⟨junk, rfl, rfl, hR⟩⟩
theorem refJ_ok (args : List PV) (et : Hi) (R : PV → Hi → Prop) (h : spRefJ args et R) : r__law_refused spExchX (env0 N__law_refused args) et (retK R) := by
  obtain ⟨w, k, rm, rfl, hb, ok, ha, hR⟩ := h
  show r__law_refused _ [.val w.pv, .val (.int k), .no, .no] et (retK R)
  unfold r__law_refused
  simp!
  unfold r__law_refused_0
  simp! [mSeqX, mIfX, mLiftX, mNextX, mRaise0, mRaise1, mForX, forGoX, mTryC, mExprE, mCallE, mAsgE, mRetE]
  refine ⟨w, k, rm, rfl, ok, ha, by simp, by simp, ?_⟩
  have he : (et ++ [Cell.exc "NoManner" []])[et.length]? = some (.exc "NoManner" []) := by simp
  have isi : ∀ (b : Bool) (ep : En) (R : PV → Hi → Prop), ep[2]? = some (.val (.ref et.length)) → R (.bl b) (et ++ [Cell.exc "NoManner" []]) → mIsiE false [("NoManner", b)] (mVar 2) ep (et ++ [Cell.exc "NoManner" []]) R := fun b ep R h0 h => by
    unfold mIsiE mVar
    exact ⟨_, by rw [h0], .inr ⟨et.length, "NoManner", _, b, rfl, he, rfl, h⟩⟩
  unfold r__law_refused_1
  simp!
  unfold r__law_refused_2
  simp!
  refine isi false _ _ rfl ?_
  simp!
  unfold r__law_refused_4
  simp!
  refine isi true _ _ rfl ?_
  simp!
  refine isi true _ _ rfl ?_
  exact hR _
def spOther : FSpec := fun args et R => ∃ w k rm, args = [Wld.pv w, .int (k : Nat)] ∧ ExOk w k rm ∧ R (exch w k rm).pv et
theorem other_ok (args : List PV) (et : Hi) (R : PV → Hi → Prop) (h : spOther args et R) : r__law_other (env0 N__law_other args) et (retK R) := by
  obtain ⟨w, k, rm, rfl, ok, hR⟩ := h
  show r__law_other [.val w.pv, .val (.int k), .no, .no, .no, .no] et (retK R)
  have big : (2000 : Nat) ≤ sizeLine := by decide
  unfold r__law_other
  simp!
  unfold r__law_other_0
  simp!
  refine ⟨by omega, .tup (w.rooms.map Rm.pv), rfl, _, _, rfl, .inr rfl, ?_⟩
  have hlt := (List.getElem?_eq_some_iff.mp ok.at_).1
  have hget : ∀ (j : Nat) (r : Rm), w.rooms[j]? = some r → (exch w k rm).rooms[j]? = some (if (j : Int) = (k : Int) then flip r else r) := fun j r e => by
    show (w.rooms.set k (flip rm))[j]? = _
    by_cases hj : j = k
    · subst hj
      rw [ok.at_] at e; cases e
      rw [List.getElem?_set_self hlt, if_pos rfl]
    · rw [List.getElem?_set_ne (Ne.symm hj), e, if_neg (by omega)]
  have hlen2 : (exch w k rm).rooms.length = w.rooms.length := by show (w.rooms.set k _).length = _; rw [List.length_set]
  refine ⟨fun j ep et1 => et1 = et ∧ j ≤ w.rooms.length ∧ ∃ s3 s4 s5 : Mw.Slot, ep = [.val w.pv, .val (.int k), .own (.lst (((exch w k rm).rooms.take j).map Rm.pv)), s3, s4, s5], ⟨rfl, Nat.zero_le _, _, _, _, rfl⟩, ?_⟩
  rintro j ep et1 ⟨rfl, hj, s3, s4, s5, rfl⟩
  have hlen : (enumP (w.rooms.map Rm.pv)).length = w.rooms.length := by unfold enumP; simp
  refine ⟨rfl, fun p hp => ?_, fun e => ?_⟩
  · obtain ⟨x, hx, rfl⟩ := enumP_get hp
    rw [List.getElem?_map] at hx
    cases hr : w.rooms[j]? with
    | none => rw [hr] at hx; cases hx
    | some r =>
      rw [hr] at hx
      cases hx
      have hjl := (List.getElem?_eq_some_iff.mp hr).1
      have hg := hget j r hr
      have et' : (exch w k rm).rooms.take (j + 1) = (exch w k rm).rooms.take j ++ [if (j : Int) = (k : Int) then flip r else r] := by rw [List.take_succ, hg]; rfl
      have hb : (((exch w k rm).rooms.take j).map Rm.pv).length ≤ 6 := by rw [List.length_map]; exact Nat.le_trans (List.length_take_le' _ _) (by rw [hlen2]; exact ok.l)
      have ga : ∀ d (q : Rm), gmAppend d (.lst (((exch w k rm).rooms.take j).map Rm.pv)) [q.pv] = some (.lst (((exch w k rm).rooms.take j ++ [q]).map Rm.pv), .non) := fun d q => by
        unfold gmAppend
        simp only []
        rw [if_pos (by omega), List.map_append]
        rfl
      refine ⟨_, rfl, ?_⟩
      unfold r__law_other_1
      simp! [Rm.pv]
      unfold r__law_other_2
      have gq : gEq (.int (j : Int)) (.int (k : Int)) = some (.bl (decide ((j : Int) = (k : Int)))) := rfl
      simp! [gq]
      have fin : ∀ (b : Bool) (Q : Mw.Fl → En → Hi → Prop), (∀ s3 s4 s5 : Mw.Slot, Q .nx [.val w.pv, .val (.int k), .own (.lst (((exch w k rm).rooms.take j ++ [{ r with free := b }]).map Rm.pv)), s3, s4, s5] et1) →
          r__law_other_4 [.val w.pv, .val (.int k), .own (.lst (((exch w k rm).rooms.take j).map Rm.pv)), .val (.int j), .val (.tup [.str r.name, .str (mnS r.free), .tup (r.things.map pairPV), .tup (r.bells.map bellPV), .tup (r.deeds.map deedPV)]), .val (.str (mnS b))] et1 Q := fun b Q hQ => by
        unfold r__law_other_4
        simp!
        have ga2 := fun d => ga d { r with free := b }
        simp only [Rm.pv] at ga2
        refine ⟨by omega, _, _, ga2 _, ?_⟩
        exact hQ _ _ _
      by_cases hjk : (j : Int) = (k : Int)
      · rw [if_pos (decide_eq_true hjk)]
        unfold r__law_other_3
        have g1 : gEq (.str (mnS r.free)) (.str "at once") = some (.bl (!r.free)) := by cases r.free <;> rfl
        have g2 : gInt [.bl (!r.free)] = some (.int (if r.free then 0 else 1)) := by cases r.free <;> rfl
        have g3 : atI [PV.str "at once", PV.str "when free"] (if r.free then 0 else 1) = some (.str (mnS !r.free)) := by cases r.free <;> rfl
        simp! [g1, g2, g3]
        refine ⟨by omega, ?_⟩
        refine fin (!r.free) _ fun s3 s4 s5 => ⟨rfl, hjl, s3, s4, s5, ?_⟩
        rw [et', if_pos hjk]
        rfl
      · rw [if_neg (by simpa using hjk)]
        refine fin r.free _ fun s3 s4 s5 => ⟨rfl, hjl, s3, s4, s5, ?_⟩
        rw [et', if_neg hjk]
  · rw [hlen] at e
    subst e
    have e2 : (exch w k rm).rooms.take w.rooms.length = (exch w k rm).rooms := by rw [← hlen2, List.take_length]
    rw [e2]
    show r__law_other_5 _ _ _
    unfold r__law_other_5
    have gt : ∀ l, gTuple [.lst l] = some (.tup l) := fun _ => rfl
    simp! [gt, Wld.pv]
    exact ⟨by omega, hR⟩
theorem roomOk_flip {gs : List (Str × Str)} {rm : Rm} (h : RoomOk gs rm) : RoomOk gs (flip rm) := ⟨h.nm, h.tw, h.tn, h.tv, h.bw, h.bn, h.dw, h.dn, h.d0, h.tl, h.bl, h.dl, h.rows⟩
theorem rep_w {w : Wld} (hw : WorldOk w) : ∃ t, shwP w.pv = some t := shw_world (rs := w.rooms) hw (fun rm hr => sh_room (okG_of hw.rooms.ok) (hw.rooms.ok rm hr)) hw.rl
theorem rep_exch {w : Wld} {k : Nat} {rm : Rm} (hw : WorldOk w) (h : w.rooms[k]? = some rm) : ∃ t, shwP (exch w k rm).pv = some t := by
  refine shw_world (rs := w.rooms.set k (flip rm)) hw (fun r hr => ?_) (by rw [List.length_set]; exact hw.rl)
  have hg : gsWords (goalsOf w.rooms) := okG_of hw.rooms.ok
  rcases List.mem_or_eq_of_mem_set hr with hr | rfl
  · exact sh_room hg (hw.rooms.ok r hr)
  · exact sh_room hg (roomOk_flip (hw.rooms.ok rm (List.mem_of_getElem? h)))
theorem exOk_of {w : Wld} {k : Nat} {rm : Rm} (hw : WorldOk w) (h : w.rooms[k]? = some rm) : ExOk w k rm := by
  have ok := hw.rooms.ok rm (List.mem_of_getElem? h)
  exact ⟨h, hw.rl, ok.dl, fun d hd => (ok.rows d hd).2.1⟩
theorem rp {p : PV} {t : Str} (h : shwP p = some t) : gReprD [p] = some (.str t) := by
  show Option.map PV.str (shwP p) = _
  rw [h]
  rfl
theorem law_ok (args : List PV) (et : Hi) (R : PV → Hi → Prop) (h : spLaw args et R) : r_law (spNew 2 (PF 0) okPot) spWdF spTkF spCalls spRef spExch spOther (env0 N_law args) et (retK R) := by
  obtain ⟨ns, rfl, hl, rfl, hR⟩ := h
  show r_law _ _ _ _ _ _ _ [.val (.scr ns), .no, .no, .no, .no, .no, .no, .no] _ (retK R)
  have big : (2000 : Nat) ≤ sizeLine := by decide
  unfold r_law
  have hlen : gLen [.scr ns] = some (.int ns.length) := rfl
  have hmin : gMin2 [.int 6, .int ns.length] = some (.int (min 6 ns.length : Nat)) := by
    unfold gMin2
    simp only []
    split <;> (congr 2; omega)
  have hmax : gMax2 [.int 2, .int (min 6 ns.length : Nat)] = some (.int (max 2 (min 6 ns.length) : Nat)) := by
    unfold gMax2
    simp only []
    split <;> (congr 2; omega)
  simp! [hlen, hmin, hmax]
  refine ⟨(max 2 (min 6 ns.length) : Nat), rfl, by omega, by omega, fun i ep et1 => ∃ (s1 s2 s3 s4 s5 s6 s7 : Mw.Slot), ep = [.val (.scr ns), s1, s2, s3, s4, s5, s6, s7] ∧ et1.length = i ∧ ∀ d ∈ et1, ∃ n, d = potF n, ⟨_, _, _, _, _, _, _, rfl, rfl, fun d hd => by cases hd⟩, ?_⟩
  rintro i ep et1 ⟨s1, s2, s3, s4, s5, s6, s7, rfl, hlen1, hpots⟩
  refine ⟨rfl, fun p hp => ⟨_, rfl, ?_⟩, fun e => ?_⟩
  · obtain ⟨rfl, hi⟩ := Dw.rng_at hp
    unfold r_law_0
    simp!
    refine ⟨⟨ns, i, rfl, by omega⟩, rfl, ?_⟩
    have hpf : et1 ++ [potP (PF 0)] = pf (et1 ++ [potF 0]) i 0 := by
      unfold pf
      rw [← hlen1, List.set_append_right _ _ (Nat.le_refl _), Nat.sub_self]; rfl
    rw [hpf, hlen1]
    have hr : i < (et1 ++ [potF 0]).length := by rw [List.length_append, List.length_singleton, hlen1]; omega
    have hbel : ∀ d ∈ et1 ++ [potF 0], belC (et1 ++ [potF 0]).length d := fun d hd => by
      rcases List.mem_append.mp hd with hd | hd
      · obtain ⟨n, rfl⟩ := hpots d hd; trivial
      · rw [List.mem_singleton.mp hd]; trivial
    have done : ∀ n, (pf (et1 ++ [potF 0]) i n).length = i + 1 ∧ ∀ d ∈ pf (et1 ++ [potF 0]) i n, ∃ n, d = potF n := fun n => by
      refine ⟨by rw [pf_len, List.length_append, List.length_singleton, hlen1], fun d hd => ?_⟩
      rcases List.mem_or_eq_of_mem_set hd with hd | rfl
      · rcases List.mem_append.mp hd with hd | hd
        · exact hpots d hd
        · exact ⟨0, List.mem_singleton.mp hd⟩
      · exact ⟨n, rfl⟩
    generalize et1 ++ [potF 0] = E at *
    unfold r_law_1
    simp!
    refine tk hr (by decide) (by decide) (by decide) fun d d0 d1 => ?_
    simp!
    refine ⟨i, 3, (2 + d).toNat, E, _, by rw [Int.toNat_of_nonneg (by omega)]; rfl, rfl, hr, by decide, by decide, by decide, by omega, by omega, fun w m hm0 hm hw => ?_⟩
    have ok := hw.ok
    have dn := done m
    have hbel2 : ∀ d ∈ pf E i m, belC (pf E i m).length d := fun d hd => by
      obtain ⟨n, rfl⟩ := (done m).2 d hd
      trivial
    generalize pf E i m = E2 at *
    obtain ⟨t, ht⟩ := rep_w ok
    have hrep := rp ht
    have dw : ∀ (et : Hi) (w : Wld), deref et w.pv = w.pv := fun _ _ => rfl
    unfold r_law_2
    simp! [dw, hrep]
    unfold r_law_3
    simp!
    refine ⟨.tup (w.rooms.map Rm.pv), rfl, _, _, rfl, .inr rfl, ?_⟩
    refine ⟨fun j ep et2 => et2 = E2 ∧ ∃ (s5 s6 s7 : Mw.Slot), ep = [.val (.scr ns), .val (.int i), .val (.ref i), .val w.pv, .val (.str t), s5, s6, s7], ⟨rfl, _, _, _, rfl⟩, ?_⟩
    rintro j ep et2 ⟨rfl, t5, t6, t7, rfl⟩
    refine ⟨rfl, fun p hp2 => ?_, fun e => ?_⟩
    · obtain ⟨x, hx, rfl⟩ := enumP_get hp2
      rw [List.getElem?_map] at hx
      cases hrm : w.rooms[j]? with
      | none => rw [hrm] at hx; cases hx
      | some rm =>
        rw [hrm] at hx
        cases hx
        have exk := exOk_of ok hrm
        have rok := ok.rooms.ok rm (List.mem_of_getElem? hrm)
        refine ⟨_, rfl, ?_⟩
        unfold r_law_4
        simp!
        refine ⟨_, rm, rfl, rok, okG_of ok.rooms.ok, ?_⟩
        cases ha : allB rm.deeds with
        | true =>
          simp!
          unfold r_law_5
          simp!
          refine ⟨w, j, rm, rfl, hbel2, exk, ha, ?_⟩
          simp!
          exact ⟨_, _, _, rfl⟩
        | false =>
          simp!
          unfold r_law_7
          simp!
          refine ⟨w, j, rm, rfl, exk, ha, ?_⟩
          unfold r_law_8
          obtain ⟨t2, ht2⟩ := rep_exch ok hrm
          have hrep2 := rp ht2
          simp! [dw, hrep2]
          refine ⟨w, j, rm, rfl, exk, ?_⟩
          simp! [dw, hrep2]
          rw [if_neg (by simp)]
          refine ⟨exch w j rm, j, flip rm, rfl, exk.flip, ha, ?_⟩
          rw [exch_exch hrm]
          refine ⟨.str t, by rw [dw]; exact hrep, false, ?_, ?_⟩
          · show gNe (.str t) (.str t) = _
            rw [gNe_str]
            simp
          · rw [if_neg (by simp)]
            exact ⟨rfl, _, _, _, rfl⟩
    · show r_law_10 _ _ _
      unfold r_law_10
      simp! [dw, hrep]
      rw [if_neg (by simp)]
      exact ⟨_, _, _, _, _, _, _, rfl, dn⟩
  · unfold r_law_12
    simp!
    exact hR _
end Q65
namespace K65
open PySem L2 Mw PyProof.Rows
def topS (i : Nat) : Stmt := PySem.Challenge.pw_calledroom_k65_rooms_of_the_other_manner.main.body.getD i (.Pass ⟨0, 0, 0, 0⟩)
abbrev tb_OTHERS : List (Str × Str) := [("at once", "when free"), ("when free", "at once")]
abbrev s_has_all : Stmt := topS 10
theorem sc_has_all : FnScope ["deeds", "word", "program", "row"] ["deeds"] (defScope s_has_all) := ⟨rfl, rfl, rfl, by decide +kernel, rfl, by decide +kernel, by decide +kernel⟩
abbrev s_exchanged : Stmt := topS 11
theorem sc_exchanged : FnScope ["world", "room", "rooms", "passes", "opened", "hands", "name", "manner", "things", "bells", "deeds", "other"] ["world", "room"] (defScope s_exchanged) := ⟨rfl, rfl, rfl, by decide +kernel, rfl, by decide +kernel, by decide +kernel⟩
abbrev s__law_hand : Stmt := topS 13
theorem sc__law_hand : FnScope ["_law_script", "_law_k", "_law_cell"] ["_law_script", "_law_k"] (defScope s__law_hand) := ⟨rfl, rfl, rfl, by decide +kernel, rfl, by decide +kernel, by decide +kernel⟩
abbrev s__law_take : Stmt := topS 14
theorem sc__law_take : FnScope ["_law_hand_here", "_law_many", "_law_digit", "_law_mixed"] ["_law_hand_here", "_law_many"] (defScope s__law_take) := ⟨rfl, rfl, rfl, by decide +kernel, rfl, by decide +kernel, by decide +kernel⟩
abbrev s__law_pick : Stmt := topS 15
theorem sc__law_pick : FnScope ["_law_hand_here", "_law_some"] ["_law_hand_here", "_law_some"] (defScope s__law_pick) := ⟨rfl, rfl, rfl, by decide +kernel, rfl, by decide +kernel, by decide +kernel⟩
abbrev s__law_names : Stmt := topS 16
theorem sc__law_names : FnScope ["_law_hand_here", "_law_many", "_law_letters", "_law_first", "_law_step", "_law_found", "_law_k"] ["_law_hand_here", "_law_many"] (defScope s__law_names) := ⟨rfl, rfl, rfl, by decide +kernel, rfl, by decide +kernel, by decide +kernel⟩
abbrev s__law_sum : Stmt := topS 17
theorem sc__law_sum : FnScope ["_law_hand_here", "_law_words", "_law_bells", "_law_deep", "_law_way", "_law_word"] ["_law_hand_here", "_law_words", "_law_bells", "_law_deep"] (defScope s__law_sum) := ⟨rfl, rfl, rfl, by decide +kernel, rfl, by decide +kernel, by decide +kernel⟩
abbrev s__law_wait : Stmt := topS 18
theorem sc__law_wait : FnScope ["_law_hand_here", "_law_words", "_law_bells", "_law_at", "_law_bell", "_law_turn", "_law_way", "_law_test", "_law_rows"] ["_law_hand_here", "_law_words", "_law_bells", "_law_at"] (defScope s__law_wait) := ⟨rfl, rfl, rfl, by decide +kernel, rfl, by decide +kernel, by decide +kernel⟩
abbrev s__law_deed : Stmt := topS 19
theorem sc__law_deed : FnScope ["_law_hand_here", "_law_room_here", "_law_later", "_law_many", "_law_manner", "_law_things", "_law_bells", "_law_words", "_law_rows", "_law_k", "_law_way", "_law_word", "_law_name", "_law_deeds", "_law_goal"] ["_law_hand_here", "_law_room_here", "_law_later", "_law_many"] (defScope s__law_deed) := ⟨rfl, rfl, rfl, by decide +kernel, rfl, by decide +kernel, by decide +kernel⟩
abbrev s__law_room : Stmt := topS 20
theorem sc__law_room : FnScope ["_law_hand_here", "_law_name", "_law_later", "_law_manner", "_law_things", "_law_bells", "_law_deeds", "_law_word", "_law_one", "_law_own", "_law_thing", "_law_bell"] ["_law_hand_here", "_law_name", "_law_later"] (defScope s__law_room) := ⟨rfl, rfl, rfl, by decide +kernel, rfl, by decide +kernel, by decide +kernel⟩
abbrev s__law_rooms : Stmt := topS 21
theorem sc__law_rooms : FnScope ["_law_hand_here", "_law_most", "_law_rooms_here", "_law_name", "_law_room_here", "_law_deed_here", "_law_later"] ["_law_hand_here", "_law_most"] (defScope s__law_rooms) := ⟨rfl, rfl, rfl, by decide +kernel, rfl, by decide +kernel, by decide +kernel⟩
abbrev s__law_program : Stmt := topS 22
theorem sc__law_program : FnScope ["_law_hand_here", "_law_rooms_here", "_law_words", "_law_passes", "_law_many", "_law_rows", "_law_k", "_law_way", "_law_room_here", "_law_goal", "_law_deed_here", "_law_word", "_law_at"] ["_law_hand_here", "_law_rooms_here", "_law_words", "_law_passes", "_law_many"] (defScope s__law_program) := ⟨rfl, rfl, rfl, by decide +kernel, rfl, by decide +kernel, by decide +kernel⟩
abbrev s__law_world : Stmt := topS 23
theorem sc__law_world : FnScope ["_law_hand_here", "_law_most", "_law_hands", "_law_rooms_here", "_law_one", "_law_passes", "_law_opened", "_law_made", "_law_k", "_law_own", "_law_program_here", "_law_word"] ["_law_hand_here", "_law_most", "_law_hands"] (defScope s__law_world) := ⟨rfl, rfl, rfl, by decide +kernel, rfl, by decide +kernel, by decide +kernel⟩
abbrev s__law_refused : Stmt := topS 24
theorem sc__law_refused : FnScope ["_law_world_here", "_law_room_here", "_law_caught", "e"] ["_law_world_here", "_law_room_here"] (defScope s__law_refused) := ⟨rfl, rfl, rfl, by decide +kernel, rfl, by decide +kernel, by decide +kernel⟩
abbrev s__law_other : Stmt := topS 25
theorem sc__law_other : FnScope ["_law_world_here", "_law_at", "_law_rooms_here", "_law_k", "_law_room_here", "_law_manner"] ["_law_world_here", "_law_at"] (defScope s__law_other) := ⟨rfl, rfl, rfl, by decide +kernel, rfl, by decide +kernel, by decide +kernel⟩
abbrev s__law_calls_all : Stmt := topS 26
theorem sc__law_calls_all : FnScope ["_law_room_here", "_law_found", "_law_word", "_law_program_here", "_law_row"] ["_law_room_here"] (defScope s__law_calls_all) := ⟨rfl, rfl, rfl, by decide +kernel, rfl, by decide +kernel, by decide +kernel⟩
abbrev s_law : Stmt := topS 27
theorem sc_law : FnScope ["_law_script", "_law_k", "_law_hand_here", "_law_world_here", "_law_kept", "_law_at", "_law_room_here", "_law_told"] ["_law_script"] (defScope s_law) := ⟨rfl, rfl, rfl, by decide +kernel, rfl, by decide +kernel, by decide +kernel⟩
structure Txt (K : PySem.W.Frag) (mg : Str → Option Value) where
  d_has_all : DefT K mg "has_all" s_has_all ["deeds"]
  d_exchanged : DefT K mg "exchanged" s_exchanged ["world", "room"]
  d__law_hand : DefT K mg "_law_hand" s__law_hand ["_law_script", "_law_k"]
  d__law_take : DefT K mg "_law_take" s__law_take ["_law_hand_here", "_law_many"]
  d__law_pick : DefT K mg "_law_pick" s__law_pick ["_law_hand_here", "_law_some"]
  d__law_names : DefT K mg "_law_names" s__law_names ["_law_hand_here", "_law_many"]
  d__law_sum : DefT K mg "_law_sum" s__law_sum ["_law_hand_here", "_law_words", "_law_bells", "_law_deep"]
  d__law_wait : DefT K mg "_law_wait" s__law_wait ["_law_hand_here", "_law_words", "_law_bells", "_law_at"]
  d__law_deed : DefT K mg "_law_deed" s__law_deed ["_law_hand_here", "_law_room_here", "_law_later", "_law_many"]
  d__law_room : DefT K mg "_law_room" s__law_room ["_law_hand_here", "_law_name", "_law_later"]
  d__law_rooms : DefT K mg "_law_rooms" s__law_rooms ["_law_hand_here", "_law_most"]
  d__law_program : DefT K mg "_law_program" s__law_program ["_law_hand_here", "_law_rooms_here", "_law_words", "_law_passes", "_law_many"]
  d__law_world : DefT K mg "_law_world" s__law_world ["_law_hand_here", "_law_most", "_law_hands"]
  d__law_refused : DefT K mg "_law_refused" s__law_refused ["_law_world_here", "_law_room_here"]
  d__law_other : DefT K mg "_law_other" s__law_other ["_law_world_here", "_law_at"]
  d__law_calls_all : DefT K mg "_law_calls_all" s__law_calls_all ["_law_room_here"]
  d_law : DefT K mg "law" s_law ["_law_script"]
  C_RoomError : Addr
  g_RoomError : mg "RoomError" = some (.ref C_RoomError)
  xf_RoomError : ExcF K C_RoomError
  nn_RoomError : PySem.W.subIn K (.type "NoneType") (.ref C_RoomError) = some false
  C_NoStep : Addr
  g_NoStep : mg "NoStep" = some (.ref C_NoStep)
  xf_NoStep : ExcF K C_NoStep
  nn_NoStep : PySem.W.subIn K (.type "NoneType") (.ref C_NoStep) = some false
  C_NoText : Addr
  g_NoText : mg "NoText" = some (.ref C_NoText)
  xf_NoText : ExcF K C_NoText
  nn_NoText : PySem.W.subIn K (.type "NoneType") (.ref C_NoText) = some false
  C_NoManner : Addr
  g_NoManner : mg "NoManner" = some (.ref C_NoManner)
  xf_NoManner : ExcF K C_NoManner
  nn_NoManner : PySem.W.subIn K (.type "NoneType") (.ref C_NoManner) = some false
  C_NoPasses : Addr
  g_NoPasses : mg "NoPasses" = some (.ref C_NoPasses)
  xf_NoPasses : ExcF K C_NoPasses
  nn_NoPasses : PySem.W.subIn K (.type "NoneType") (.ref C_NoPasses) = some false
  C_NoRooms : Addr
  g_NoRooms : mg "NoRooms" = some (.ref C_NoRooms)
  xf_NoRooms : ExcF K C_NoRooms
  nn_NoRooms : PySem.W.subIn K (.type "NoneType") (.ref C_NoRooms) = some false
  C_NoLine : Addr
  g_NoLine : mg "NoLine" = some (.ref C_NoLine)
  xf_NoLine : ExcF K C_NoLine
  nn_NoLine : PySem.W.subIn K (.type "NoneType") (.ref C_NoLine) = some false
  ve_NoManner : PySem.W.subIn K (.ref C_NoManner) (.type "ValueError") = some true
  sb_NoManner_RoomError : PySem.W.subIn K (.ref C_NoManner) (.ref C_RoomError) = some true
  sb_NoManner_NoStep : PySem.W.subIn K (.ref C_NoManner) (.ref C_NoStep) = some false
  sb_NoManner_NoText : PySem.W.subIn K (.ref C_NoManner) (.ref C_NoText) = some false
  sb_NoManner_NoManner : PySem.W.subIn K (.ref C_NoManner) (.ref C_NoManner) = some true
  sb_NoManner_NoPasses : PySem.W.subIn K (.ref C_NoManner) (.ref C_NoPasses) = some false
  sb_NoManner_NoRooms : PySem.W.subIn K (.ref C_NoManner) (.ref C_NoRooms) = some false
  sb_NoManner_NoLine : PySem.W.subIn K (.ref C_NoManner) (.ref C_NoLine) = some false
  e0_NoManner : Exc0 K C_NoManner
  pr : Params
  t_OTHERS : ∀ {w : World}, pr = w.params → TabS K w mg "OTHERS" tb_OTHERS
  z_ValueError : mg "ValueError" = none
  z_any : mg "any" = none
  z_enumerate : mg "enumerate" = none
  z_int : mg "int" = none
  z_isinstance : mg "isinstance" = none
  z_len : mg "len" = none
  z_max : mg "max" = none
  z_min : mg "min" = none
  z_range : mg "range" = none
  z_repr : mg "repr" = none
  z_sorted : mg "sorted" = none
  z_tuple : mg "tuple" = none
section
variable {K : PySem.W.Frag} {mg : Str → Option Value}
abbrev Txt.a_has_all (T : Txt K mg) := T.d_has_all.a
abbrev Txt.f_has_all (T : Txt K mg) := T.d_has_all.f
abbrev Txt.F_has_all (T : Txt K mg) := T.d_has_all.F
abbrev Txt.b_has_all (T : Txt K mg) := T.d_has_all.b
abbrev Txt.m_has_all (T : Txt K mg) := T.d_has_all.m
abbrev Txt.a_exchanged (T : Txt K mg) := T.d_exchanged.a
abbrev Txt.f_exchanged (T : Txt K mg) := T.d_exchanged.f
abbrev Txt.F_exchanged (T : Txt K mg) := T.d_exchanged.F
abbrev Txt.b_exchanged (T : Txt K mg) := T.d_exchanged.b
abbrev Txt.m_exchanged (T : Txt K mg) := T.d_exchanged.m
abbrev Txt.a__law_hand (T : Txt K mg) := T.d__law_hand.a
abbrev Txt.f__law_hand (T : Txt K mg) := T.d__law_hand.f
abbrev Txt.F__law_hand (T : Txt K mg) := T.d__law_hand.F
abbrev Txt.b__law_hand (T : Txt K mg) := T.d__law_hand.b
abbrev Txt.m__law_hand (T : Txt K mg) := T.d__law_hand.m
abbrev Txt.a__law_take (T : Txt K mg) := T.d__law_take.a
abbrev Txt.f__law_take (T : Txt K mg) := T.d__law_take.f
abbrev Txt.F__law_take (T : Txt K mg) := T.d__law_take.F
abbrev Txt.b__law_take (T : Txt K mg) := T.d__law_take.b
abbrev Txt.m__law_take (T : Txt K mg) := T.d__law_take.m
abbrev Txt.a__law_pick (T : Txt K mg) := T.d__law_pick.a
abbrev Txt.f__law_pick (T : Txt K mg) := T.d__law_pick.f
abbrev Txt.F__law_pick (T : Txt K mg) := T.d__law_pick.F
abbrev Txt.b__law_pick (T : Txt K mg) := T.d__law_pick.b
abbrev Txt.m__law_pick (T : Txt K mg) := T.d__law_pick.m
abbrev Txt.a__law_names (T : Txt K mg) := T.d__law_names.a
abbrev Txt.f__law_names (T : Txt K mg) := T.d__law_names.f
abbrev Txt.F__law_names (T : Txt K mg) := T.d__law_names.F
abbrev Txt.b__law_names (T : Txt K mg) := T.d__law_names.b
abbrev Txt.m__law_names (T : Txt K mg) := T.d__law_names.m
abbrev Txt.a__law_sum (T : Txt K mg) := T.d__law_sum.a
abbrev Txt.f__law_sum (T : Txt K mg) := T.d__law_sum.f
abbrev Txt.F__law_sum (T : Txt K mg) := T.d__law_sum.F
abbrev Txt.b__law_sum (T : Txt K mg) := T.d__law_sum.b
abbrev Txt.m__law_sum (T : Txt K mg) := T.d__law_sum.m
abbrev Txt.a__law_wait (T : Txt K mg) := T.d__law_wait.a
abbrev Txt.f__law_wait (T : Txt K mg) := T.d__law_wait.f
abbrev Txt.F__law_wait (T : Txt K mg) := T.d__law_wait.F
abbrev Txt.b__law_wait (T : Txt K mg) := T.d__law_wait.b
abbrev Txt.m__law_wait (T : Txt K mg) := T.d__law_wait.m
abbrev Txt.a__law_deed (T : Txt K mg) := T.d__law_deed.a
abbrev Txt.f__law_deed (T : Txt K mg) := T.d__law_deed.f
abbrev Txt.F__law_deed (T : Txt K mg) := T.d__law_deed.F
abbrev Txt.b__law_deed (T : Txt K mg) := T.d__law_deed.b
abbrev Txt.m__law_deed (T : Txt K mg) := T.d__law_deed.m
abbrev Txt.a__law_room (T : Txt K mg) := T.d__law_room.a
abbrev Txt.f__law_room (T : Txt K mg) := T.d__law_room.f
abbrev Txt.F__law_room (T : Txt K mg) := T.d__law_room.F
abbrev Txt.b__law_room (T : Txt K mg) := T.d__law_room.b
abbrev Txt.m__law_room (T : Txt K mg) := T.d__law_room.m
abbrev Txt.a__law_rooms (T : Txt K mg) := T.d__law_rooms.a
abbrev Txt.f__law_rooms (T : Txt K mg) := T.d__law_rooms.f
abbrev Txt.F__law_rooms (T : Txt K mg) := T.d__law_rooms.F
abbrev Txt.b__law_rooms (T : Txt K mg) := T.d__law_rooms.b
abbrev Txt.m__law_rooms (T : Txt K mg) := T.d__law_rooms.m
abbrev Txt.a__law_program (T : Txt K mg) := T.d__law_program.a
abbrev Txt.f__law_program (T : Txt K mg) := T.d__law_program.f
abbrev Txt.F__law_program (T : Txt K mg) := T.d__law_program.F
abbrev Txt.b__law_program (T : Txt K mg) := T.d__law_program.b
abbrev Txt.m__law_program (T : Txt K mg) := T.d__law_program.m
abbrev Txt.a__law_world (T : Txt K mg) := T.d__law_world.a
abbrev Txt.f__law_world (T : Txt K mg) := T.d__law_world.f
abbrev Txt.F__law_world (T : Txt K mg) := T.d__law_world.F
abbrev Txt.b__law_world (T : Txt K mg) := T.d__law_world.b
abbrev Txt.m__law_world (T : Txt K mg) := T.d__law_world.m
abbrev Txt.a__law_refused (T : Txt K mg) := T.d__law_refused.a
abbrev Txt.f__law_refused (T : Txt K mg) := T.d__law_refused.f
abbrev Txt.F__law_refused (T : Txt K mg) := T.d__law_refused.F
abbrev Txt.b__law_refused (T : Txt K mg) := T.d__law_refused.b
abbrev Txt.m__law_refused (T : Txt K mg) := T.d__law_refused.m
abbrev Txt.a__law_other (T : Txt K mg) := T.d__law_other.a
abbrev Txt.f__law_other (T : Txt K mg) := T.d__law_other.f
abbrev Txt.F__law_other (T : Txt K mg) := T.d__law_other.F
abbrev Txt.b__law_other (T : Txt K mg) := T.d__law_other.b
abbrev Txt.m__law_other (T : Txt K mg) := T.d__law_other.m
abbrev Txt.a__law_calls_all (T : Txt K mg) := T.d__law_calls_all.a
abbrev Txt.f__law_calls_all (T : Txt K mg) := T.d__law_calls_all.f
abbrev Txt.F__law_calls_all (T : Txt K mg) := T.d__law_calls_all.F
abbrev Txt.b__law_calls_all (T : Txt K mg) := T.d__law_calls_all.b
abbrev Txt.m__law_calls_all (T : Txt K mg) := T.d__law_calls_all.m
abbrev Txt.a_law (T : Txt K mg) := T.d_law.a
abbrev Txt.f_law (T : Txt K mg) := T.d_law.f
abbrev Txt.F_law (T : Txt K mg) := T.d_law.F
end
variable {P : Program} {w : World} {K : PySem.W.Frag} {mg : Str → Option Value} {base : Heap} {k : Nat}
def r_has_all : SM := (mRet (mArg gAny (mCons (mLc (mIter (mVar 0)) [1, 2] (tgT [(tgN 1), (tgN 2)]) mYes (mArg gAny (mCons (mLc (mIter (mVar 2)) [3] (tgN 3) mYes (mBin gEq (mBin gIx (mPeek 3) (mC (.int 0))) (mC (.str "all")))) mNil))) mNil)))
theorem ok_has_all {sp : FSpec} (T : Txt K mg) 
    (h : ∀ args et R, sp args et R → r_has_all  (env0 ["deeds", "word", "program", "row"] args) et (retK R)) :
    FnOk P w K mg base CX0 (k + 1) T.a_has_all T.f_has_all ["deeds"] (FS K mg 1 sp) :=
  have nd := sc_has_all.nd
  fn_ok T.F_has_all sc_has_all (fun cdv A outer s H E hr => (ss_one (s_ret (sE_callB (cr_any rfl) oA_any rfl T.z_any boot_any (sAP_cons (SimN.p (sN_lc (own := [("word", 1), ("program", 2)]) (g_tup rfl (g_cons (g_name 1) (g_cons (g_name 2) g_nil))) (by simp) rfl nd (sI_any (sE_var (pv 0))) (blkOk_by (N := ["deeds", "word", "program", "row"]) (sc := defScope s_has_all) (by decide +kernel)) (fun _ _ _ _ _ => (pg_tup rfl (pgs_cons (pg_name (i := 1) nd rfl (by first | exact Or.inl rfl | exact Or.inr rfl)) (pgs_cons (pg_name (i := 2) nd rfl (by first | exact Or.inl rfl | exact Or.inr rfl)) pgs_nil)))) (fun _ _ _ _ _ => pts_yes) (fun _ _ _ _ _ => (sE_callB (cr_any rfl) oA_any rfl T.z_any boot_any (sAP_cons (SimN.p (sN_lc (own := [("row", 3)]) (g_name 3) (by simp) rfl nd (sI_any (sE_var (pv 2))) (blkOk_by (by kernel_rfl)) (fun _ _ _ _ _ => (pg_name (i := 3) nd rfl (by first | exact Or.inl rfl | exact Or.inr rfl))) (fun _ _ _ _ _ => pts_yes) (fun _ _ _ _ _ => (sE_cmp (op_eqA hr.h64) o2_eq (SimE.p (sE_ix (sP_var (pv 3)) (SimE.p sE_int))) (SimE.p sE_str) (nomark _))))) sAP_nil))))) sAP_nil))))) h
def r_exchanged_2 : SM := mNever
def r_exchanged_4 : SM := (mRet (mTup (mCons (mBin gAdd (mBin gAdd (mSl gSlA (mPeek 2) mO0 (mO1 (mVar 1))) (mTup (mCons (mVar 11) mNil))) (mSl gSlA (mPeek 2) (mO1 (mBin gAdd (mPeek 1) (mC (.int 1)))) mO0)) (mCons (mVar 3) (mCons (mVar 4) (mCons (mVar 5) mNil))))))
def r_exchanged_3 : SM := (mSeq (mSet 11 (mTup (mCons (mVar 6) (mCons (mTabS tb_OTHERS (mVar 7)) (mCons (mVar 8) (mCons (mVar 9) (mCons (mVar 10) mNil))))))) (r_exchanged_4))
def r_exchanged_1 (S_has_all : FSpec) : SM := (mSeq (mIf (mAsT (mCall 1 S_has_all (mCons (mVar 10) mNil))) (r_exchanged_2) mNext) (r_exchanged_3))
def r_exchanged_0 (S_has_all : FSpec) : SM := (mSeq (mAsg (tgT [(tgN 6), (tgN 7), (tgN 8), (tgN 9), (tgN 10)]) (mBin gIx (mPeek 2) (mPeek 1))) (r_exchanged_1 S_has_all))
def r_exchanged (S_has_all : FSpec) : SM := (mSeq (mAsg (tgT [(tgN 2), (tgN 3), (tgN 4), (tgN 5)]) (mVar 0)) (r_exchanged_0 S_has_all))
theorem ok_exchanged {S_has_all : FSpec} {sp : FSpec} (T : Txt K mg) (hw : T.pr = w.params) (G_has_all : FnOk P w K mg base CX0 k T.a_has_all T.f_has_all ["deeds"] (FS K mg 1 S_has_all))
    (h : ∀ args et R, sp args et R → r_exchanged S_has_all (env0 ["world", "room", "rooms", "passes", "opened", "hands", "name", "manner", "things", "bells", "deeds", "other"] args) et (retK R)) :
    FnOk P w K mg base CX0 (k + 1) T.a_exchanged T.f_exchanged ["world", "room"] (FS K mg 2 sp) :=
  have nd := sc_exchanged.nd
  fn_ok T.F_exchanged sc_exchanged (fun cdv A outer s H E hr => (ss_cons (s_asg (sE_var (pv 0)) (pg_tup rfl (pgs_cons (pg_name (i := 2) nd rfl (by first | exact Or.inl rfl | exact Or.inr rfl)) (pgs_cons (pg_name (i := 3) nd rfl (by first | exact Or.inl rfl | exact Or.inr rfl)) (pgs_cons (pg_name (i := 4) nd rfl (by first | exact Or.inl rfl | exact Or.inr rfl)) (pgs_cons (pg_name (i := 5) nd rfl (by first | exact Or.inl rfl | exact Or.inr rfl)) pgs_nil))))) (g_tup rfl (g_cons (g_name 2) (g_cons (g_name 3) (g_cons (g_name 4) (g_cons (g_name 5) g_nil))))))
    (ss_cons (s_asg (sE_ix (sP_var (pv 2)) (sP_var (pv 1))) (pg_tup rfl (pgs_cons (pg_name (i := 6) nd rfl (by first | exact Or.inl rfl | exact Or.inr rfl)) (pgs_cons (pg_name (i := 7) nd rfl (by first | exact Or.inl rfl | exact Or.inr rfl)) (pgs_cons (pg_name (i := 8) nd rfl (by first | exact Or.inl rfl | exact Or.inr rfl)) (pgs_cons (pg_name (i := 9) nd rfl (by first | exact Or.inl rfl | exact Or.inr rfl)) (pgs_cons (pg_name (i := 10) nd rfl (by first | exact Or.inl rfl | exact Or.inr rfl)) pgs_nil)))))) (g_tup rfl (g_cons (g_name 6) (g_cons (g_name 7) (g_cons (g_name 8) (g_cons (g_name 9) (g_cons (g_name 10) g_nil)))))))
    (ss_cons (s_if (sT_val (sE_call G_has_all hr rfl T.m_has_all T.F_has_all.kp T.b_has_all (sA_cons (sE_var (pv 10)) sA_nil))) (ss_one s_never) ss_nil)
    (ss_cons (s_set (i := 11) nd rfl (by first | exact Or.inl rfl | exact Or.inr rfl) (sE_tup (sA_cons (sE_var (pv 6)) (sA_cons (sE_tabS (T.t_OTHERS hw) rfl (sE_var (pv 7))) (sA_cons (sE_var (pv 8)) (sA_cons (sE_var (pv 9)) (sA_cons (sE_var (pv 10)) sA_nil)))))))
    (ss_one (s_ret (sE_tup (sA_cons (sE_op op_addA o2_add (SimE.p (sE_op op_addA o2_add (SimE.p (sE_slA (sP_var (pv 2)) sO_none (sO_some (sE_var (pv 1))))) (SimE.p (sE_tup (sA_cons (sE_var (pv 11)) sA_nil))))) (SimE.p (sE_slA (sP_var (pv 2)) (sO_some (sE_op op_addA o2_add (sP_var (pv 1)) (SimE.p sE_int))) sO_none))) (sA_cons (sE_var (pv 3)) (sA_cons (sE_var (pv 4)) (sA_cons (sE_var (pv 5)) sA_nil)))))))))))) h
def r__law_hand_1 : SM := (mSet 2 (mBin gIx (mPeek 0) (mPeek 1)))
def r__law_hand_2 : SM := (mRet (mShare (mLst (mCons (mBin gMul (mPeek 2) (mArg gInt (mCons (mBin gGe (mPeek 2) (mBin gPow (mC (.int 10)) (mC (.int 18)))) mNil))) (mCons (mBin gMod (mBin gAdd (mBin gAdd (mBin gMod (mPeek 2) (mC (.int 2305843009213693951))) (mBin gMul (mC (.int 7919)) (mPeek 1))) (mC (.int 3))) (mC (.int 2305843009213693951))) (mCons (mC (.int 0)) mNil))))))
def r__law_hand_0 : SM := (mSeq (mIf (mBinT gLt (mPeek 1) (mArg gLen (mCons (mPeek 0) mNil))) (r__law_hand_1) mNext) (r__law_hand_2))
def r__law_hand : SM := (mSeq (mSet 2 (mC (.int 0))) (r__law_hand_0))
theorem ok__law_hand {sp : FSpec} (T : Txt K mg) 
    (h : ∀ args et R, sp args et R → r__law_hand  (env0 ["_law_script", "_law_k", "_law_cell"] args) et (retK R)) :
    FnOk P w K mg base CX0 (k + 1) T.a__law_hand T.f__law_hand ["_law_script", "_law_k"] (FS K mg 2 sp) :=
  have nd := sc__law_hand.nd
  fn_ok T.F__law_hand sc__law_hand (fun cdv A outer s H E hr => (ss_cons (s_set (i := 2) nd rfl (by first | exact Or.inl rfl | exact Or.inr rfl) sE_int)
    (ss_cons (s_if (sT_cmp op_ltA o2_lt (sP_var (pv 1)) (SimE.p (sE_callB call_len oA_len rfl T.z_len boot_len (sAP_cons (sP_var (pv 0)) sAP_nil))) (nomark _)) (ss_one (s_set (i := 2) nd rfl (by first | exact Or.inl rfl | exact Or.inr rfl) (sE_ix (sP_var (pv 0)) (sP_var (pv 1))))) ss_nil)
    (ss_one (s_ret (sE_share (sN_lst (sA_cons (sE_op op_mul o2_mul (sP_var (pv 2)) (SimE.p (sE_callTy call_int1 oA_int rfl T.z_int boot_int (sAP_cons (SimE.p (sE_cmp op_ge o2_ge (sP_var (pv 2)) (SimE.p (sE_op op_pow o2_pow (SimE.p sE_int) (SimE.p sE_int))) (nomark _))) sAP_nil)))) (sA_cons (sE_op op_mod o2_mod (SimE.p (sE_op op_addA o2_add (SimE.p (sE_op op_addA o2_add (SimE.p (sE_op op_mod o2_mod (sP_var (pv 2)) (SimE.p sE_int))) (SimE.p (sE_op op_mul o2_mul (SimE.p sE_int) (sP_var (pv 1)))))) (SimE.p sE_int))) (SimE.p sE_int)) (sA_cons sE_int sA_nil)))))))))) h
def r__law_take_2 : SM := (mRet (mVar 2))
def r__law_take_1 : SM := (mSeq (mSubSet (mBin gDiv (mBin gIx (mPeek 0) (mC (.int 0))) (mPeek 1)) (mVar 0) (mC (.int 0))) (r__law_take_2))
def r__law_take_0 : SM := (mSeq (mSet 2 (mBin gMod (mBin gIx (mPeek 0) (mC (.int 0))) (mPeek 1))) (r__law_take_1))
def r__law_take_6 : SM := (mRet (mBin gMod (mBin gAdd (mBin gDiv (mPeek 3) (mC (.int 97))) (mBin gDiv (mPeek 3) (mC (.int 1000033)))) (mPeek 1)))
def r__law_take_5 : SM := (mSeq (mSet 3 (mBin gMod (mBin gMul (mPeek 3) (mBin gAdd (mBin gMod (mPeek 3) (mC (.int 1000003))) (mBin gMul (mC (.int 99991)) (mBin gIx (mPeek 0) (mC (.int 2)))))) (mC (.int 2305843009213693907)))) (r__law_take_6))
def r__law_take_4 : SM := (mSeq (mSet 3 (mBin gMod (mBin gMul (mBin gAdd (mBin gAdd (mBin gIx (mPeek 0) (mC (.int 1))) (mBin gMul (mBin gMul (mC (.int 65537)) (mBin gIx (mPeek 0) (mC (.int 2)))) (mBin gIx (mPeek 0) (mC (.int 2))))) (mC (.int 11))) (mC (.int 48271))) (mC (.int 2305843009213693921)))) (r__law_take_5))
def r__law_take_3 : SM := (mSeq (mSubSet (mBin gAdd (mBin gIx (mPeek 0) (mC (.int 2))) (mC (.int 1))) (mVar 0) (mC (.int 2))) (r__law_take_4))
def r__law_take : SM := (mSeq (mIf (mBinT gGt (mBin gIx (mPeek 0) (mC (.int 0))) (mC (.int 0))) (r__law_take_0) mNext) (r__law_take_3))
theorem ok__law_take {sp : FSpec} (T : Txt K mg) 
    (h : ∀ args et R, sp args et R → r__law_take  (env0 ["_law_hand_here", "_law_many", "_law_digit", "_law_mixed"] args) et (retK R)) :
    FnOk P w K mg base CX0 (k + 1) T.a__law_take T.f__law_take ["_law_hand_here", "_law_many"] (FS K mg 2 sp) :=
  have nd := sc__law_take.nd
  fn_ok T.F__law_take sc__law_take (fun cdv A outer s H E hr => (ss_cons (s_if (sT_cmp op_gt o2_gt (SimE.p (sE_ix (sP_var (pv 0)) (SimE.p sE_int))) (SimE.p sE_int) (nomark _)) (ss_cons (s_set (i := 2) nd rfl (by first | exact Or.inl rfl | exact Or.inr rfl) (sE_op op_mod o2_mod (SimE.p (sE_ix (sP_var (pv 0)) (SimE.p sE_int))) (sP_var (pv 1))))
    (ss_cons (s_subSet (sE_op op_fdiv o2_div (SimE.p (sE_ix (sP_var (pv 0)) (SimE.p sE_int))) (sP_var (pv 1))) (sE_var (pv 0)) sE_int (fun h1 h2 h3 => ps_asg h1 (pg_sub h2 h3 set_list)))
    (ss_one (s_ret (sE_var (pv 2)))))) ss_nil)
    (ss_cons (s_subSet (sE_op op_addA o2_add (SimE.p (sE_ix (sP_var (pv 0)) (SimE.p sE_int))) (SimE.p sE_int)) (sE_var (pv 0)) sE_int (fun h1 h2 h3 => ps_asg h1 (pg_sub h2 h3 set_list)))
    (ss_cons (s_set (i := 3) nd rfl (by first | exact Or.inl rfl | exact Or.inr rfl) (sE_op op_mod o2_mod (SimE.p (sE_op op_mul o2_mul (SimE.p (sE_op op_addA o2_add (SimE.p (sE_op op_addA o2_add (SimE.p (sE_ix (sP_var (pv 0)) (SimE.p sE_int))) (SimE.p (sE_op op_mul o2_mul (SimE.p (sE_op op_mul o2_mul (SimE.p sE_int) (SimE.p (sE_ix (sP_var (pv 0)) (SimE.p sE_int))))) (SimE.p (sE_ix (sP_var (pv 0)) (SimE.p sE_int))))))) (SimE.p sE_int))) (SimE.p sE_int))) (SimE.p sE_int)))
    (ss_cons (s_set (i := 3) nd rfl (by first | exact Or.inl rfl | exact Or.inr rfl) (sE_op op_mod o2_mod (SimE.p (sE_op op_mul o2_mul (sP_var (pv 3)) (SimE.p (sE_op op_addA o2_add (SimE.p (sE_op op_mod o2_mod (sP_var (pv 3)) (SimE.p sE_int))) (SimE.p (sE_op op_mul o2_mul (SimE.p sE_int) (SimE.p (sE_ix (sP_var (pv 0)) (SimE.p sE_int))))))))) (SimE.p sE_int)))
    (ss_one (s_ret (sE_op op_mod o2_mod (SimE.p (sE_op op_addA o2_add (SimE.p (sE_op op_fdiv o2_div (sP_var (pv 3)) (SimE.p sE_int))) (SimE.p (sE_op op_fdiv o2_div (sP_var (pv 3)) (SimE.p sE_int))))) (sP_var (pv 1)))))))))) h
def r__law_pick (S__law_take : FSpec) : SM := (mRet (mBin gIx (mPeek 1) (mCall 2 S__law_take (mCons (mVar 0) (mCons (mArg gLen (mCons (mPeek 1) mNil)) mNil)))))
theorem ok__law_pick {S__law_take : FSpec} {sp : FSpec} (T : Txt K mg) (G__law_take : FnOk P w K mg base CX0 k T.a__law_take T.f__law_take ["_law_hand_here", "_law_many"] (FS K mg 2 S__law_take))
    (h : ∀ args et R, sp args et R → r__law_pick S__law_take (env0 ["_law_hand_here", "_law_some"] args) et (retK R)) :
    FnOk P w K mg base CX0 (k + 1) T.a__law_pick T.f__law_pick ["_law_hand_here", "_law_some"] (FS K mg 2 sp) :=
  have nd := sc__law_pick.nd
  fn_ok T.F__law_pick sc__law_pick (fun cdv A outer s H E hr => (ss_one (s_ret (sE_ix (sP_var (pv 1)) (SimE.p (sE_call G__law_take hr rfl T.m__law_take T.F__law_take.kp T.b__law_take (sA_cons (sE_var (pv 0)) (sA_cons (sE_callB call_len oA_len rfl T.z_len boot_len (sAP_cons (sP_var (pv 1)) sAP_nil)) sA_nil)))))))) h
def r__law_names_3 : SM := (mExprX (mMut 5 gmAppend (mCons (mBin gAdd (mBin gIx (mPeek 2) (mBin gMod (mBin gAdd (mPeek 3) (mBin gMul (mPeek 4) (mPeek 6))) (mC (.int 26)))) (mBin gIx (mLst (mCons (mC (.str "")) (mCons (mC (.str "zq")) (mCons (mC (.str "x")) (mCons (mC (.str "qqzzx")) mNil))))) (mBin gMod (mBin gAdd (mPeek 3) (mBin gMul (mPeek 6) (mPeek 6))) (mC (.int 4))))) mNil)))
def r__law_names_4 : SM := (mRet (mArg gSorted (mCons (mPeek 5) mNil)))
def r__law_names_2 : SM := (mSeq (mFor (mRng1 (mCons (mVar 1) mNil)) (tgN 6) (r__law_names_3)) (r__law_names_4))
def r__law_names_1 : SM := (mSeq (mSetN 5 (mLst mNil)) (r__law_names_2))
def r__law_names_0 (S__law_take : FSpec) : SM := (mSeq (mPar 3 4 (mCons (mCall 2 S__law_take (mCons (mVar 0) (mCons (mC (.int 26)) mNil))) (mCons (mBin gIx (mLst (mCons (mC (.int 1)) (mCons (mC (.int 3)) (mCons (mC (.int 5)) (mCons (mC (.int 7)) (mCons (mC (.int 9)) (mCons (mC (.int 11)) mNil))))))) (mCall 2 S__law_take (mCons (mVar 0) (mCons (mC (.int 6)) mNil)))) mNil))) (r__law_names_1))
def r__law_names (S__law_take : FSpec) : SM := (mSeq (mSet 2 (mC (.str "abcdefghijklmnopqrstuvwxyz"))) (r__law_names_0 S__law_take))
theorem ok__law_names {S__law_take : FSpec} {sp : FSpec} (T : Txt K mg) (G__law_take : FnOk P w K mg base CX0 k T.a__law_take T.f__law_take ["_law_hand_here", "_law_many"] (FS K mg 2 S__law_take))
    (h : ∀ args et R, sp args et R → r__law_names S__law_take (env0 ["_law_hand_here", "_law_many", "_law_letters", "_law_first", "_law_step", "_law_found", "_law_k"] args) et (retK R)) :
    FnOk P w K mg base CX0 (k + 1) T.a__law_names T.f__law_names ["_law_hand_here", "_law_many"] (FS K mg 2 sp) :=
  have nd := sc__law_names.nd
  fn_ok T.F__law_names sc__law_names (fun cdv A outer s H E hr => (ss_cons (s_set (i := 2) nd rfl (by first | exact Or.inl rfl | exact Or.inr rfl) sE_str)
    (ss_cons (two_par (i := 3) (j := 4) rfl nd rfl rfl (by decide) (fun h => ps_par rfl nd rfl rfl (by decide) rfl rfl h rfl) (sA_cons (sE_call G__law_take hr rfl T.m__law_take T.F__law_take.kp T.b__law_take (sA_cons (sE_var (pv 0)) (sA_cons sE_int sA_nil))) (sA_cons (sE_ix (SimN.p (sN_lst (sA_cons sE_int (sA_cons sE_int (sA_cons sE_int (sA_cons sE_int (sA_cons sE_int (sA_cons sE_int sA_nil)))))))) (SimE.p (sE_call G__law_take hr rfl T.m__law_take T.F__law_take.kp T.b__law_take (sA_cons (sE_var (pv 0)) (sA_cons sE_int sA_nil))))) sA_nil)))
    (ss_cons (s_setN (i := 5) nd rfl (by first | exact Or.inl rfl | exact Or.inr rfl) (sN_lst sA_nil))
    (ss_cons (s_for PassesOwn.never rfl (sI_rng1 rfl T.z_range (sA_cons (sE_var (pv 1)) sA_nil)) (pg_name (i := 6) nd rfl (by first | exact Or.inl rfl | exact Or.inr rfl)) (g_name 6) (ss_one (s_exprX (sX_mut PySem.F.slot_list_append PySem.F.type_list_append mt_append mo_append (pv 5) (sA_cons (sE_op op_addA o2_add (SimE.p (sE_ix (sP_var (pv 2)) (SimE.p (sE_op op_mod o2_mod (SimE.p (sE_op op_addA o2_add (sP_var (pv 3)) (SimE.p (sE_op op_mul o2_mul (sP_var (pv 4)) (sP_var (pv 6)))))) (SimE.p sE_int))))) (SimE.p (sE_ix (SimN.p (sN_lst (sA_cons sE_str (sA_cons sE_str (sA_cons sE_str (sA_cons sE_str sA_nil)))))) (SimE.p (sE_op op_mod o2_mod (SimE.p (sE_op op_addA o2_add (sP_var (pv 3)) (SimE.p (sE_op op_mul o2_mul (sP_var (pv 6)) (sP_var (pv 6)))))) (SimE.p sE_int)))))) sA_nil) (fun h1 h2 => pe_bm PySem.F.plainAttrs_list PySem.F.slot_list_append PySem.F.type_list_append mt_append h1 h2)))))
    (ss_one (s_ret (SimN.e (sN_callB cr_sortedA oA_sorted rfl T.z_sorted boot_sorted (sAP_cons (sP_var (pv 5)) sAP_nil)))))))))) h
def r__law_sum_2 (S__law_pick : FSpec) : SM := (mRet (mCall 2 S__law_pick (mCons (mVar 0) (mCons (mVar 1) mNil))))
def r__law_sum_3 (S__law_take : FSpec) : SM := (mRet (mCall 2 S__law_take (mCons (mVar 0) (mCons (mBin gIx (mLst (mCons (mC (.int 3)) (mCons (mC (.int 10)) mNil))) (mArg gInt (mCons (mBin gEq (mCall 2 S__law_take (mCons (mVar 0) (mCons (mC (.int 4)) mNil))) (mC (.int 0))) mNil))) mNil))))
def r__law_sum_1 (S__law_take : FSpec) (S__law_pick : FSpec) : SM := (mSeq (mIf (mAndT (mBinT gNe (mPeek 1) (mLst mNil)) (mBinT gGt (mCall 2 S__law_take (mCons (mVar 0) (mCons (mC (.int 3)) mNil))) (mC (.int 0)))) (r__law_sum_2 S__law_pick) mNext) (r__law_sum_3 S__law_take))
def r__law_sum_5 (S__law_pick : FSpec) : SM := (mRet (mTup (mCons (mC (.str "waits")) (mCons (mCall 2 S__law_pick (mCons (mVar 0) (mCons (mVar 2) mNil))) mNil))))
def r__law_sum_7 (S__law_sum : FSpec) : SM := (mRet (mTup (mCons (mC (.str "not")) (mCons (mCall 4 S__law_sum (mCons (mVar 0) (mCons (mVar 1) (mCons (mVar 2) (mCons (mBin gSubI (mPeek 3) (mC (.int 1))) mNil))))) mNil))))
def r__law_sum_9 (S__law_sum : FSpec) : SM := (mRet (mTup (mCons (mVar 5) (mCons (mCall 4 S__law_sum (mCons (mVar 0) (mCons (mVar 1) (mCons (mVar 2) (mCons (mBin gSubI (mPeek 3) (mC (.int 1))) mNil))))) (mCons (mCall 4 S__law_sum (mCons (mVar 0) (mCons (mVar 1) (mCons (mVar 2) (mCons (mBin gSubI (mPeek 3) (mC (.int 1))) mNil))))) mNil)))))
def r__law_sum_8 (S__law_take : FSpec) (S__law_sum : FSpec) : SM := (mSeq (mSet 5 (mBin gIx (mLst (mCons (mC (.str "plus")) (mCons (mC (.str "minus")) (mCons (mC (.str "less")) (mCons (mC (.str "same")) (mCons (mC (.str "both")) mNil)))))) (mCall 2 S__law_take (mCons (mVar 0) (mCons (mC (.int 5)) mNil))))) (r__law_sum_9 S__law_sum))
def r__law_sum_6 (S__law_take : FSpec) (S__law_sum : FSpec) : SM := (mSeq (mIf (mBinT gEq (mPeek 4) (mC (.int 5))) (r__law_sum_7 S__law_sum) mNext) (r__law_sum_8 S__law_take S__law_sum))
def r__law_sum_4 (S__law_take : FSpec) (S__law_pick : FSpec) (S__law_sum : FSpec) : SM := (mSeq (mIf (mAndT (mBinT gEq (mPeek 4) (mC (.int 4))) (mBinT gNe (mPeek 2) (mLst mNil))) (r__law_sum_5 S__law_pick) mNext) (r__law_sum_6 S__law_take S__law_sum))
def r__law_sum_0 (S__law_take : FSpec) (S__law_pick : FSpec) (S__law_sum : FSpec) : SM := (mSeq (mIf (mOrT (mBinT gEq (mPeek 3) (mC (.int 0))) (mOrT (mBinT gLt (mPeek 4) (mC (.int 4))) (mBinT gEq (mPeek 1) (mLst mNil)))) (r__law_sum_1 S__law_take S__law_pick) mNext) (r__law_sum_4 S__law_take S__law_pick S__law_sum))
def r__law_sum (S__law_take : FSpec) (S__law_pick : FSpec) (S__law_sum : FSpec) : SM := (mSeq (mSet 4 (mCall 2 S__law_take (mCons (mVar 0) (mCons (mC (.int 10)) mNil)))) (r__law_sum_0 S__law_take S__law_pick S__law_sum))
theorem ok__law_sum {S__law_take : FSpec} {S__law_pick : FSpec} {S__law_sum : FSpec} {sp : FSpec} (T : Txt K mg) (G__law_take : FnOk P w K mg base CX0 k T.a__law_take T.f__law_take ["_law_hand_here", "_law_many"] (FS K mg 2 S__law_take)) (G__law_pick : FnOk P w K mg base CX0 k T.a__law_pick T.f__law_pick ["_law_hand_here", "_law_some"] (FS K mg 2 S__law_pick)) (G__law_sum : FnOk P w K mg base CX0 k T.a__law_sum T.f__law_sum ["_law_hand_here", "_law_words", "_law_bells", "_law_deep"] (FS K mg 4 S__law_sum))
    (h : ∀ args et R, sp args et R → r__law_sum S__law_take S__law_pick S__law_sum (env0 ["_law_hand_here", "_law_words", "_law_bells", "_law_deep", "_law_way", "_law_word"] args) et (retK R)) :
    FnOk P w K mg base CX0 (k + 1) T.a__law_sum T.f__law_sum ["_law_hand_here", "_law_words", "_law_bells", "_law_deep"] (FS K mg 4 sp) :=
  have nd := sc__law_sum.nd
  fn_ok T.F__law_sum sc__law_sum (fun cdv A outer s H E hr => (ss_cons (s_set (i := 4) nd rfl (by first | exact Or.inl rfl | exact Or.inr rfl) (sE_call G__law_take hr rfl T.m__law_take T.F__law_take.kp T.b__law_take (sA_cons (sE_var (pv 0)) (sA_cons sE_int sA_nil))))
    (ss_cons (s_if (PW.pt (sW_or (sT_cmp (op_eqA hr.h64) o2_eq (sP_var (pv 3)) (SimE.p sE_int) (nomark _)) (sW_or (sT_cmp op_ltA o2_lt (sP_var (pv 4)) (SimE.p sE_int) (nomark _)) (sW_or1 (sT_cmp (op_eqA hr.h64) o2_eq (sP_var (pv 1)) (SimN.p (sN_lst sA_nil)) (nomark _)))))) (ss_cons (s_if (PW.pt (sW_and (sT_cmp (op_neA hr.h64) o2_ne (sP_var (pv 1)) (SimN.p (sN_lst sA_nil)) (nomark _)) (sW_and1 (sT_cmp op_gt o2_gt (SimE.p (sE_call G__law_take hr rfl T.m__law_take T.F__law_take.kp T.b__law_take (sA_cons (sE_var (pv 0)) (sA_cons sE_int sA_nil)))) (SimE.p sE_int) (nomark _))))) (ss_one (s_ret (sE_call G__law_pick hr rfl T.m__law_pick T.F__law_pick.kp T.b__law_pick (sA_cons (sE_var (pv 0)) (sA_cons (sE_var (pv 1)) sA_nil))))) ss_nil)
    (ss_one (s_ret (sE_call G__law_take hr rfl T.m__law_take T.F__law_take.kp T.b__law_take (sA_cons (sE_var (pv 0)) (sA_cons (sE_ix (SimN.p (sN_lst (sA_cons sE_int (sA_cons sE_int sA_nil)))) (SimE.p (sE_callTy call_int1 oA_int rfl T.z_int boot_int (sAP_cons (SimE.p (sE_cmp (op_eqA hr.h64) o2_eq (SimE.p (sE_call G__law_take hr rfl T.m__law_take T.F__law_take.kp T.b__law_take (sA_cons (sE_var (pv 0)) (sA_cons sE_int sA_nil)))) (SimE.p sE_int) (nomark _))) sAP_nil)))) sA_nil)))))) ss_nil)
    (ss_cons (s_if (PW.pt (sW_and (sT_cmp (op_eqA hr.h64) o2_eq (sP_var (pv 4)) (SimE.p sE_int) (nomark _)) (sW_and1 (sT_cmp (op_neA hr.h64) o2_ne (sP_var (pv 2)) (SimN.p (sN_lst sA_nil)) (nomark _))))) (ss_one (s_ret (sE_tup (sA_cons sE_str (sA_cons (sE_call G__law_pick hr rfl T.m__law_pick T.F__law_pick.kp T.b__law_pick (sA_cons (sE_var (pv 0)) (sA_cons (sE_var (pv 2)) sA_nil))) sA_nil))))) ss_nil)
    (ss_cons (s_if (sT_cmp (op_eqA hr.h64) o2_eq (sP_var (pv 4)) (SimE.p sE_int) (nomark _)) (ss_one (s_ret (sE_tup (sA_cons sE_str (sA_cons (sE_call G__law_sum hr rfl T.m__law_sum T.F__law_sum.kp T.b__law_sum (sA_cons (sE_var (pv 0)) (sA_cons (sE_var (pv 1)) (sA_cons (sE_var (pv 2)) (sA_cons (sE_op op_sub o2_sub (sP_var (pv 3)) (SimE.p sE_int)) sA_nil))))) sA_nil))))) ss_nil)
    (ss_cons (s_set (i := 5) nd rfl (by first | exact Or.inl rfl | exact Or.inr rfl) (sE_ix (SimN.p (sN_lst (sA_cons sE_str (sA_cons sE_str (sA_cons sE_str (sA_cons sE_str (sA_cons sE_str sA_nil))))))) (SimE.p (sE_call G__law_take hr rfl T.m__law_take T.F__law_take.kp T.b__law_take (sA_cons (sE_var (pv 0)) (sA_cons sE_int sA_nil))))))
    (ss_one (s_ret (sE_tup (sA_cons (sE_var (pv 5)) (sA_cons (sE_call G__law_sum hr rfl T.m__law_sum T.F__law_sum.kp T.b__law_sum (sA_cons (sE_var (pv 0)) (sA_cons (sE_var (pv 1)) (sA_cons (sE_var (pv 2)) (sA_cons (sE_op op_sub o2_sub (sP_var (pv 3)) (SimE.p sE_int)) sA_nil))))) (sA_cons (sE_call G__law_sum hr rfl T.m__law_sum T.F__law_sum.kp T.b__law_sum (sA_cons (sE_var (pv 0)) (sA_cons (sE_var (pv 1)) (sA_cons (sE_var (pv 2)) (sA_cons (sE_op op_sub o2_sub (sP_var (pv 3)) (SimE.p sE_int)) sA_nil))))) sA_nil)))))))))))) h
def r__law_wait_3 : SM := (mRet (mLst (mCons (mTup (mCons (mC (.str "wait")) (mCons (mVar 4) (mCons (mVar 5) mNil)))) mNil)))
def r__law_wait_6 : SM := (mRet (mVar 8))
def r__law_wait_5 : SM := (mSeq (mSet 8 (mLst (mCons (mTup (mCons (mC (.str "unless")) (mCons (mVar 7) (mCons (mBin gAdd (mPeek 3) (mC (.int 3))) mNil)))) (mCons (mTup (mCons (mC (.str "wait")) (mCons (mVar 4) (mCons (mVar 5) mNil)))) (mCons (mTup (mCons (mC (.str "go")) (mCons (mBin gIx (mLst (mCons (mVar 3) (mCons (mBin gAdd (mPeek 3) (mC (.int 3))) mNil))) (mArg gInt (mCons (mBin gEq (mPeek 6) (mC (.int 1))) mNil))) mNil))) mNil))))) (r__law_wait_6))
def r__law_wait_4 (S__law_sum : FSpec) : SM := (mSeq (mSet 7 (mTup (mCons (mC (.str "not")) (mCons (mCall 4 S__law_sum (mCons (mVar 0) (mCons (mVar 1) (mCons (mLst mNil) (mCons (mC (.int 2)) mNil))))) mNil)))) (r__law_wait_5))
def r__law_wait_2 (S__law_sum : FSpec) : SM := (mSeq (mIf (mBinT gEq (mPeek 6) (mC (.int 0))) (r__law_wait_3) mNext) (r__law_wait_4 S__law_sum))
def r__law_wait_1 (S__law_sum : FSpec) (S__law_take : FSpec) : SM := (mSeq (mSet 6 (mCall 2 S__law_take (mCons (mVar 0) (mCons (mC (.int 3)) mNil)))) (r__law_wait_2 S__law_sum))
def r__law_wait_0 (S__law_sum : FSpec) (S__law_take : FSpec) : SM := (mSeq (mSet 5 (mBin gIx (mLst (mCons (mC (.int 0)) (mCons (mC (.str "given")) (mCons (mCall 4 S__law_sum (mCons (mVar 0) (mCons (mVar 1) (mCons (mVar 2) (mCons (mC (.int 1)) mNil))))) mNil)))) (mCall 2 S__law_take (mCons (mVar 0) (mCons (mC (.int 3)) mNil))))) (r__law_wait_1 S__law_sum S__law_take))
def r__law_wait (S__law_pick : FSpec) (S__law_sum : FSpec) (S__law_take : FSpec) : SM := (mSeq (mSet 4 (mCall 2 S__law_pick (mCons (mVar 0) (mCons (mVar 2) mNil)))) (r__law_wait_0 S__law_sum S__law_take))
theorem ok__law_wait {S__law_pick : FSpec} {S__law_sum : FSpec} {S__law_take : FSpec} {sp : FSpec} (T : Txt K mg) (G__law_pick : FnOk P w K mg base CX0 k T.a__law_pick T.f__law_pick ["_law_hand_here", "_law_some"] (FS K mg 2 S__law_pick)) (G__law_sum : FnOk P w K mg base CX0 k T.a__law_sum T.f__law_sum ["_law_hand_here", "_law_words", "_law_bells", "_law_deep"] (FS K mg 4 S__law_sum)) (G__law_take : FnOk P w K mg base CX0 k T.a__law_take T.f__law_take ["_law_hand_here", "_law_many"] (FS K mg 2 S__law_take))
    (h : ∀ args et R, sp args et R → r__law_wait S__law_pick S__law_sum S__law_take (env0 ["_law_hand_here", "_law_words", "_law_bells", "_law_at", "_law_bell", "_law_turn", "_law_way", "_law_test", "_law_rows"] args) et (retK R)) :
    FnOk P w K mg base CX0 (k + 1) T.a__law_wait T.f__law_wait ["_law_hand_here", "_law_words", "_law_bells", "_law_at"] (FS K mg 4 sp) :=
  have nd := sc__law_wait.nd
  fn_ok T.F__law_wait sc__law_wait (fun cdv A outer s H E hr => (ss_cons (s_set (i := 4) nd rfl (by first | exact Or.inl rfl | exact Or.inr rfl) (sE_call G__law_pick hr rfl T.m__law_pick T.F__law_pick.kp T.b__law_pick (sA_cons (sE_var (pv 0)) (sA_cons (sE_var (pv 2)) sA_nil))))
    (ss_cons (s_set (i := 5) nd rfl (by first | exact Or.inl rfl | exact Or.inr rfl) (sE_ix (SimN.p (sN_lst (sA_cons sE_int (sA_cons sE_str (sA_cons (sE_call G__law_sum hr rfl T.m__law_sum T.F__law_sum.kp T.b__law_sum (sA_cons (sE_var (pv 0)) (sA_cons (sE_var (pv 1)) (sA_cons (sE_var (pv 2)) (sA_cons sE_int sA_nil))))) sA_nil))))) (SimE.p (sE_call G__law_take hr rfl T.m__law_take T.F__law_take.kp T.b__law_take (sA_cons (sE_var (pv 0)) (sA_cons sE_int sA_nil))))))
    (ss_cons (s_set (i := 6) nd rfl (by first | exact Or.inl rfl | exact Or.inr rfl) (sE_call G__law_take hr rfl T.m__law_take T.F__law_take.kp T.b__law_take (sA_cons (sE_var (pv 0)) (sA_cons sE_int sA_nil))))
    (ss_cons (s_if (sT_cmp (op_eqA hr.h64) o2_eq (sP_var (pv 6)) (SimE.p sE_int) (nomark _)) (ss_one (s_ret (SimN.e (sN_lst (sA_cons (sE_tup (sA_cons sE_str (sA_cons (sE_var (pv 4)) (sA_cons (sE_var (pv 5)) sA_nil)))) sA_nil))))) ss_nil)
    (ss_cons (s_set (i := 7) nd rfl (by first | exact Or.inl rfl | exact Or.inr rfl) (sE_tup (sA_cons sE_str (sA_cons (sE_call G__law_sum hr rfl T.m__law_sum T.F__law_sum.kp T.b__law_sum (sA_cons (sE_var (pv 0)) (sA_cons (sE_var (pv 1)) (sA_cons (SimN.e (sN_lst sA_nil)) (sA_cons sE_int sA_nil))))) sA_nil))))
    (ss_cons (s_set (i := 8) nd rfl (by first | exact Or.inl rfl | exact Or.inr rfl) (SimN.e (sN_lst (sA_cons (sE_tup (sA_cons sE_str (sA_cons (sE_var (pv 7)) (sA_cons (sE_op op_addA o2_add (sP_var (pv 3)) (SimE.p sE_int)) sA_nil)))) (sA_cons (sE_tup (sA_cons sE_str (sA_cons (sE_var (pv 4)) (sA_cons (sE_var (pv 5)) sA_nil)))) (sA_cons (sE_tup (sA_cons sE_str (sA_cons (sE_ix (SimN.p (sN_lst (sA_cons (sE_var (pv 3)) (sA_cons (sE_op op_addA o2_add (sP_var (pv 3)) (SimE.p sE_int)) sA_nil)))) (SimE.p (sE_callTy call_int1 oA_int rfl T.z_int boot_int (sAP_cons (SimE.p (sE_cmp (op_eqA hr.h64) o2_eq (sP_var (pv 6)) (SimE.p sE_int) (nomark _))) sAP_nil)))) sA_nil))) sA_nil))))))
    (ss_one (s_ret (sE_var (pv 8))))))))))) h
def r__law_deed_5 (S__law_wait : FSpec) : SM := (mExprX (mMut 8 gmExtend (mCons (mCall 4 S__law_wait (mCons (mVar 0) (mCons (mVar 7) (mCons (mVar 6) (mCons (mArg gLen (mCons (mPeek 8) mNil)) mNil))))) mNil)))
def r__law_deed_8 (S__law_pick : FSpec) : SM := (mExprX (mMut 8 gmAppend (mCons (mTup (mCons (mVar 11) (mCons (mCall 2 S__law_pick (mCons (mVar 0) (mCons (mVar 6) mNil))) mNil))) mNil)))
def r__law_deed_7 (S__law_take : FSpec) (S__law_pick : FSpec) : SM := (mSeq (mSet 11 (mBin gIx (mLst (mCons (mC (.str "call")) (mCons (mC (.str "all")) mNil))) (mArg gInt (mCons (mAndE (mBin gEq (mPeek 4) (mC (.str "when free"))) (mBin gEq (mCall 2 S__law_take (mCons (mVar 0) (mCons (mC (.int 3)) mNil))) (mC (.int 0)))) mNil)))) (r__law_deed_8 S__law_pick))
def r__law_deed_12 (S__law_pick : FSpec) (S__law_sum : FSpec) : SM := (mExprX (mMut 8 gmAppend (mCons (mTup (mCons (mC (.str "do")) (mCons (mVar 14) (mCons (mVar 12) (mCons (mCall 2 S__law_pick (mCons (mVar 0) (mCons (mVar 13) mNil))) (mCons (mCall 4 S__law_sum (mCons (mVar 0) (mCons (mVar 7) (mCons (mLst mNil) (mCons (mC (.int 1)) mNil))))) mNil)))))) mNil)))
def r__law_deed_11 (S__law_pick : FSpec) (S__law_sum : FSpec) : SM := (mSeq (mSet 14 (mCall 2 S__law_pick (mCons (mVar 0) (mCons (mBin gCat (mLst (mCons (mC .non) mNil)) (mPeek 5)) mNil)))) (r__law_deed_12 S__law_pick S__law_sum))
def r__law_deed_10 (S__law_pick : FSpec) (S__law_sum : FSpec) : SM := (mSeq (mAsg (tgT [(tgN 12), (tgN 13)]) (mCall 2 S__law_pick (mCons (mVar 0) (mCons (mVar 2) mNil)))) (r__law_deed_11 S__law_pick S__law_sum))
def r__law_deed_14 (S__law_sum : FSpec) : SM := (mExprX (mMut 8 gmAppend (mCons (mTup (mCons (mC (.str "tell")) (mCons (mCall 4 S__law_sum (mCons (mVar 0) (mCons (mVar 7) (mCons (mVar 6) (mCons (mC (.int 1)) mNil))))) mNil))) mNil)))
def r__law_deed_17 (S__law_take : FSpec) : SM := (mExprX (mMut 8 gmAppend (mCons (mTup (mCons (mC (.str "tell")) (mCons (mCall 2 S__law_take (mCons (mVar 0) (mCons (mC (.int 10)) mNil))) mNil))) mNil)))
def r__law_deed_16 (S__law_take : FSpec) (S__law_sum : FSpec) : SM := (mSeq (mExprX (mMut 8 gmAppend (mCons (mTup (mCons (mC (.str "unless")) (mCons (mCall 4 S__law_sum (mCons (mVar 0) (mCons (mVar 7) (mCons (mVar 6) (mCons (mC (.int 2)) mNil))))) (mCons (mBin gAdd (mArg gLen (mCons (mPeek 8) mNil)) (mC (.int 2))) mNil)))) mNil))) (r__law_deed_17 S__law_take))
def r__law_deed_19 (S__law_pick : FSpec) (S__law_sum : FSpec) : SM := (mExprX (mMut 8 gmAppend (mCons (mTup (mCons (mC (.str "put")) (mCons (mCall 2 S__law_pick (mCons (mVar 0) (mCons (mVar 5) mNil))) (mCons (mCall 4 S__law_sum (mCons (mVar 0) (mCons (mVar 7) (mCons (mVar 6) (mCons (mC (.int 2)) mNil))))) mNil)))) mNil)))
def r__law_deed_20 (S__law_sum : FSpec) : SM := (mExprX (mMut 8 gmAppend (mCons (mTup (mCons (mC (.str "tell")) (mCons (mCall 4 S__law_sum (mCons (mVar 0) (mCons (mVar 7) (mCons (mLst mNil) (mCons (mC (.int 1)) mNil))))) mNil))) mNil)))
def r__law_deed_18 (S__law_pick : FSpec) (S__law_sum : FSpec) : SM := (mIf (mBinT gNe (mPeek 5) (mLst mNil)) (r__law_deed_19 S__law_pick S__law_sum) (r__law_deed_20 S__law_sum))
def r__law_deed_15 (S__law_take : FSpec) (S__law_pick : FSpec) (S__law_sum : FSpec) : SM := (mIf (mBinT gEq (mPeek 10) (mC (.int 7))) (r__law_deed_16 S__law_take S__law_sum) (r__law_deed_18 S__law_pick S__law_sum))
def r__law_deed_13 (S__law_take : FSpec) (S__law_pick : FSpec) (S__law_sum : FSpec) : SM := (mIf (mBinT gEq (mPeek 10) (mC (.int 6))) (r__law_deed_14 S__law_sum) (r__law_deed_15 S__law_take S__law_pick S__law_sum))
def r__law_deed_9 (S__law_take : FSpec) (S__law_pick : FSpec) (S__law_sum : FSpec) : SM := (mIf (mAndT (mBinT gEq (mPeek 10) (mC (.int 5))) (mBinT gNe (mPeek 2) (mLst mNil))) (r__law_deed_10 S__law_pick S__law_sum) (r__law_deed_13 S__law_take S__law_pick S__law_sum))
def r__law_deed_6 (S__law_take : FSpec) (S__law_pick : FSpec) (S__law_sum : FSpec) : SM := (mIf (mAndT (mBinT gLt (mPeek 10) (mC (.int 5))) (mBinT gNe (mPeek 6) (mLst mNil))) (r__law_deed_7 S__law_take S__law_pick) (r__law_deed_9 S__law_take S__law_pick S__law_sum))
def r__law_deed_4 (S__law_take : FSpec) (S__law_wait : FSpec) (S__law_pick : FSpec) (S__law_sum : FSpec) : SM := (mIf (mAndT (mBinT gLt (mPeek 10) (mC (.int 3))) (mBinT gNe (mPeek 6) (mLst mNil))) (r__law_deed_5 S__law_wait) (r__law_deed_6 S__law_take S__law_pick S__law_sum))
def r__law_deed_3 (S__law_take : FSpec) (S__law_wait : FSpec) (S__law_pick : FSpec) (S__law_sum : FSpec) : SM := (mSeq (mSet 10 (mCall 2 S__law_take (mCons (mVar 0) (mCons (mC (.int 10)) mNil)))) (r__law_deed_4 S__law_take S__law_wait S__law_pick S__law_sum))
def r__law_deed_21 : SM := (mRet (mArg gTuple (mCons (mPeek 8) mNil)))
def r__law_deed_2 (S__law_take : FSpec) (S__law_wait : FSpec) (S__law_pick : FSpec) (S__law_sum : FSpec) : SM := (mSeq (mFor (mRng1 (mCons (mBin gAdd (mC (.int 1)) (mCall 2 S__law_take (mCons (mVar 0) (mCons (mVar 3) mNil)))) mNil)) (tgN 9) (r__law_deed_3 S__law_take S__law_wait S__law_pick S__law_sum)) (r__law_deed_21))
def r__law_deed_1 (S__law_take : FSpec) (S__law_wait : FSpec) (S__law_pick : FSpec) (S__law_sum : FSpec) : SM := (mSeq (mSetN 8 (mLst mNil)) (r__law_deed_2 S__law_take S__law_wait S__law_pick S__law_sum))
def r__law_deed_0 (S__law_take : FSpec) (S__law_wait : FSpec) (S__law_pick : FSpec) (S__law_sum : FSpec) : SM := (mSeq (mSet 7 (mBin gCat (mPeek 5) (mLst (mCons (mC (.str "given")) mNil)))) (r__law_deed_1 S__law_take S__law_wait S__law_pick S__law_sum))
def r__law_deed (S__law_take : FSpec) (S__law_wait : FSpec) (S__law_pick : FSpec) (S__law_sum : FSpec) : SM := (mSeq (mAsg (tgT [(tgN 4), (tgN 5), (tgN 6)]) (mVar 1)) (r__law_deed_0 S__law_take S__law_wait S__law_pick S__law_sum))
theorem ok__law_deed {S__law_take : FSpec} {S__law_wait : FSpec} {S__law_pick : FSpec} {S__law_sum : FSpec} {sp : FSpec} (T : Txt K mg) (G__law_take : FnOk P w K mg base CX0 k T.a__law_take T.f__law_take ["_law_hand_here", "_law_many"] (FS K mg 2 S__law_take)) (G__law_wait : FnOk P w K mg base CX0 k T.a__law_wait T.f__law_wait ["_law_hand_here", "_law_words", "_law_bells", "_law_at"] (FS K mg 4 S__law_wait)) (G__law_pick : FnOk P w K mg base CX0 k T.a__law_pick T.f__law_pick ["_law_hand_here", "_law_some"] (FS K mg 2 S__law_pick)) (G__law_sum : FnOk P w K mg base CX0 k T.a__law_sum T.f__law_sum ["_law_hand_here", "_law_words", "_law_bells", "_law_deep"] (FS K mg 4 S__law_sum))
    (h : ∀ args et R, sp args et R → r__law_deed S__law_take S__law_wait S__law_pick S__law_sum (env0 ["_law_hand_here", "_law_room_here", "_law_later", "_law_many", "_law_manner", "_law_things", "_law_bells", "_law_words", "_law_rows", "_law_k", "_law_way", "_law_word", "_law_name", "_law_deeds", "_law_goal"] args) et (retK R)) :
    FnOk P w K mg base CX0 (k + 1) T.a__law_deed T.f__law_deed ["_law_hand_here", "_law_room_here", "_law_later", "_law_many"] (FS K mg 4 sp) :=
  have nd := sc__law_deed.nd
  fn_ok T.F__law_deed sc__law_deed (fun cdv A outer s H E hr => (ss_cons (s_asg (sE_var (pv 1)) (pg_tup rfl (pgs_cons (pg_name (i := 4) nd rfl (by first | exact Or.inl rfl | exact Or.inr rfl)) (pgs_cons (pg_name (i := 5) nd rfl (by first | exact Or.inl rfl | exact Or.inr rfl)) (pgs_cons (pg_name (i := 6) nd rfl (by first | exact Or.inl rfl | exact Or.inr rfl)) pgs_nil)))) (g_tup rfl (g_cons (g_name 4) (g_cons (g_name 5) (g_cons (g_name 6) g_nil)))))
    (ss_cons (s_set (i := 7) nd rfl (by first | exact Or.inl rfl | exact Or.inr rfl) (SimN.e (sN_op op_cat o2_cat (sP_var (pv 5)) (SimN.p (sN_lst (sA_cons sE_str sA_nil))))))
    (ss_cons (s_setN (i := 8) nd rfl (by first | exact Or.inl rfl | exact Or.inr rfl) (sN_lst sA_nil))
    (ss_cons (s_for PassesOwn.never rfl (sI_rng1 rfl T.z_range (sA_cons (sE_op op_addA o2_add (SimE.p sE_int) (SimE.p (sE_call G__law_take hr rfl T.m__law_take T.F__law_take.kp T.b__law_take (sA_cons (sE_var (pv 0)) (sA_cons (sE_var (pv 3)) sA_nil))))) sA_nil)) (pg_name (i := 9) nd rfl (by first | exact Or.inl rfl | exact Or.inr rfl)) (g_name 9) (ss_cons (s_set (i := 10) nd rfl (by first | exact Or.inl rfl | exact Or.inr rfl) (sE_call G__law_take hr rfl T.m__law_take T.F__law_take.kp T.b__law_take (sA_cons (sE_var (pv 0)) (sA_cons sE_int sA_nil))))
    (ss_one (s_if (PW.pt (sW_and (sT_cmp op_ltA o2_lt (sP_var (pv 10)) (SimE.p sE_int) (nomark _)) (sW_and1 (sT_cmp (op_neA hr.h64) o2_ne (sP_var (pv 6)) (SimN.p (sN_lst sA_nil)) (nomark _))))) (ss_one (s_exprX (sX_mut PySem.F.slot_list_extend PySem.F.type_list_extend mt_extend mo_extend (pv 8) (sA_cons (sE_call G__law_wait hr rfl T.m__law_wait T.F__law_wait.kp T.b__law_wait (sA_cons (sE_var (pv 0)) (sA_cons (sE_var (pv 7)) (sA_cons (sE_var (pv 6)) (sA_cons (sE_callB call_len oA_len rfl T.z_len boot_len (sAP_cons (sP_var (pv 8)) sAP_nil)) sA_nil))))) sA_nil) (fun h1 h2 => pe_bm PySem.F.plainAttrs_list PySem.F.slot_list_extend PySem.F.type_list_extend mt_extend h1 h2)))) (ss_one (s_if (PW.pt (sW_and (sT_cmp op_ltA o2_lt (sP_var (pv 10)) (SimE.p sE_int) (nomark _)) (sW_and1 (sT_cmp (op_neA hr.h64) o2_ne (sP_var (pv 6)) (SimN.p (sN_lst sA_nil)) (nomark _))))) (ss_cons (s_set (i := 11) nd rfl (by first | exact Or.inl rfl | exact Or.inr rfl) (sE_ix (SimN.p (sN_lst (sA_cons sE_str (sA_cons sE_str sA_nil)))) (SimE.p (sE_callTy call_int1 oA_int rfl T.z_int boot_int (sAP_cons (SimE.p (sE_and (sE_cmp (op_eqA hr.h64) o2_eq (sP_var (pv 4)) (SimE.p sE_str) (nomark _)) (sE_one (sE_cmp (op_eqA hr.h64) o2_eq (SimE.p (sE_call G__law_take hr rfl T.m__law_take T.F__law_take.kp T.b__law_take (sA_cons (sE_var (pv 0)) (sA_cons sE_int sA_nil)))) (SimE.p sE_int) (nomark _))))) sAP_nil)))))
    (ss_one (s_exprX (sX_mut PySem.F.slot_list_append PySem.F.type_list_append mt_append mo_append (pv 8) (sA_cons (sE_tup (sA_cons (sE_var (pv 11)) (sA_cons (sE_call G__law_pick hr rfl T.m__law_pick T.F__law_pick.kp T.b__law_pick (sA_cons (sE_var (pv 0)) (sA_cons (sE_var (pv 6)) sA_nil))) sA_nil))) sA_nil) (fun h1 h2 => pe_bm PySem.F.plainAttrs_list PySem.F.slot_list_append PySem.F.type_list_append mt_append h1 h2))))) (ss_one (s_if (PW.pt (sW_and (sT_cmp (op_eqA hr.h64) o2_eq (sP_var (pv 10)) (SimE.p sE_int) (nomark _)) (sW_and1 (sT_cmp (op_neA hr.h64) o2_ne (sP_var (pv 2)) (SimN.p (sN_lst sA_nil)) (nomark _))))) (ss_cons (s_asg (sE_call G__law_pick hr rfl T.m__law_pick T.F__law_pick.kp T.b__law_pick (sA_cons (sE_var (pv 0)) (sA_cons (sE_var (pv 2)) sA_nil))) (pg_tup rfl (pgs_cons (pg_name (i := 12) nd rfl (by first | exact Or.inl rfl | exact Or.inr rfl)) (pgs_cons (pg_name (i := 13) nd rfl (by first | exact Or.inl rfl | exact Or.inr rfl)) pgs_nil))) (g_tup rfl (g_cons (g_name 12) (g_cons (g_name 13) g_nil))))
    (ss_cons (s_set (i := 14) nd rfl (by first | exact Or.inl rfl | exact Or.inr rfl) (sE_call G__law_pick hr rfl T.m__law_pick T.F__law_pick.kp T.b__law_pick (sA_cons (sE_var (pv 0)) (sA_cons (SimN.e (sN_op op_cat o2_cat (SimN.p (sN_lst (sA_cons sE_non sA_nil))) (sP_var (pv 5)))) sA_nil))))
    (ss_one (s_exprX (sX_mut PySem.F.slot_list_append PySem.F.type_list_append mt_append mo_append (pv 8) (sA_cons (sE_tup (sA_cons sE_str (sA_cons (sE_var (pv 14)) (sA_cons (sE_var (pv 12)) (sA_cons (sE_call G__law_pick hr rfl T.m__law_pick T.F__law_pick.kp T.b__law_pick (sA_cons (sE_var (pv 0)) (sA_cons (sE_var (pv 13)) sA_nil))) (sA_cons (sE_call G__law_sum hr rfl T.m__law_sum T.F__law_sum.kp T.b__law_sum (sA_cons (sE_var (pv 0)) (sA_cons (sE_var (pv 7)) (sA_cons (SimN.e (sN_lst sA_nil)) (sA_cons sE_int sA_nil))))) sA_nil)))))) sA_nil) (fun h1 h2 => pe_bm PySem.F.plainAttrs_list PySem.F.slot_list_append PySem.F.type_list_append mt_append h1 h2)))))) (ss_one (s_if (sT_cmp (op_eqA hr.h64) o2_eq (sP_var (pv 10)) (SimE.p sE_int) (nomark _)) (ss_one (s_exprX (sX_mut PySem.F.slot_list_append PySem.F.type_list_append mt_append mo_append (pv 8) (sA_cons (sE_tup (sA_cons sE_str (sA_cons (sE_call G__law_sum hr rfl T.m__law_sum T.F__law_sum.kp T.b__law_sum (sA_cons (sE_var (pv 0)) (sA_cons (sE_var (pv 7)) (sA_cons (sE_var (pv 6)) (sA_cons sE_int sA_nil))))) sA_nil))) sA_nil) (fun h1 h2 => pe_bm PySem.F.plainAttrs_list PySem.F.slot_list_append PySem.F.type_list_append mt_append h1 h2)))) (ss_one (s_if (sT_cmp (op_eqA hr.h64) o2_eq (sP_var (pv 10)) (SimE.p sE_int) (nomark _)) (ss_cons (s_exprX (sX_mut PySem.F.slot_list_append PySem.F.type_list_append mt_append mo_append (pv 8) (sA_cons (sE_tup (sA_cons sE_str (sA_cons (sE_call G__law_sum hr rfl T.m__law_sum T.F__law_sum.kp T.b__law_sum (sA_cons (sE_var (pv 0)) (sA_cons (sE_var (pv 7)) (sA_cons (sE_var (pv 6)) (sA_cons sE_int sA_nil))))) (sA_cons (sE_op op_addA o2_add (SimE.p (sE_callB call_len oA_len rfl T.z_len boot_len (sAP_cons (sP_var (pv 8)) sAP_nil))) (SimE.p sE_int)) sA_nil)))) sA_nil) (fun h1 h2 => pe_bm PySem.F.plainAttrs_list PySem.F.slot_list_append PySem.F.type_list_append mt_append h1 h2)))
    (ss_one (s_exprX (sX_mut PySem.F.slot_list_append PySem.F.type_list_append mt_append mo_append (pv 8) (sA_cons (sE_tup (sA_cons sE_str (sA_cons (sE_call G__law_take hr rfl T.m__law_take T.F__law_take.kp T.b__law_take (sA_cons (sE_var (pv 0)) (sA_cons sE_int sA_nil))) sA_nil))) sA_nil) (fun h1 h2 => pe_bm PySem.F.plainAttrs_list PySem.F.slot_list_append PySem.F.type_list_append mt_append h1 h2))))) (ss_one (s_if (sT_cmp (op_neA hr.h64) o2_ne (sP_var (pv 5)) (SimN.p (sN_lst sA_nil)) (nomark _)) (ss_one (s_exprX (sX_mut PySem.F.slot_list_append PySem.F.type_list_append mt_append mo_append (pv 8) (sA_cons (sE_tup (sA_cons sE_str (sA_cons (sE_call G__law_pick hr rfl T.m__law_pick T.F__law_pick.kp T.b__law_pick (sA_cons (sE_var (pv 0)) (sA_cons (sE_var (pv 5)) sA_nil))) (sA_cons (sE_call G__law_sum hr rfl T.m__law_sum T.F__law_sum.kp T.b__law_sum (sA_cons (sE_var (pv 0)) (sA_cons (sE_var (pv 7)) (sA_cons (sE_var (pv 6)) (sA_cons sE_int sA_nil))))) sA_nil)))) sA_nil) (fun h1 h2 => pe_bm PySem.F.plainAttrs_list PySem.F.slot_list_append PySem.F.type_list_append mt_append h1 h2)))) (ss_one (s_exprX (sX_mut PySem.F.slot_list_append PySem.F.type_list_append mt_append mo_append (pv 8) (sA_cons (sE_tup (sA_cons sE_str (sA_cons (sE_call G__law_sum hr rfl T.m__law_sum T.F__law_sum.kp T.b__law_sum (sA_cons (sE_var (pv 0)) (sA_cons (sE_var (pv 7)) (sA_cons (SimN.e (sN_lst sA_nil)) (sA_cons sE_int sA_nil))))) sA_nil))) sA_nil) (fun h1 h2 => pe_bm PySem.F.plainAttrs_list PySem.F.slot_list_append PySem.F.type_list_append mt_append h1 h2))))))))))))))))))
    (ss_one (s_ret (sE_callTy call_tupleX oA_tuple rfl T.z_tuple boot_tuple (sAP_cons (sP_var (pv 8)) sAP_nil))))))))) h
def r__law_room_5 (S__law_deed : FSpec) : SM := (mExprX (mMut 6 gmAppend (mCons (mTup (mCons (mVar 7) (mCons (mCall 4 S__law_deed (mCons (mVar 0) (mCons (mTup (mCons (mVar 3) (mCons (mVar 4) (mCons (mVar 5) mNil)))) (mCons (mBin gAdd (mPeek 2) (mPeek 9)) (mCons (mC (.int 3)) mNil))))) mNil))) mNil)))
def r__law_room_4 (S__law_deed : FSpec) : SM := (mSeq (mSet 9 (mBin gRep (mLst (mCons (mTup (mCons (mVar 1) (mCons (mLcO 6 [8] (tgN 8) mYes (mBin gIx (mPeek 8) (mC (.int 0)))) mNil))) mNil)) (mArg gInt (mCons (mBin gNe (mPeek 6) (mLst mNil)) mNil)))) (r__law_room_5 S__law_deed))
def r__law_room_6 (S__law_take : FSpec) : SM := (mRet (mTup (mCons (mVar 1) (mCons (mVar 3) (mCons (mArg gTuple (mCons (mLc (mIter (mVar 4)) [10] (tgN 10) mYes (mTup (mCons (mVar 10) (mCons (mCall 2 S__law_take (mCons (mVar 0) (mCons (mC (.int 3)) mNil))) mNil)))) mNil)) (mCons (mArg gTuple (mCons (mLc (mIter (mVar 5)) [11] (tgN 11) mYes (mTup (mCons (mVar 11) (mCons (mBin gIx (mLst (mCons (mC (.str "row")) (mCons (mC (.str "turns")) mNil))) (mCall 2 S__law_take (mCons (mVar 0) (mCons (mC (.int 2)) mNil)))) mNil)))) mNil)) (mCons (mArg gTuple (mCons (mPeek 6) mNil)) mNil)))))))
def r__law_room_3 (S__law_take : FSpec) (S__law_names : FSpec) (S__law_deed : FSpec) : SM := (mSeq (mFor (mIter (mCall 2 S__law_names (mCons (mVar 0) (mCons (mBin gIx (mLst (mCons (mC (.int 1)) (mCons (mC (.int 2)) (mCons (mC (.int 2)) (mCons (mC (.int 3)) mNil))))) (mCall 2 S__law_take (mCons (mVar 0) (mCons (mC (.int 4)) mNil)))) mNil)))) (tgN 7) (r__law_room_4 S__law_deed)) (r__law_room_6 S__law_take))
def r__law_room_2 (S__law_take : FSpec) (S__law_names : FSpec) (S__law_deed : FSpec) : SM := (mSeq (mSetN 6 (mLst mNil)) (r__law_room_3 S__law_take S__law_names S__law_deed))
def r__law_room_1 (S__law_take : FSpec) (S__law_names : FSpec) (S__law_deed : FSpec) : SM := (mSeq (mSet 5 (mCall 2 S__law_names (mCons (mVar 0) (mCons (mBin gIx (mLst (mCons (mC (.int 1)) (mCons (mC (.int 1)) (mCons (mC (.int 2)) (mCons (mC (.int 0)) mNil))))) (mCall 2 S__law_take (mCons (mVar 0) (mCons (mC (.int 4)) mNil)))) mNil)))) (r__law_room_2 S__law_take S__law_names S__law_deed))
def r__law_room_0 (S__law_take : FSpec) (S__law_names : FSpec) (S__law_deed : FSpec) : SM := (mSeq (mSet 4 (mCall 2 S__law_names (mCons (mVar 0) (mCons (mBin gIx (mLst (mCons (mC (.int 1)) (mCons (mC (.int 1)) (mCons (mC (.int 2)) (mCons (mC (.int 0)) mNil))))) (mCall 2 S__law_take (mCons (mVar 0) (mCons (mC (.int 4)) mNil)))) mNil)))) (r__law_room_1 S__law_take S__law_names S__law_deed))
def r__law_room (S__law_take : FSpec) (S__law_names : FSpec) (S__law_deed : FSpec) : SM := (mSeq (mSet 3 (mBin gIx (mLst (mCons (mC (.str "at once")) (mCons (mC (.str "when free")) mNil))) (mCall 2 S__law_take (mCons (mVar 0) (mCons (mC (.int 2)) mNil))))) (r__law_room_0 S__law_take S__law_names S__law_deed))
theorem ok__law_room {S__law_take : FSpec} {S__law_names : FSpec} {S__law_deed : FSpec} {sp : FSpec} (T : Txt K mg) (G__law_take : FnOk P w K mg base CX0 k T.a__law_take T.f__law_take ["_law_hand_here", "_law_many"] (FS K mg 2 S__law_take)) (G__law_names : FnOk P w K mg base CX0 k T.a__law_names T.f__law_names ["_law_hand_here", "_law_many"] (FS K mg 2 S__law_names)) (G__law_deed : FnOk P w K mg base CX0 k T.a__law_deed T.f__law_deed ["_law_hand_here", "_law_room_here", "_law_later", "_law_many"] (FS K mg 4 S__law_deed))
    (h : ∀ args et R, sp args et R → r__law_room S__law_take S__law_names S__law_deed (env0 ["_law_hand_here", "_law_name", "_law_later", "_law_manner", "_law_things", "_law_bells", "_law_deeds", "_law_word", "_law_one", "_law_own", "_law_thing", "_law_bell"] args) et (retK R)) :
    FnOk P w K mg base CX0 (k + 1) T.a__law_room T.f__law_room ["_law_hand_here", "_law_name", "_law_later"] (FS K mg 3 sp) :=
  have nd := sc__law_room.nd
  fn_ok T.F__law_room sc__law_room (fun cdv A outer s H E hr => (ss_cons (s_set (i := 3) nd rfl (by first | exact Or.inl rfl | exact Or.inr rfl) (sE_ix (SimN.p (sN_lst (sA_cons sE_str (sA_cons sE_str sA_nil)))) (SimE.p (sE_call G__law_take hr rfl T.m__law_take T.F__law_take.kp T.b__law_take (sA_cons (sE_var (pv 0)) (sA_cons sE_int sA_nil))))))
    (ss_cons (s_set (i := 4) nd rfl (by first | exact Or.inl rfl | exact Or.inr rfl) (sE_call G__law_names hr rfl T.m__law_names T.F__law_names.kp T.b__law_names (sA_cons (sE_var (pv 0)) (sA_cons (sE_ix (SimN.p (sN_lst (sA_cons sE_int (sA_cons sE_int (sA_cons sE_int (sA_cons sE_int sA_nil)))))) (SimE.p (sE_call G__law_take hr rfl T.m__law_take T.F__law_take.kp T.b__law_take (sA_cons (sE_var (pv 0)) (sA_cons sE_int sA_nil))))) sA_nil))))
    (ss_cons (s_set (i := 5) nd rfl (by first | exact Or.inl rfl | exact Or.inr rfl) (sE_call G__law_names hr rfl T.m__law_names T.F__law_names.kp T.b__law_names (sA_cons (sE_var (pv 0)) (sA_cons (sE_ix (SimN.p (sN_lst (sA_cons sE_int (sA_cons sE_int (sA_cons sE_int (sA_cons sE_int sA_nil)))))) (SimE.p (sE_call G__law_take hr rfl T.m__law_take T.F__law_take.kp T.b__law_take (sA_cons (sE_var (pv 0)) (sA_cons sE_int sA_nil))))) sA_nil))))
    (ss_cons (s_setN (i := 6) nd rfl (by first | exact Or.inl rfl | exact Or.inr rfl) (sN_lst sA_nil))
    (ss_cons (s_for PassesOwn.never rfl (sI_any (sE_call G__law_names hr rfl T.m__law_names T.F__law_names.kp T.b__law_names (sA_cons (sE_var (pv 0)) (sA_cons (sE_ix (SimN.p (sN_lst (sA_cons sE_int (sA_cons sE_int (sA_cons sE_int (sA_cons sE_int sA_nil)))))) (SimE.p (sE_call G__law_take hr rfl T.m__law_take T.F__law_take.kp T.b__law_take (sA_cons (sE_var (pv 0)) (sA_cons sE_int sA_nil))))) sA_nil)))) (pg_name (i := 7) nd rfl (by first | exact Or.inl rfl | exact Or.inr rfl)) (g_name 7) (ss_cons (s_set (i := 9) nd rfl (by first | exact Or.inl rfl | exact Or.inr rfl) (SimN.e (sN_op op_rep o2_rep (SimN.p (sN_lst (sA_cons (sE_tup (sA_cons (sE_var (pv 1)) (sA_cons (SimN.e (sN_lcO (own := [("_law_one", 8)]) (g_name 8) (by simp) rfl nd (pv 6) (blkOk_by (N := ["_law_hand_here", "_law_name", "_law_later", "_law_manner", "_law_things", "_law_bells", "_law_deeds", "_law_word", "_law_one", "_law_own", "_law_thing", "_law_bell"]) (sc := defScope s__law_room) (by decide +kernel)) (fun _ _ _ _ _ => (pg_name (i := 8) nd rfl (by first | exact Or.inl rfl | exact Or.inr rfl))) (fun _ _ _ _ _ => pts_yes) (fun _ _ _ _ _ => (sE_ix (sP_var (pv 8)) (SimE.p sE_int))))) sA_nil))) sA_nil))) (SimE.p (sE_callTy call_int1 oA_int rfl T.z_int boot_int (sAP_cons (SimE.p (sE_cmp (op_neA hr.h64) o2_ne (sP_var (pv 6)) (SimN.p (sN_lst sA_nil)) (nomark _))) sAP_nil))))))
    (ss_one (s_exprX (sX_mut PySem.F.slot_list_append PySem.F.type_list_append mt_append mo_append (pv 6) (sA_cons (sE_tup (sA_cons (sE_var (pv 7)) (sA_cons (sE_call G__law_deed hr rfl T.m__law_deed T.F__law_deed.kp T.b__law_deed (sA_cons (sE_var (pv 0)) (sA_cons (sE_tup (sA_cons (sE_var (pv 3)) (sA_cons (sE_var (pv 4)) (sA_cons (sE_var (pv 5)) sA_nil)))) (sA_cons (sE_op op_addA o2_add (sP_var (pv 2)) (sP_var (pv 9))) (sA_cons sE_int sA_nil))))) sA_nil))) sA_nil) (fun h1 h2 => pe_bm PySem.F.plainAttrs_list PySem.F.slot_list_append PySem.F.type_list_append mt_append h1 h2))))))
    (ss_one (s_ret (sE_tup (sA_cons (sE_var (pv 1)) (sA_cons (sE_var (pv 3)) (sA_cons (sE_callTy call_tupleX oA_tuple rfl T.z_tuple boot_tuple (sAP_cons (SimN.p (sN_lc (own := [("_law_thing", 10)]) (g_name 10) (by simp) rfl nd (sI_any (sE_var (pv 4))) (blkOk_by (N := ["_law_hand_here", "_law_name", "_law_later", "_law_manner", "_law_things", "_law_bells", "_law_deeds", "_law_word", "_law_one", "_law_own", "_law_thing", "_law_bell"]) (sc := defScope s__law_room) (by decide +kernel)) (fun _ _ _ _ _ => (pg_name (i := 10) nd rfl (by first | exact Or.inl rfl | exact Or.inr rfl))) (fun _ _ _ _ _ => pts_yes) (fun _ _ _ _ _ => (sE_tup (sA_cons (sE_var (pv 10)) (sA_cons (sE_call G__law_take hr rfl T.m__law_take T.F__law_take.kp T.b__law_take (sA_cons (sE_var (pv 0)) (sA_cons sE_int sA_nil))) sA_nil)))))) sAP_nil)) (sA_cons (sE_callTy call_tupleX oA_tuple rfl T.z_tuple boot_tuple (sAP_cons (SimN.p (sN_lc (own := [("_law_bell", 11)]) (g_name 11) (by simp) rfl nd (sI_any (sE_var (pv 5))) (blkOk_by (N := ["_law_hand_here", "_law_name", "_law_later", "_law_manner", "_law_things", "_law_bells", "_law_deeds", "_law_word", "_law_one", "_law_own", "_law_thing", "_law_bell"]) (sc := defScope s__law_room) (by decide +kernel)) (fun _ _ _ _ _ => (pg_name (i := 11) nd rfl (by first | exact Or.inl rfl | exact Or.inr rfl))) (fun _ _ _ _ _ => pts_yes) (fun _ _ _ _ _ => (sE_tup (sA_cons (sE_var (pv 11)) (sA_cons (sE_ix (SimN.p (sN_lst (sA_cons sE_str (sA_cons sE_str sA_nil)))) (SimE.p (sE_call G__law_take hr rfl T.m__law_take T.F__law_take.kp T.b__law_take (sA_cons (sE_var (pv 0)) (sA_cons sE_int sA_nil))))) sA_nil)))))) sAP_nil)) (sA_cons (sE_callTy call_tupleX oA_tuple rfl T.z_tuple boot_tuple (sAP_cons (sP_var (pv 6)) sAP_nil)) sA_nil)))))))))))))) h
def r__law_rooms_2 (S__law_room : FSpec) : SM := (mExprX (mMut 2 gmAppend (mCons (mCall 3 S__law_room (mCons (mVar 0) (mCons (mVar 3) (mCons (mVar 6) mNil)))) mNil)))
def r__law_rooms_1 (S__law_room : FSpec) : SM := (mSeq (mSet 6 (mLcO 2 [4] (tgN 4) mYes (mTup (mCons (mBin gIx (mPeek 4) (mC (.int 0))) (mCons (mLc (mIter (mBin gIx (mPeek 4) (mC (.int 4)))) [5] (tgN 5) mYes (mBin gIx (mPeek 5) (mC (.int 0)))) mNil))))) (r__law_rooms_2 S__law_room))
def r__law_rooms_3 : SM := (mRet (mArg gTuple (mCons (mSortedT (mPeek 2)) mNil)))
def r__law_rooms_0 (S__law_names : FSpec) (S__law_take : FSpec) (S__law_room : FSpec) : SM := (mSeq (mFor (mIter (mCall 2 S__law_names (mCons (mVar 0) (mCons (mBin gAdd (mC (.int 1)) (mCall 2 S__law_take (mCons (mVar 0) (mCons (mVar 1) mNil)))) mNil)))) (tgN 3) (r__law_rooms_1 S__law_room)) (r__law_rooms_3))
def r__law_rooms (S__law_names : FSpec) (S__law_take : FSpec) (S__law_room : FSpec) : SM := (mSeq (mSetN 2 (mLst mNil)) (r__law_rooms_0 S__law_names S__law_take S__law_room))
theorem ok__law_rooms {S__law_names : FSpec} {S__law_take : FSpec} {S__law_room : FSpec} {sp : FSpec} (T : Txt K mg) (G__law_names : FnOk P w K mg base CX0 k T.a__law_names T.f__law_names ["_law_hand_here", "_law_many"] (FS K mg 2 S__law_names)) (G__law_take : FnOk P w K mg base CX0 k T.a__law_take T.f__law_take ["_law_hand_here", "_law_many"] (FS K mg 2 S__law_take)) (G__law_room : FnOk P w K mg base CX0 k T.a__law_room T.f__law_room ["_law_hand_here", "_law_name", "_law_later"] (FS K mg 3 S__law_room))
    (h : ∀ args et R, sp args et R → r__law_rooms S__law_names S__law_take S__law_room (env0 ["_law_hand_here", "_law_most", "_law_rooms_here", "_law_name", "_law_room_here", "_law_deed_here", "_law_later"] args) et (retK R)) :
    FnOk P w K mg base CX0 (k + 1) T.a__law_rooms T.f__law_rooms ["_law_hand_here", "_law_most"] (FS K mg 2 sp) :=
  have nd := sc__law_rooms.nd
  fn_ok T.F__law_rooms sc__law_rooms (fun cdv A outer s H E hr => (ss_cons (s_setN (i := 2) nd rfl (by first | exact Or.inl rfl | exact Or.inr rfl) (sN_lst sA_nil))
    (ss_cons (s_for PassesOwn.never rfl (sI_any (sE_call G__law_names hr rfl T.m__law_names T.F__law_names.kp T.b__law_names (sA_cons (sE_var (pv 0)) (sA_cons (sE_op op_addA o2_add (SimE.p sE_int) (SimE.p (sE_call G__law_take hr rfl T.m__law_take T.F__law_take.kp T.b__law_take (sA_cons (sE_var (pv 0)) (sA_cons (sE_var (pv 1)) sA_nil))))) sA_nil)))) (pg_name (i := 3) nd rfl (by first | exact Or.inl rfl | exact Or.inr rfl)) (g_name 3) (ss_cons (s_setLcEO (i := 6) (own := [("_law_room_here", 4)]) (g_name 4) (by simp) rfl nd rfl rfl (sw_true rfl rfl rfl (by decide +kernel)) (pv 2) (blkOk_by (N := ["_law_hand_here", "_law_most", "_law_rooms_here", "_law_name", "_law_room_here", "_law_deed_here", "_law_later"]) (sc := defScope s__law_rooms) (by decide +kernel)) (fun _ _ _ _ _ => (pg_name (i := 4) nd rfl (by first | exact Or.inl rfl | exact Or.inr rfl))) (fun _ _ _ _ _ => pts_yes) (fun _ _ _ _ _ => (sE_tup (sA_cons (sE_ix (sP_var (pv 4)) (SimE.p sE_int)) (sA_cons (SimN.e (sN_lc (own := [("_law_deed_here", 5)]) (g_name 5) (by simp) rfl nd (sI_any (sE_ix (sP_var (pv 4)) (SimE.p sE_int))) (blkOk_by (by kernel_rfl)) (fun _ _ _ _ _ => (pg_name (i := 5) nd rfl (by first | exact Or.inl rfl | exact Or.inr rfl))) (fun _ _ _ _ _ => pts_yes) (fun _ _ _ _ _ => (sE_ix (sP_var (pv 5)) (SimE.p sE_int))))) sA_nil)))))
    (ss_one (s_exprX (sX_mut PySem.F.slot_list_append PySem.F.type_list_append mt_append mo_append (pv 2) (sA_cons (sE_call G__law_room hr rfl T.m__law_room T.F__law_room.kp T.b__law_room (sA_cons (sE_var (pv 0)) (sA_cons (sE_var (pv 3)) (sA_cons (sE_var (pv 6)) sA_nil)))) sA_nil) (fun h1 h2 => pe_bm PySem.F.plainAttrs_list PySem.F.slot_list_append PySem.F.type_list_append mt_append h1 h2))))))
    (ss_one (s_ret (sE_callTy call_tupleX oA_tuple rfl T.z_tuple boot_tuple (sAP_cons (SimN.p (sN_sortedT rfl T.z_sorted (sP_var (pv 2)))) sAP_nil))))))) h
def r__law_program_6 (S__law_pick : FSpec) (S__law_sum : FSpec) : SM := (mExprX (mMut 5 gmAppend (mCons (mTup (mCons (mC (.str "do")) (mCons (mCall 2 S__law_pick (mCons (mVar 0) (mCons (mVar 9) mNil))) (mCons (mBin gIx (mPeek 8) (mC (.int 0))) (mCons (mVar 10) (mCons (mCall 4 S__law_sum (mCons (mVar 0) (mCons (mVar 2) (mCons (mLst mNil) (mCons (mC (.int 1)) mNil))))) mNil)))))) mNil)))
def r__law_program_5 (S__law_pick : FSpec) (S__law_sum : FSpec) : SM := (mSeq (mSet 10 (mBin gIx (mCall 2 S__law_pick (mCons (mVar 0) (mCons (mBin gIx (mPeek 8) (mC (.int 4))) mNil))) (mC (.int 0)))) (r__law_program_6 S__law_pick S__law_sum))
def r__law_program_4 (S__law_pick : FSpec) (S__law_sum : FSpec) : SM := (mSeq (mSet 9 (mBin gCat (mLst (mCons (mC .non) mNil)) (mPeek 2))) (r__law_program_5 S__law_pick S__law_sum))
def r__law_program_3 (S__law_pick : FSpec) (S__law_sum : FSpec) : SM := (mSeq (mSet 8 (mCall 2 S__law_pick (mCons (mVar 0) (mCons (mVar 1) mNil)))) (r__law_program_4 S__law_pick S__law_sum))
def r__law_program_8 (S__law_take : FSpec) (S__law_pick : FSpec) : SM := (mExprX (mMut 5 gmAppend (mCons (mTup (mCons (mBin gIx (mLst (mCons (mC (.str "take")) (mCons (mC (.str "give")) mNil))) (mCall 2 S__law_take (mCons (mVar 0) (mCons (mC (.int 2)) mNil)))) (mCons (mCall 2 S__law_pick (mCons (mVar 0) (mCons (mVar 3) mNil))) mNil))) mNil)))
def r__law_program_10 (S__law_pick : FSpec) (S__law_sum : FSpec) : SM := (mExprX (mMut 5 gmAppend (mCons (mTup (mCons (mC (.str "put")) (mCons (mCall 2 S__law_pick (mCons (mVar 0) (mCons (mVar 2) mNil))) (mCons (mCall 4 S__law_sum (mCons (mVar 0) (mCons (mVar 2) (mCons (mLst mNil) (mCons (mC (.int 2)) mNil))))) mNil)))) mNil)))
def r__law_program_12 (S__law_sum : FSpec) : SM := (mExprX (mMut 5 gmAppend (mCons (mTup (mCons (mC (.str "unless")) (mCons (mCall 4 S__law_sum (mCons (mVar 0) (mCons (mVar 2) (mCons (mLst mNil) (mCons (mC (.int 2)) mNil))))) (mCons (mBin gAdd (mArg gLen (mCons (mPeek 5) mNil)) (mC (.int 2))) mNil)))) mNil)))
def r__law_program_14 : SM := (mExprX (mMut 5 gmAppend (mCons (mTup (mCons (mC (.str "go")) (mCons (mBin gAdd (mArg gLen (mCons (mPeek 5) mNil)) (mC (.int 2))) mNil))) mNil)))
def r__law_program_15 (S__law_sum : FSpec) : SM := (mExprX (mMut 5 gmAppend (mCons (mTup (mCons (mC (.str "say")) (mCons (mCall 4 S__law_sum (mCons (mVar 0) (mCons (mVar 2) (mCons (mLst mNil) (mCons (mC (.int 1)) mNil))))) mNil))) mNil)))
def r__law_program_13 (S__law_sum : FSpec) : SM := (mSeq (mIf (mBinT gEq (mPeek 7) (mC (.int 10))) (r__law_program_14) mNext) (r__law_program_15 S__law_sum))
def r__law_program_11 (S__law_sum : FSpec) : SM := (mSeq (mIf (mBinT gEq (mPeek 7) (mC (.int 9))) (r__law_program_12 S__law_sum) mNext) (r__law_program_13 S__law_sum))
def r__law_program_9 (S__law_pick : FSpec) (S__law_sum : FSpec) : SM := (mIf (mAndT (mBinT gEq (mPeek 7) (mC (.int 8))) (mBinT gNe (mPeek 2) (mLst mNil))) (r__law_program_10 S__law_pick S__law_sum) (r__law_program_11 S__law_sum))
def r__law_program_7 (S__law_take : FSpec) (S__law_pick : FSpec) (S__law_sum : FSpec) : SM := (mIf (mAndT (mBinT gLt (mPeek 7) (mC (.int 8))) (mBinT gNe (mPeek 3) (mLst mNil))) (r__law_program_8 S__law_take S__law_pick) (r__law_program_9 S__law_pick S__law_sum))
def r__law_program_2 (S__law_take : FSpec) (S__law_pick : FSpec) (S__law_sum : FSpec) : SM := (mIf (mAndT (mBinT gLt (mPeek 7) (mC (.int 6))) (mBinT gNe (mPeek 1) (mTup mNil))) (r__law_program_3 S__law_pick S__law_sum) (r__law_program_7 S__law_take S__law_pick S__law_sum))
def r__law_program_1 (S__law_take : FSpec) (S__law_pick : FSpec) (S__law_sum : FSpec) : SM := (mSeq (mSet 7 (mCall 2 S__law_take (mCons (mVar 0) (mCons (mC (.int 12)) mNil)))) (r__law_program_2 S__law_take S__law_pick S__law_sum))
def r__law_program_19 : SM := (mExprX (mMut 5 gmExtend (mCons (mLst (mCons (mTup (mCons (mC (.str "unless")) (mCons (mTup (mCons (mC (.str "less")) (mCons (mVar 11) (mCons (mC (.int 3)) mNil)))) (mCons (mBin gAdd (mPeek 12) (mC (.int 3))) mNil)))) (mCons (mTup (mCons (mC (.str "go")) (mCons (mC (.int 0)) mNil))) mNil))) mNil)))
def r__law_program_18 : SM := (mSeq (mExprX (mMut 5 gmAppend (mCons (mTup (mCons (mC (.str "put")) (mCons (mVar 11) (mCons (mTup (mCons (mC (.str "plus")) (mCons (mVar 11) (mCons (mC (.int 1)) mNil)))) mNil)))) mNil))) (r__law_program_19))
def r__law_program_17 (S__law_pick : FSpec) : SM := (mSeq (mPar 11 12 (mCons (mCall 2 S__law_pick (mCons (mVar 0) (mCons (mVar 2) mNil))) (mCons (mArg gLen (mCons (mPeek 5) mNil)) mNil))) (r__law_program_18))
def r__law_program_20 : SM := (mRet (mArg gTuple (mCons (mPeek 5) mNil)))
def r__law_program_16 (S__law_take : FSpec) (S__law_pick : FSpec) : SM := (mSeq (mIf (mAndT (mBinT gNe (mPeek 2) (mLst mNil)) (mBinT gEq (mCall 2 S__law_take (mCons (mVar 0) (mCons (mC (.int 4)) mNil))) (mC (.int 0)))) (r__law_program_17 S__law_pick) mNext) (r__law_program_20))
def r__law_program_0 (S__law_take : FSpec) (S__law_pick : FSpec) (S__law_sum : FSpec) : SM := (mSeq (mFor (mRng1 (mCons (mBin gAdd (mC (.int 1)) (mCall 2 S__law_take (mCons (mVar 0) (mCons (mVar 4) mNil)))) mNil)) (tgN 6) (r__law_program_1 S__law_take S__law_pick S__law_sum)) (r__law_program_16 S__law_take S__law_pick))
def r__law_program (S__law_take : FSpec) (S__law_pick : FSpec) (S__law_sum : FSpec) : SM := (mSeq (mSetN 5 (mLst mNil)) (r__law_program_0 S__law_take S__law_pick S__law_sum))
theorem ok__law_program {S__law_take : FSpec} {S__law_pick : FSpec} {S__law_sum : FSpec} {sp : FSpec} (T : Txt K mg) (G__law_take : FnOk P w K mg base CX0 k T.a__law_take T.f__law_take ["_law_hand_here", "_law_many"] (FS K mg 2 S__law_take)) (G__law_pick : FnOk P w K mg base CX0 k T.a__law_pick T.f__law_pick ["_law_hand_here", "_law_some"] (FS K mg 2 S__law_pick)) (G__law_sum : FnOk P w K mg base CX0 k T.a__law_sum T.f__law_sum ["_law_hand_here", "_law_words", "_law_bells", "_law_deep"] (FS K mg 4 S__law_sum))
    (h : ∀ args et R, sp args et R → r__law_program S__law_take S__law_pick S__law_sum (env0 ["_law_hand_here", "_law_rooms_here", "_law_words", "_law_passes", "_law_many", "_law_rows", "_law_k", "_law_way", "_law_room_here", "_law_goal", "_law_deed_here", "_law_word", "_law_at"] args) et (retK R)) :
    FnOk P w K mg base CX0 (k + 1) T.a__law_program T.f__law_program ["_law_hand_here", "_law_rooms_here", "_law_words", "_law_passes", "_law_many"] (FS K mg 5 sp) :=
  have nd := sc__law_program.nd
  fn_ok T.F__law_program sc__law_program (fun cdv A outer s H E hr => (ss_cons (s_setN (i := 5) nd rfl (by first | exact Or.inl rfl | exact Or.inr rfl) (sN_lst sA_nil))
    (ss_cons (s_for PassesOwn.never rfl (sI_rng1 rfl T.z_range (sA_cons (sE_op op_addA o2_add (SimE.p sE_int) (SimE.p (sE_call G__law_take hr rfl T.m__law_take T.F__law_take.kp T.b__law_take (sA_cons (sE_var (pv 0)) (sA_cons (sE_var (pv 4)) sA_nil))))) sA_nil)) (pg_name (i := 6) nd rfl (by first | exact Or.inl rfl | exact Or.inr rfl)) (g_name 6) (ss_cons (s_set (i := 7) nd rfl (by first | exact Or.inl rfl | exact Or.inr rfl) (sE_call G__law_take hr rfl T.m__law_take T.F__law_take.kp T.b__law_take (sA_cons (sE_var (pv 0)) (sA_cons sE_int sA_nil))))
    (ss_one (s_if (PW.pt (sW_and (sT_cmp op_ltA o2_lt (sP_var (pv 7)) (SimE.p sE_int) (nomark _)) (sW_and1 (sT_cmp (op_neA hr.h64) o2_ne (sP_var (pv 1)) (SimE.p (sE_tup sA_nil)) (nomark _))))) (ss_cons (s_set (i := 8) nd rfl (by first | exact Or.inl rfl | exact Or.inr rfl) (sE_call G__law_pick hr rfl T.m__law_pick T.F__law_pick.kp T.b__law_pick (sA_cons (sE_var (pv 0)) (sA_cons (sE_var (pv 1)) sA_nil))))
    (ss_cons (s_set (i := 9) nd rfl (by first | exact Or.inl rfl | exact Or.inr rfl) (SimN.e (sN_op op_cat o2_cat (SimN.p (sN_lst (sA_cons sE_non sA_nil))) (sP_var (pv 2)))))
    (ss_cons (s_set (i := 10) nd rfl (by first | exact Or.inl rfl | exact Or.inr rfl) (sE_ix (SimE.p (sE_call G__law_pick hr rfl T.m__law_pick T.F__law_pick.kp T.b__law_pick (sA_cons (sE_var (pv 0)) (sA_cons (sE_ix (sP_var (pv 8)) (SimE.p sE_int)) sA_nil)))) (SimE.p sE_int)))
    (ss_one (s_exprX (sX_mut PySem.F.slot_list_append PySem.F.type_list_append mt_append mo_append (pv 5) (sA_cons (sE_tup (sA_cons sE_str (sA_cons (sE_call G__law_pick hr rfl T.m__law_pick T.F__law_pick.kp T.b__law_pick (sA_cons (sE_var (pv 0)) (sA_cons (sE_var (pv 9)) sA_nil))) (sA_cons (sE_ix (sP_var (pv 8)) (SimE.p sE_int)) (sA_cons (sE_var (pv 10)) (sA_cons (sE_call G__law_sum hr rfl T.m__law_sum T.F__law_sum.kp T.b__law_sum (sA_cons (sE_var (pv 0)) (sA_cons (sE_var (pv 2)) (sA_cons (SimN.e (sN_lst sA_nil)) (sA_cons sE_int sA_nil))))) sA_nil)))))) sA_nil) (fun h1 h2 => pe_bm PySem.F.plainAttrs_list PySem.F.slot_list_append PySem.F.type_list_append mt_append h1 h2))))))) (ss_one (s_if (PW.pt (sW_and (sT_cmp op_ltA o2_lt (sP_var (pv 7)) (SimE.p sE_int) (nomark _)) (sW_and1 (sT_cmp (op_neA hr.h64) o2_ne (sP_var (pv 3)) (SimN.p (sN_lst sA_nil)) (nomark _))))) (ss_one (s_exprX (sX_mut PySem.F.slot_list_append PySem.F.type_list_append mt_append mo_append (pv 5) (sA_cons (sE_tup (sA_cons (sE_ix (SimN.p (sN_lst (sA_cons sE_str (sA_cons sE_str sA_nil)))) (SimE.p (sE_call G__law_take hr rfl T.m__law_take T.F__law_take.kp T.b__law_take (sA_cons (sE_var (pv 0)) (sA_cons sE_int sA_nil))))) (sA_cons (sE_call G__law_pick hr rfl T.m__law_pick T.F__law_pick.kp T.b__law_pick (sA_cons (sE_var (pv 0)) (sA_cons (sE_var (pv 3)) sA_nil))) sA_nil))) sA_nil) (fun h1 h2 => pe_bm PySem.F.plainAttrs_list PySem.F.slot_list_append PySem.F.type_list_append mt_append h1 h2)))) (ss_one (s_if (PW.pt (sW_and (sT_cmp (op_eqA hr.h64) o2_eq (sP_var (pv 7)) (SimE.p sE_int) (nomark _)) (sW_and1 (sT_cmp (op_neA hr.h64) o2_ne (sP_var (pv 2)) (SimN.p (sN_lst sA_nil)) (nomark _))))) (ss_one (s_exprX (sX_mut PySem.F.slot_list_append PySem.F.type_list_append mt_append mo_append (pv 5) (sA_cons (sE_tup (sA_cons sE_str (sA_cons (sE_call G__law_pick hr rfl T.m__law_pick T.F__law_pick.kp T.b__law_pick (sA_cons (sE_var (pv 0)) (sA_cons (sE_var (pv 2)) sA_nil))) (sA_cons (sE_call G__law_sum hr rfl T.m__law_sum T.F__law_sum.kp T.b__law_sum (sA_cons (sE_var (pv 0)) (sA_cons (sE_var (pv 2)) (sA_cons (SimN.e (sN_lst sA_nil)) (sA_cons sE_int sA_nil))))) sA_nil)))) sA_nil) (fun h1 h2 => pe_bm PySem.F.plainAttrs_list PySem.F.slot_list_append PySem.F.type_list_append mt_append h1 h2)))) (ss_cons (s_if (sT_cmp (op_eqA hr.h64) o2_eq (sP_var (pv 7)) (SimE.p sE_int) (nomark _)) (ss_one (s_exprX (sX_mut PySem.F.slot_list_append PySem.F.type_list_append mt_append mo_append (pv 5) (sA_cons (sE_tup (sA_cons sE_str (sA_cons (sE_call G__law_sum hr rfl T.m__law_sum T.F__law_sum.kp T.b__law_sum (sA_cons (sE_var (pv 0)) (sA_cons (sE_var (pv 2)) (sA_cons (SimN.e (sN_lst sA_nil)) (sA_cons sE_int sA_nil))))) (sA_cons (sE_op op_addA o2_add (SimE.p (sE_callB call_len oA_len rfl T.z_len boot_len (sAP_cons (sP_var (pv 5)) sAP_nil))) (SimE.p sE_int)) sA_nil)))) sA_nil) (fun h1 h2 => pe_bm PySem.F.plainAttrs_list PySem.F.slot_list_append PySem.F.type_list_append mt_append h1 h2)))) ss_nil)
    (ss_cons (s_if (sT_cmp (op_eqA hr.h64) o2_eq (sP_var (pv 7)) (SimE.p sE_int) (nomark _)) (ss_one (s_exprX (sX_mut PySem.F.slot_list_append PySem.F.type_list_append mt_append mo_append (pv 5) (sA_cons (sE_tup (sA_cons sE_str (sA_cons (sE_op op_addA o2_add (SimE.p (sE_callB call_len oA_len rfl T.z_len boot_len (sAP_cons (sP_var (pv 5)) sAP_nil))) (SimE.p sE_int)) sA_nil))) sA_nil) (fun h1 h2 => pe_bm PySem.F.plainAttrs_list PySem.F.slot_list_append PySem.F.type_list_append mt_append h1 h2)))) ss_nil)
    (ss_one (s_exprX (sX_mut PySem.F.slot_list_append PySem.F.type_list_append mt_append mo_append (pv 5) (sA_cons (sE_tup (sA_cons sE_str (sA_cons (sE_call G__law_sum hr rfl T.m__law_sum T.F__law_sum.kp T.b__law_sum (sA_cons (sE_var (pv 0)) (sA_cons (sE_var (pv 2)) (sA_cons (SimN.e (sN_lst sA_nil)) (sA_cons sE_int sA_nil))))) sA_nil))) sA_nil) (fun h1 h2 => pe_bm PySem.F.plainAttrs_list PySem.F.slot_list_append PySem.F.type_list_append mt_append h1 h2))))))))))))))
    (ss_cons (s_if (PW.pt (sW_and (sT_cmp (op_neA hr.h64) o2_ne (sP_var (pv 2)) (SimN.p (sN_lst sA_nil)) (nomark _)) (sW_and1 (sT_cmp (op_eqA hr.h64) o2_eq (SimE.p (sE_call G__law_take hr rfl T.m__law_take T.F__law_take.kp T.b__law_take (sA_cons (sE_var (pv 0)) (sA_cons sE_int sA_nil)))) (SimE.p sE_int) (nomark _))))) (ss_cons (two_par (i := 11) (j := 12) rfl nd rfl rfl (by decide) (fun h => ps_par rfl nd rfl rfl (by decide) rfl rfl h rfl) (sA_cons (sE_call G__law_pick hr rfl T.m__law_pick T.F__law_pick.kp T.b__law_pick (sA_cons (sE_var (pv 0)) (sA_cons (sE_var (pv 2)) sA_nil))) (sA_cons (sE_callB call_len oA_len rfl T.z_len boot_len (sAP_cons (sP_var (pv 5)) sAP_nil)) sA_nil)))
    (ss_cons (s_exprX (sX_mut PySem.F.slot_list_append PySem.F.type_list_append mt_append mo_append (pv 5) (sA_cons (sE_tup (sA_cons sE_str (sA_cons (sE_var (pv 11)) (sA_cons (sE_tup (sA_cons sE_str (sA_cons (sE_var (pv 11)) (sA_cons sE_int sA_nil)))) sA_nil)))) sA_nil) (fun h1 h2 => pe_bm PySem.F.plainAttrs_list PySem.F.slot_list_append PySem.F.type_list_append mt_append h1 h2)))
    (ss_one (s_exprX (sX_mut PySem.F.slot_list_extend PySem.F.type_list_extend mt_extend mo_extend (pv 5) (sA_cons (SimN.e (sN_lst (sA_cons (sE_tup (sA_cons sE_str (sA_cons (sE_tup (sA_cons sE_str (sA_cons (sE_var (pv 11)) (sA_cons sE_int sA_nil)))) (sA_cons (sE_op op_addA o2_add (sP_var (pv 12)) (SimE.p sE_int)) sA_nil)))) (sA_cons (sE_tup (sA_cons sE_str (sA_cons sE_int sA_nil))) sA_nil)))) sA_nil) (fun h1 h2 => pe_bm PySem.F.plainAttrs_list PySem.F.slot_list_extend PySem.F.type_list_extend mt_extend h1 h2)))))) ss_nil)
    (ss_one (s_ret (sE_callTy call_tupleX oA_tuple rfl T.z_tuple boot_tuple (sAP_cons (sP_var (pv 5)) sAP_nil)))))))) h
def r__law_world_6 (S__law_take : FSpec) : SM := (mExprX (mMut 7 gmAppend (mCons (mTup (mCons (mArg gTuple (mCons (mLc (mIter (mVar 9)) [11] (tgN 11) mYes (mTup (mCons (mVar 11) (mCons (mCall 2 S__law_take (mCons (mVar 0) (mCons (mC (.int 3)) mNil))) mNil)))) mNil)) (mCons (mVar 10) mNil))) mNil)))
def r__law_world_5 (S__law_take : FSpec) (S__law_program : FSpec) : SM := (mSeq (mSet 10 (mCall 5 S__law_program (mCons (mVar 0) (mCons (mVar 3) (mCons (mBin gAdd (mPeek 9) (mPeek 6)) (mCons (mVar 5) (mCons (mC (.int 3)) mNil))))))) (r__law_world_6 S__law_take))
def r__law_world_4 (S__law_names : FSpec) (S__law_take : FSpec) (S__law_program : FSpec) : SM := (mSeq (mSet 9 (mLc (mIter (mCall 2 S__law_names (mCons (mVar 0) (mCons (mBin gIx (mLst (mCons (mC (.int 0)) (mCons (mC (.int 1)) (mCons (mC (.int 1)) (mCons (mC (.int 2)) mNil))))) (mCall 2 S__law_take (mCons (mVar 0) (mCons (mC (.int 4)) mNil)))) mNil)))) [4] (tgN 4) mYes (mBin gAdd (mC (.str "h")) (mPeek 4)))) (r__law_world_5 S__law_take S__law_program))
def r__law_world_7 (S__law_take : FSpec) : SM := (mRet (mTup (mCons (mVar 3) (mCons (mArg gTuple (mCons (mLc (mIter (mVar 5)) [4] (tgN 4) mYes (mTup (mCons (mVar 4) (mCons (mCall 2 S__law_take (mCons (mVar 0) (mCons (mC (.int 3)) mNil))) mNil)))) mNil)) (mCons (mArg gTuple (mCons (mLc (mIter (mVar 6)) [4] (tgN 4) mYes (mTup (mCons (mVar 4) (mCons (mCall 2 S__law_take (mCons (mVar 0) (mCons (mC (.int 3)) mNil))) mNil)))) mNil)) (mCons (mArg gTuple (mCons (mPeek 7) mNil)) mNil))))))
def r__law_world_3 (S__law_names : FSpec) (S__law_take : FSpec) (S__law_program : FSpec) : SM := (mSeq (mFor (mRng1 (mCons (mVar 2) mNil)) (tgN 8) (r__law_world_4 S__law_names S__law_take S__law_program)) (r__law_world_7 S__law_take))
def r__law_world_2 (S__law_names : FSpec) (S__law_take : FSpec) (S__law_program : FSpec) : SM := (mSeq (mSetN 7 (mLst mNil)) (r__law_world_3 S__law_names S__law_take S__law_program))
def r__law_world_1 (S__law_names : FSpec) (S__law_take : FSpec) (S__law_program : FSpec) : SM := (mSeq (mSet 6 (mLc (mIter (mCall 2 S__law_names (mCons (mVar 0) (mCons (mBin gIx (mLst (mCons (mC (.int 0)) (mCons (mC (.int 0)) (mCons (mC (.int 0)) (mCons (mC (.int 1)) mNil))))) (mCall 2 S__law_take (mCons (mVar 0) (mCons (mC (.int 4)) mNil)))) mNil)))) [4] (tgN 4) mYes (mBin gAdd (mC (.str "o")) (mPeek 4)))) (r__law_world_2 S__law_names S__law_take S__law_program))
def r__law_world_0 (S__law_names : FSpec) (S__law_take : FSpec) (S__law_program : FSpec) : SM := (mSeq (mSet 5 (mLc (mIter (mCall 2 S__law_names (mCons (mVar 0) (mCons (mBin gIx (mLst (mCons (mC (.int 0)) (mCons (mC (.int 0)) (mCons (mC (.int 1)) (mCons (mC (.int 2)) mNil))))) (mCall 2 S__law_take (mCons (mVar 0) (mCons (mC (.int 4)) mNil)))) mNil)))) [4] (tgN 4) (mBinT gLt (mArg gLen (mCons (mPeek 4) mNil)) (mC (.int 5))) (mBin gAdd (mC (.str "pass")) (mPeek 4)))) (r__law_world_1 S__law_names S__law_take S__law_program))
def r__law_world (S__law_rooms : FSpec) (S__law_names : FSpec) (S__law_take : FSpec) (S__law_program : FSpec) : SM := (mSeq (mSet 3 (mCall 2 S__law_rooms (mCons (mVar 0) (mCons (mVar 1) mNil)))) (r__law_world_0 S__law_names S__law_take S__law_program))
theorem ok__law_world {S__law_rooms : FSpec} {S__law_names : FSpec} {S__law_take : FSpec} {S__law_program : FSpec} {sp : FSpec} (T : Txt K mg) (G__law_rooms : FnOk P w K mg base CX0 k T.a__law_rooms T.f__law_rooms ["_law_hand_here", "_law_most"] (FS K mg 2 S__law_rooms)) (G__law_names : FnOk P w K mg base CX0 k T.a__law_names T.f__law_names ["_law_hand_here", "_law_many"] (FS K mg 2 S__law_names)) (G__law_take : FnOk P w K mg base CX0 k T.a__law_take T.f__law_take ["_law_hand_here", "_law_many"] (FS K mg 2 S__law_take)) (G__law_program : FnOk P w K mg base CX0 k T.a__law_program T.f__law_program ["_law_hand_here", "_law_rooms_here", "_law_words", "_law_passes", "_law_many"] (FS K mg 5 S__law_program))
    (h : ∀ args et R, sp args et R → r__law_world S__law_rooms S__law_names S__law_take S__law_program (env0 ["_law_hand_here", "_law_most", "_law_hands", "_law_rooms_here", "_law_one", "_law_passes", "_law_opened", "_law_made", "_law_k", "_law_own", "_law_program_here", "_law_word"] args) et (retK R)) :
    FnOk P w K mg base CX0 (k + 1) T.a__law_world T.f__law_world ["_law_hand_here", "_law_most", "_law_hands"] (FS K mg 3 sp) :=
  have nd := sc__law_world.nd
  fn_ok T.F__law_world sc__law_world (fun cdv A outer s H E hr => (ss_cons (s_set (i := 3) nd rfl (by first | exact Or.inl rfl | exact Or.inr rfl) (sE_call G__law_rooms hr rfl T.m__law_rooms T.F__law_rooms.kp T.b__law_rooms (sA_cons (sE_var (pv 0)) (sA_cons (sE_var (pv 1)) sA_nil))))
    (ss_cons (s_setLcE (i := 5) (own := [("_law_one", 4)]) (g_name 4) (by simp) rfl nd rfl rfl (sw_true rfl rfl rfl (by decide +kernel)) (sI_any (sE_call G__law_names hr rfl T.m__law_names T.F__law_names.kp T.b__law_names (sA_cons (sE_var (pv 0)) (sA_cons (sE_ix (SimN.p (sN_lst (sA_cons sE_int (sA_cons sE_int (sA_cons sE_int (sA_cons sE_int sA_nil)))))) (SimE.p (sE_call G__law_take hr rfl T.m__law_take T.F__law_take.kp T.b__law_take (sA_cons (sE_var (pv 0)) (sA_cons sE_int sA_nil))))) sA_nil)))) (blkOk_by (N := ["_law_hand_here", "_law_most", "_law_hands", "_law_rooms_here", "_law_one", "_law_passes", "_law_opened", "_law_made", "_law_k", "_law_own", "_law_program_here", "_law_word"]) (sc := defScope s__law_world) (by decide +kernel)) (fun _ _ _ _ _ => (pg_name (i := 4) nd rfl (by first | exact Or.inl rfl | exact Or.inr rfl))) (fun _ _ _ _ _ => pts_if (sT_cmp op_ltA o2_lt (SimE.p (sE_callB call_len oA_len rfl T.z_len boot_len (sAP_cons (sP_var (pv 4)) sAP_nil))) (SimE.p sE_int) (nomark _))) (fun _ _ _ _ _ => (sE_op op_addA o2_add (SimE.p sE_str) (sP_var (pv 4)))))
    (ss_cons (s_setLcE (i := 6) (own := [("_law_one", 4)]) (g_name 4) (by simp) rfl nd rfl rfl (sw_true rfl rfl rfl (by decide +kernel)) (sI_any (sE_call G__law_names hr rfl T.m__law_names T.F__law_names.kp T.b__law_names (sA_cons (sE_var (pv 0)) (sA_cons (sE_ix (SimN.p (sN_lst (sA_cons sE_int (sA_cons sE_int (sA_cons sE_int (sA_cons sE_int sA_nil)))))) (SimE.p (sE_call G__law_take hr rfl T.m__law_take T.F__law_take.kp T.b__law_take (sA_cons (sE_var (pv 0)) (sA_cons sE_int sA_nil))))) sA_nil)))) (blkOk_by (N := ["_law_hand_here", "_law_most", "_law_hands", "_law_rooms_here", "_law_one", "_law_passes", "_law_opened", "_law_made", "_law_k", "_law_own", "_law_program_here", "_law_word"]) (sc := defScope s__law_world) (by decide +kernel)) (fun _ _ _ _ _ => (pg_name (i := 4) nd rfl (by first | exact Or.inl rfl | exact Or.inr rfl))) (fun _ _ _ _ _ => pts_yes) (fun _ _ _ _ _ => (sE_op op_addA o2_add (SimE.p sE_str) (sP_var (pv 4)))))
    (ss_cons (s_setN (i := 7) nd rfl (by first | exact Or.inl rfl | exact Or.inr rfl) (sN_lst sA_nil))
    (ss_cons (s_for PassesOwn.never rfl (sI_rng1 rfl T.z_range (sA_cons (sE_var (pv 2)) sA_nil)) (pg_name (i := 8) nd rfl (by first | exact Or.inl rfl | exact Or.inr rfl)) (g_name 8) (ss_cons (s_setLcE (i := 9) (own := [("_law_one", 4)]) (g_name 4) (by simp) rfl nd rfl rfl (sw_true rfl rfl rfl (by decide +kernel)) (sI_any (sE_call G__law_names hr rfl T.m__law_names T.F__law_names.kp T.b__law_names (sA_cons (sE_var (pv 0)) (sA_cons (sE_ix (SimN.p (sN_lst (sA_cons sE_int (sA_cons sE_int (sA_cons sE_int (sA_cons sE_int sA_nil)))))) (SimE.p (sE_call G__law_take hr rfl T.m__law_take T.F__law_take.kp T.b__law_take (sA_cons (sE_var (pv 0)) (sA_cons sE_int sA_nil))))) sA_nil)))) (blkOk_by (N := ["_law_hand_here", "_law_most", "_law_hands", "_law_rooms_here", "_law_one", "_law_passes", "_law_opened", "_law_made", "_law_k", "_law_own", "_law_program_here", "_law_word"]) (sc := defScope s__law_world) (by decide +kernel)) (fun _ _ _ _ _ => (pg_name (i := 4) nd rfl (by first | exact Or.inl rfl | exact Or.inr rfl))) (fun _ _ _ _ _ => pts_yes) (fun _ _ _ _ _ => (sE_op op_addA o2_add (SimE.p sE_str) (sP_var (pv 4)))))
    (ss_cons (s_set (i := 10) nd rfl (by first | exact Or.inl rfl | exact Or.inr rfl) (sE_call G__law_program hr rfl T.m__law_program T.F__law_program.kp T.b__law_program (sA_cons (sE_var (pv 0)) (sA_cons (sE_var (pv 3)) (sA_cons (sE_op op_addA o2_add (sP_var (pv 9)) (sP_var (pv 6))) (sA_cons (sE_var (pv 5)) (sA_cons sE_int sA_nil)))))))
    (ss_one (s_exprX (sX_mut PySem.F.slot_list_append PySem.F.type_list_append mt_append mo_append (pv 7) (sA_cons (sE_tup (sA_cons (sE_callTy call_tupleX oA_tuple rfl T.z_tuple boot_tuple (sAP_cons (SimN.p (sN_lc (own := [("_law_word", 11)]) (g_name 11) (by simp) rfl nd (sI_any (sE_var (pv 9))) (blkOk_by (N := ["_law_hand_here", "_law_most", "_law_hands", "_law_rooms_here", "_law_one", "_law_passes", "_law_opened", "_law_made", "_law_k", "_law_own", "_law_program_here", "_law_word"]) (sc := defScope s__law_world) (by decide +kernel)) (fun _ _ _ _ _ => (pg_name (i := 11) nd rfl (by first | exact Or.inl rfl | exact Or.inr rfl))) (fun _ _ _ _ _ => pts_yes) (fun _ _ _ _ _ => (sE_tup (sA_cons (sE_var (pv 11)) (sA_cons (sE_call G__law_take hr rfl T.m__law_take T.F__law_take.kp T.b__law_take (sA_cons (sE_var (pv 0)) (sA_cons sE_int sA_nil))) sA_nil)))))) sAP_nil)) (sA_cons (sE_var (pv 10)) sA_nil))) sA_nil) (fun h1 h2 => pe_bm PySem.F.plainAttrs_list PySem.F.slot_list_append PySem.F.type_list_append mt_append h1 h2)))))))
    (ss_one (s_ret (sE_tup (sA_cons (sE_var (pv 3)) (sA_cons (sE_callTy call_tupleX oA_tuple rfl T.z_tuple boot_tuple (sAP_cons (SimN.p (sN_lc (own := [("_law_one", 4)]) (g_name 4) (by simp) rfl nd (sI_any (sE_var (pv 5))) (blkOk_by (N := ["_law_hand_here", "_law_most", "_law_hands", "_law_rooms_here", "_law_one", "_law_passes", "_law_opened", "_law_made", "_law_k", "_law_own", "_law_program_here", "_law_word"]) (sc := defScope s__law_world) (by decide +kernel)) (fun _ _ _ _ _ => (pg_name (i := 4) nd rfl (by first | exact Or.inl rfl | exact Or.inr rfl))) (fun _ _ _ _ _ => pts_yes) (fun _ _ _ _ _ => (sE_tup (sA_cons (sE_var (pv 4)) (sA_cons (sE_call G__law_take hr rfl T.m__law_take T.F__law_take.kp T.b__law_take (sA_cons (sE_var (pv 0)) (sA_cons sE_int sA_nil))) sA_nil)))))) sAP_nil)) (sA_cons (sE_callTy call_tupleX oA_tuple rfl T.z_tuple boot_tuple (sAP_cons (SimN.p (sN_lc (own := [("_law_one", 4)]) (g_name 4) (by simp) rfl nd (sI_any (sE_var (pv 6))) (blkOk_by (N := ["_law_hand_here", "_law_most", "_law_hands", "_law_rooms_here", "_law_one", "_law_passes", "_law_opened", "_law_made", "_law_k", "_law_own", "_law_program_here", "_law_word"]) (sc := defScope s__law_world) (by decide +kernel)) (fun _ _ _ _ _ => (pg_name (i := 4) nd rfl (by first | exact Or.inl rfl | exact Or.inr rfl))) (fun _ _ _ _ _ => pts_yes) (fun _ _ _ _ _ => (sE_tup (sA_cons (sE_var (pv 4)) (sA_cons (sE_call G__law_take hr rfl T.m__law_take T.F__law_take.kp T.b__law_take (sA_cons (sE_var (pv 0)) (sA_cons sE_int sA_nil))) sA_nil)))))) sAP_nil)) (sA_cons (sE_callTy call_tupleX oA_tuple rfl T.z_tuple boot_tuple (sAP_cons (sP_var (pv 7)) sAP_nil)) sA_nil))))))))))))) h
def r__law_refused_1 : SM := (mSet 2 (mVar 3))
def r__law_refused_3 : SM := (mRet (mC (.bl false)))
def r__law_refused_4 : SM := (mRet (mAndE (mIsiE false [("NoManner", true)] (mVar 2)) (mIsiE false [("NoManner", true)] (mVar 2))))
def r__law_refused_2 : SM := (mSeq (mIf (mAsT (mIsiE false [("NoManner", false)] (mVar 2))) (r__law_refused_3) mNext) (r__law_refused_4))
def r__law_refused_0 (S_exchanged_X : XSpec) : SM := (mSeq (mTryC 3 ["NoManner"] (mExprE (mCallE 2 S_exchanged_X (mCons (mVar 0) (mCons (mVar 1) mNil)))) (r__law_refused_1)) (r__law_refused_2))
def r__law_refused (S_exchanged_X : XSpec) : SM := (mSeq (mSet 2 (mC .non)) (r__law_refused_0 S_exchanged_X))
theorem ok__law_refused {S_exchanged_X : XSpec} {sp : FSpec} (T : Txt K mg) (G_exchanged_X : FnOk P w K mg base (L2.CX P w) k T.a_exchanged T.f_exchanged ["world", "room"] (FSX K mg 2 S_exchanged_X))
    (h : ∀ args et R, sp args et R → r__law_refused S_exchanged_X (env0 ["_law_world_here", "_law_room_here", "_law_caught", "e"] args) et (retK R)) :
    FnOk P w K mg base CX0 (k + 1) T.a__law_refused T.f__law_refused ["_law_world_here", "_law_room_here"] (FS K mg 2 sp) :=
  have nd := sc__law_refused.nd
  fn_ok T.F__law_refused sc__law_refused (fun cdv A outer s H E hr => (ss_cons (s_set (i := 2) nd rfl (by first | exact Or.inl rfl | exact Or.inr rfl) sE_non)
    (ss_cons (s_tryC (i := 3) (cs := ["NoManner"]) rfl rfl nd rfl rfl ⟨rfl, by decide, Or.inl T.g_RoomError⟩ (catches_cons T.g_NoManner T.xf_RoomError T.sb_NoManner_RoomError catches_nil) (fun W pn xe tk => (sY_expr (sE_callX G_exchanged_X hr rfl T.m_exchanged T.F_exchanged.kp T.b_exchanged (fun σ => passAt tk σ) (sA_cons (sE_var (pv 0)) (sA_cons (sE_var (pv 1)) sA_nil))))) (fun a pn => (ss_one (s_set (i := 2) nd rfl (by first | exact Or.inl rfl | exact Or.inr rfl) (sE_var (pv 3))))))
    (ss_cons (s_if (sT_val (sE_isiET (an := false) (ans := [("NoManner", false)]) (isi_more T.g_NoManner T.xf_NoManner (ka_cons (kitOne_ref T.xf_NoLine T.sb_NoManner_NoLine) (ka_cons (kitOne_ref T.xf_NoPasses T.sb_NoManner_NoPasses) (ka_cons (kitOne_ref T.xf_NoRooms T.sb_NoManner_NoRooms) (ka_cons (kitOne_ref T.xf_NoStep T.sb_NoManner_NoStep) (ka_cons (kitOne_ref T.xf_NoText T.sb_NoManner_NoText) ka_nil))))) (isi_mk (ka_cons (kitOne_non T.xf_NoLine T.nn_NoLine) (ka_cons (kitOne_non T.xf_NoPasses T.nn_NoPasses) (ka_cons (kitOne_non T.xf_NoRooms T.nn_NoRooms) (ka_cons (kitOne_non T.xf_NoStep T.nn_NoStep) (ka_cons (kitOne_non T.xf_NoText T.nn_NoText) ka_nil))))))) (ClsNms.cons (clsNm_ref rfl T.g_NoLine) (ClsNms.cons (clsNm_ref rfl T.g_NoPasses) (ClsNms.cons (clsNm_ref rfl T.g_NoRooms) (ClsNms.cons (clsNm_ref rfl T.g_NoStep) (ClsNms.cons (clsNm_ref rfl T.g_NoText) ClsNms.nil rfl) rfl) rfl) rfl) rfl) (by simp) rfl T.z_isinstance (sE_var (pv 2)))) (ss_one (s_ret sE_bl)) ss_nil)
    (ss_one (s_ret (sE_and (sE_isiE (an := false) (ans := [("NoManner", true)]) (isi_more T.g_NoManner T.xf_NoManner (ka_cons (kitOne_ref T.xf_NoManner T.sb_NoManner_NoManner) ka_nil) (isi_mk (ka_cons (kitOne_non T.xf_NoManner T.nn_NoManner) ka_nil))) (clsNm_ref rfl T.g_NoManner) rfl T.z_isinstance (sE_var (pv 2))) (sE_one (sE_isiE (an := false) (ans := [("NoManner", true)]) (isi_more T.g_NoManner T.xf_NoManner (ka_cons (kitOne_ve T.ve_NoManner) ka_nil) (isi_mk (ka_cons kitOne_nve ka_nil))) (clsNm_ve rfl T.z_ValueError) rfl T.z_isinstance (sE_var (pv 2))))))))))) h
def r__law_other_3 : SM := (mSet 5 (mBin gIx (mLst (mCons (mC (.str "at once")) (mCons (mC (.str "when free")) mNil))) (mArg gInt (mCons (mBin gEq (mPeek 5) (mC (.str "at once"))) mNil))))
def r__law_other_4 : SM := (mExprX (mMut 2 gmAppend (mCons (mTup (mCons (mBin gIx (mPeek 4) (mC (.int 0))) (mCons (mVar 5) (mCons (mBin gIx (mPeek 4) (mC (.int 2))) (mCons (mBin gIx (mPeek 4) (mC (.int 3))) (mCons (mBin gIx (mPeek 4) (mC (.int 4))) mNil)))))) mNil)))
def r__law_other_2 : SM := (mSeq (mIf (mBinT gEq (mPeek 3) (mPeek 1)) (r__law_other_3) mNext) (r__law_other_4))
def r__law_other_1 : SM := (mSeq (mSet 5 (mBin gIx (mPeek 4) (mC (.int 1)))) (r__law_other_2))
def r__law_other_5 : SM := (mRet (mTup (mCons (mArg gTuple (mCons (mPeek 2) mNil)) (mCons (mBin gIx (mPeek 0) (mC (.int 1))) (mCons (mBin gIx (mPeek 0) (mC (.int 2))) (mCons (mBin gIx (mPeek 0) (mC (.int 3))) mNil))))))
def r__law_other_0 : SM := (mSeq (mFor (mEnumA (mCons (mBin gIx (mPeek 0) (mC (.int 0))) mNil)) (tgT [(tgN 3), (tgN 4)]) (r__law_other_1)) (r__law_other_5))
def r__law_other : SM := (mSeq (mSetN 2 (mLst mNil)) (r__law_other_0))
theorem ok__law_other {sp : FSpec} (T : Txt K mg) 
    (h : ∀ args et R, sp args et R → r__law_other  (env0 ["_law_world_here", "_law_at", "_law_rooms_here", "_law_k", "_law_room_here", "_law_manner"] args) et (retK R)) :
    FnOk P w K mg base CX0 (k + 1) T.a__law_other T.f__law_other ["_law_world_here", "_law_at"] (FS K mg 2 sp) :=
  have nd := sc__law_other.nd
  fn_ok T.F__law_other sc__law_other (fun cdv A outer s H E hr => (ss_cons (s_setN (i := 2) nd rfl (by first | exact Or.inl rfl | exact Or.inr rfl) (sN_lst sA_nil))
    (ss_cons (s_for PassesOwn.never rfl (sI_enumA rfl T.z_enumerate (sA_cons (sE_ix (sP_var (pv 0)) (SimE.p sE_int)) sA_nil)) (pg_tup rfl (pgs_cons (pg_name (i := 3) nd rfl (by first | exact Or.inl rfl | exact Or.inr rfl)) (pgs_cons (pg_name (i := 4) nd rfl (by first | exact Or.inl rfl | exact Or.inr rfl)) pgs_nil))) (g_tup rfl (g_cons (g_name 3) (g_cons (g_name 4) g_nil))) (ss_cons (s_set (i := 5) nd rfl (by first | exact Or.inl rfl | exact Or.inr rfl) (sE_ix (sP_var (pv 4)) (SimE.p sE_int)))
    (ss_cons (s_if (sT_cmp (op_eqA hr.h64) o2_eq (sP_var (pv 3)) (sP_var (pv 1)) (nomark _)) (ss_one (s_set (i := 5) nd rfl (by first | exact Or.inl rfl | exact Or.inr rfl) (sE_ix (SimN.p (sN_lst (sA_cons sE_str (sA_cons sE_str sA_nil)))) (SimE.p (sE_callTy call_int1 oA_int rfl T.z_int boot_int (sAP_cons (SimE.p (sE_cmp (op_eqA hr.h64) o2_eq (sP_var (pv 5)) (SimE.p sE_str) (nomark _))) sAP_nil)))))) ss_nil)
    (ss_one (s_exprX (sX_mut PySem.F.slot_list_append PySem.F.type_list_append mt_append mo_append (pv 2) (sA_cons (sE_tup (sA_cons (sE_ix (sP_var (pv 4)) (SimE.p sE_int)) (sA_cons (sE_var (pv 5)) (sA_cons (sE_ix (sP_var (pv 4)) (SimE.p sE_int)) (sA_cons (sE_ix (sP_var (pv 4)) (SimE.p sE_int)) (sA_cons (sE_ix (sP_var (pv 4)) (SimE.p sE_int)) sA_nil)))))) sA_nil) (fun h1 h2 => pe_bm PySem.F.plainAttrs_list PySem.F.slot_list_append PySem.F.type_list_append mt_append h1 h2)))))))
    (ss_one (s_ret (sE_tup (sA_cons (sE_callTy call_tupleX oA_tuple rfl T.z_tuple boot_tuple (sAP_cons (sP_var (pv 2)) sAP_nil)) (sA_cons (sE_ix (sP_var (pv 0)) (SimE.p sE_int)) (sA_cons (sE_ix (sP_var (pv 0)) (SimE.p sE_int)) (sA_cons (sE_ix (sP_var (pv 0)) (SimE.p sE_int)) sA_nil)))))))))) h
def r__law_calls_all_1 : SM := (mExprX (mMut 1 gmExtend (mCons (mLc (mIter (mVar 3)) [4] (tgN 4) (mBinT gEq (mBin gIx (mPeek 4) (mC (.int 0))) (mC (.str "all"))) (mVar 4)) mNil)))
def r__law_calls_all_2 : SM := (mRet (mBin gNe (mPeek 1) (mLst mNil)))
def r__law_calls_all_0 : SM := (mSeq (mFor (mIter (mBin gIx (mPeek 0) (mC (.int 4)))) (tgT [(tgN 2), (tgN 3)]) (r__law_calls_all_1)) (r__law_calls_all_2))
def r__law_calls_all : SM := (mSeq (mSetN 1 (mLst mNil)) (r__law_calls_all_0))
theorem ok__law_calls_all {sp : FSpec} (T : Txt K mg) 
    (h : ∀ args et R, sp args et R → r__law_calls_all  (env0 ["_law_room_here", "_law_found", "_law_word", "_law_program_here", "_law_row"] args) et (retK R)) :
    FnOk P w K mg base CX0 (k + 1) T.a__law_calls_all T.f__law_calls_all ["_law_room_here"] (FS K mg 1 sp) :=
  have nd := sc__law_calls_all.nd
  fn_ok T.F__law_calls_all sc__law_calls_all (fun cdv A outer s H E hr => (ss_cons (s_setN (i := 1) nd rfl (by first | exact Or.inl rfl | exact Or.inr rfl) (sN_lst sA_nil))
    (ss_cons (s_for PassesOwn.never rfl (sI_any (sE_ix (sP_var (pv 0)) (SimE.p sE_int))) (pg_tup rfl (pgs_cons (pg_name (i := 2) nd rfl (by first | exact Or.inl rfl | exact Or.inr rfl)) (pgs_cons (pg_name (i := 3) nd rfl (by first | exact Or.inl rfl | exact Or.inr rfl)) pgs_nil))) (g_tup rfl (g_cons (g_name 2) (g_cons (g_name 3) g_nil))) (ss_one (s_exprX (sX_mut PySem.F.slot_list_extend PySem.F.type_list_extend mt_extend mo_extend (pv 1) (sA_cons (SimN.e (sN_lc (own := [("_law_row", 4)]) (g_name 4) (by simp) rfl nd (sI_any (sE_var (pv 3))) (blkOk_by (N := ["_law_room_here", "_law_found", "_law_word", "_law_program_here", "_law_row"]) (sc := defScope s__law_calls_all) (by decide +kernel)) (fun _ _ _ _ _ => (pg_name (i := 4) nd rfl (by first | exact Or.inl rfl | exact Or.inr rfl))) (fun _ _ _ _ _ => pts_if (sT_cmp (op_eqA hr.h64) o2_eq (SimE.p (sE_ix (sP_var (pv 4)) (SimE.p sE_int))) (SimE.p sE_str) (nomark _))) (fun _ _ _ _ _ => (sE_var (pv 4))))) sA_nil) (fun h1 h2 => pe_bm PySem.F.plainAttrs_list PySem.F.slot_list_extend PySem.F.type_list_extend mt_extend h1 h2)))))
    (ss_one (s_ret (sE_cmp (op_neA hr.h64) o2_ne (sP_var (pv 1)) (SimN.p (sN_lst sA_nil)) (nomark _))))))) h
def r_law_6 : SM := (mRet (mC (.bl false)))
def r_law_5 (S__law_refused : FSpec) : SM := (mIf (mNotT (mAsT (mCall 2 S__law_refused (mCons (mVar 3) (mCons (mVar 5) mNil))))) (r_law_6) mNext)
def r_law_9 : SM := (mRet (mC (.bl false)))
def r_law_8 (S_exchanged : FSpec) (S__law_other : FSpec) : SM := (mIf (mOrT (mBinT gNe (mArg gReprD (mCons (mPeek 7) mNil)) (mArg gReprD (mCons (mCall 2 S__law_other (mCons (mVar 3) (mCons (mVar 5) mNil))) mNil))) (mBinT gNe (mArg gReprD (mCons (mCall 2 S_exchanged (mCons (mVar 7) (mCons (mVar 5) mNil))) mNil)) (mPeek 4))) (r_law_9) mNext)
def r_law_7 (S_exchanged : FSpec) (S__law_other : FSpec) : SM := (mSeq (mSet 7 (mCall 2 S_exchanged (mCons (mVar 3) (mCons (mVar 5) mNil)))) (r_law_8 S_exchanged S__law_other))
def r_law_4 (S__law_calls_all : FSpec) (S__law_refused : FSpec) (S_exchanged : FSpec) (S__law_other : FSpec) : SM := (mIf (mAsT (mCall 1 S__law_calls_all (mCons (mVar 6) mNil))) (r_law_5 S__law_refused) (r_law_7 S_exchanged S__law_other))
def r_law_11 : SM := (mRet (mC (.bl false)))
def r_law_10 : SM := (mIf (mBinT gNe (mArg gReprD (mCons (mPeek 3) mNil)) (mPeek 4)) (r_law_11) mNext)
def r_law_3 (S__law_calls_all : FSpec) (S__law_refused : FSpec) (S_exchanged : FSpec) (S__law_other : FSpec) : SM := (mSeq (mFor (mEnumA (mCons (mBin gIx (mPeek 3) (mC (.int 0))) mNil)) (tgT [(tgN 5), (tgN 6)]) (r_law_4 S__law_calls_all S__law_refused S_exchanged S__law_other)) (r_law_10))
def r_law_2 (S__law_calls_all : FSpec) (S__law_refused : FSpec) (S_exchanged : FSpec) (S__law_other : FSpec) : SM := (mSeq (mSet 4 (mArg gReprD (mCons (mPeek 3) mNil))) (r_law_3 S__law_calls_all S__law_refused S_exchanged S__law_other))
def r_law_1 (S__law_world : FSpec) (S__law_take : FSpec) (S__law_calls_all : FSpec) (S__law_refused : FSpec) (S_exchanged : FSpec) (S__law_other : FSpec) : SM := (mSeq (mSet 3 (mCall 3 S__law_world (mCons (mVar 2) (mCons (mC (.int 3)) (mCons (mBin gAdd (mC (.int 2)) (mCall 2 S__law_take (mCons (mVar 2) (mCons (mC (.int 2)) mNil)))) mNil))))) (r_law_2 S__law_calls_all S__law_refused S_exchanged S__law_other))
def r_law_0 (S__law_hand : FSpec) (S__law_world : FSpec) (S__law_take : FSpec) (S__law_calls_all : FSpec) (S__law_refused : FSpec) (S_exchanged : FSpec) (S__law_other : FSpec) : SM := (mSeq (mSet 2 (mCall 2 S__law_hand (mCons (mVar 0) (mCons (mVar 1) mNil)))) (r_law_1 S__law_world S__law_take S__law_calls_all S__law_refused S_exchanged S__law_other))
def r_law_12 : SM := (mRet (mC (.bl true)))
def r_law (S__law_hand : FSpec) (S__law_world : FSpec) (S__law_take : FSpec) (S__law_calls_all : FSpec) (S__law_refused : FSpec) (S_exchanged : FSpec) (S__law_other : FSpec) : SM := (mSeq (mFor (mRng1 (mCons (mArg gMax2 (mCons (mC (.int 2)) (mCons (mArg gMin2 (mCons (mC (.int 6)) (mCons (mArg gLen (mCons (mPeek 0) mNil)) mNil))) mNil))) mNil)) (tgN 1) (r_law_0 S__law_hand S__law_world S__law_take S__law_calls_all S__law_refused S_exchanged S__law_other)) (r_law_12))
theorem ok_law {S__law_hand : FSpec} {S__law_world : FSpec} {S__law_take : FSpec} {S__law_calls_all : FSpec} {S__law_refused : FSpec} {S_exchanged : FSpec} {S__law_other : FSpec} {sp : FSpec} (T : Txt K mg) (G__law_hand : FnOk P w K mg base CX0 k T.a__law_hand T.f__law_hand ["_law_script", "_law_k"] (FS K mg 2 S__law_hand)) (G__law_world : FnOk P w K mg base CX0 k T.a__law_world T.f__law_world ["_law_hand_here", "_law_most", "_law_hands"] (FS K mg 3 S__law_world)) (G__law_take : FnOk P w K mg base CX0 k T.a__law_take T.f__law_take ["_law_hand_here", "_law_many"] (FS K mg 2 S__law_take)) (G__law_calls_all : FnOk P w K mg base CX0 k T.a__law_calls_all T.f__law_calls_all ["_law_room_here"] (FS K mg 1 S__law_calls_all)) (G__law_refused : FnOk P w K mg base CX0 k T.a__law_refused T.f__law_refused ["_law_world_here", "_law_room_here"] (FS K mg 2 S__law_refused)) (G_exchanged : FnOk P w K mg base CX0 k T.a_exchanged T.f_exchanged ["world", "room"] (FS K mg 2 S_exchanged)) (G__law_other : FnOk P w K mg base CX0 k T.a__law_other T.f__law_other ["_law_world_here", "_law_at"] (FS K mg 2 S__law_other))
    (h : ∀ args et R, sp args et R → r_law S__law_hand S__law_world S__law_take S__law_calls_all S__law_refused S_exchanged S__law_other (env0 ["_law_script", "_law_k", "_law_hand_here", "_law_world_here", "_law_kept", "_law_at", "_law_room_here", "_law_told"] args) et (retK R)) :
    FnOkG P w K mg base CX0 (k + 1) T.a_law T.f_law ["_law_script"] (FS K mg 1 sp) :=
  have nd := sc_law.nd
  fn_okG T.F_law sc_law (fun cdv A outer s H E hr hgd => (ss_cons (s_for PassesOwn.never rfl (sI_rng1 rfl T.z_range (sA_cons (sE_callB (call_max2 rfl) oA_max2 rfl T.z_max boot_max (sAP_cons (SimE.p sE_int) (sAP_cons (SimE.p (sE_callB (call_min2 rfl) oA_min2 rfl T.z_min boot_min (sAP_cons (SimE.p sE_int) (sAP_cons (SimE.p (sE_callB call_len oA_len rfl T.z_len boot_len (sAP_cons (sP_var (pv 0)) sAP_nil))) sAP_nil)))) sAP_nil))) sA_nil)) (pg_name (i := 1) nd rfl (by first | exact Or.inl rfl | exact Or.inr rfl)) (g_name 1) (ss_cons (s_set (i := 2) nd rfl (by first | exact Or.inl rfl | exact Or.inr rfl) (sE_call G__law_hand hr rfl T.m__law_hand T.F__law_hand.kp T.b__law_hand (sA_cons (sE_var (pv 0)) (sA_cons (sE_var (pv 1)) sA_nil))))
    (ss_cons (s_set (i := 3) nd rfl (by first | exact Or.inl rfl | exact Or.inr rfl) (sE_call G__law_world hr rfl T.m__law_world T.F__law_world.kp T.b__law_world (sA_cons (sE_var (pv 2)) (sA_cons sE_int (sA_cons (sE_op op_addA o2_add (SimE.p sE_int) (SimE.p (sE_call G__law_take hr rfl T.m__law_take T.F__law_take.kp T.b__law_take (sA_cons (sE_var (pv 2)) (sA_cons sE_int sA_nil))))) sA_nil)))))
    (ss_cons (s_set (i := 4) nd rfl (by first | exact Or.inl rfl | exact Or.inr rfl) (sE_callB (call_reprT hgd hr.h64) oA_reprT rfl T.z_repr boot_repr (sAP_cons (sP_var (pv 3)) sAP_nil)))
    (ss_cons (s_for PassesOwn.never rfl (sI_enumA rfl T.z_enumerate (sA_cons (sE_ix (sP_var (pv 3)) (SimE.p sE_int)) sA_nil)) (pg_tup rfl (pgs_cons (pg_name (i := 5) nd rfl (by first | exact Or.inl rfl | exact Or.inr rfl)) (pgs_cons (pg_name (i := 6) nd rfl (by first | exact Or.inl rfl | exact Or.inr rfl)) pgs_nil))) (g_tup rfl (g_cons (g_name 5) (g_cons (g_name 6) g_nil))) (ss_one (s_if (sT_val (sE_call G__law_calls_all hr rfl T.m__law_calls_all T.F__law_calls_all.kp T.b__law_calls_all (sA_cons (sE_var (pv 6)) sA_nil))) (ss_one (s_if (sT_not (sT_val (sE_call G__law_refused hr rfl T.m__law_refused T.F__law_refused.kp T.b__law_refused (sA_cons (sE_var (pv 3)) (sA_cons (sE_var (pv 5)) sA_nil))))) (ss_one (s_ret sE_bl)) ss_nil)) (ss_cons (s_set (i := 7) nd rfl (by first | exact Or.inl rfl | exact Or.inr rfl) (sE_call G_exchanged hr rfl T.m_exchanged T.F_exchanged.kp T.b_exchanged (sA_cons (sE_var (pv 3)) (sA_cons (sE_var (pv 5)) sA_nil))))
    (ss_one (s_if (PW.pt (sW_or (sT_cmp (op_neA hr.h64) o2_ne (SimE.p (sE_callB (call_reprT hgd hr.h64) oA_reprT rfl T.z_repr boot_repr (sAP_cons (sP_var (pv 7)) sAP_nil))) (SimE.p (sE_callB (call_reprT hgd hr.h64) oA_reprT rfl T.z_repr boot_repr (sAP_cons (SimE.p (sE_call G__law_other hr rfl T.m__law_other T.F__law_other.kp T.b__law_other (sA_cons (sE_var (pv 3)) (sA_cons (sE_var (pv 5)) sA_nil)))) sAP_nil))) (nomark _)) (sW_or1 (sT_cmp (op_neA hr.h64) o2_ne (SimE.p (sE_callB (call_reprT hgd hr.h64) oA_reprT rfl T.z_repr boot_repr (sAP_cons (SimE.p (sE_call G_exchanged hr rfl T.m_exchanged T.F_exchanged.kp T.b_exchanged (sA_cons (sE_var (pv 7)) (sA_cons (sE_var (pv 5)) sA_nil)))) sAP_nil))) (sP_var (pv 4)) (nomark _))))) (ss_one (s_ret sE_bl)) ss_nil))))))
    (ss_one (s_if (sT_cmp (op_neA hr.h64) o2_ne (SimE.p (sE_callB (call_reprT hgd hr.h64) oA_reprT rfl T.z_repr boot_repr (sAP_cons (sP_var (pv 3)) sAP_nil))) (sP_var (pv 4)) (nomark _)) (ss_one (s_ret sE_bl)) ss_nil)))))))
    (ss_one (s_ret sE_bl)))) h
def r_exchanged_X_2 : SMX := (mRaise0 "NoManner")
def r_exchanged_X_4 : SM := (mRet (mTup (mCons (mBin gAdd (mBin gAdd (mSl gSlA (mPeek 2) mO0 (mO1 (mVar 1))) (mTup (mCons (mVar 11) mNil))) (mSl gSlA (mPeek 2) (mO1 (mBin gAdd (mPeek 1) (mC (.int 1)))) mO0)) (mCons (mVar 3) (mCons (mVar 4) (mCons (mVar 5) mNil))))))
def r_exchanged_X_3 : SM := (mSeq (mSet 11 (mTup (mCons (mVar 6) (mCons (mTabS tb_OTHERS (mVar 7)) (mCons (mVar 8) (mCons (mVar 9) (mCons (mVar 10) mNil))))))) (r_exchanged_X_4))
def r_exchanged_X_1 (S_has_all : FSpec) : SMX := (mSeqX (mIfX (mAsT (mCall 1 S_has_all (mCons (mVar 10) mNil))) (r_exchanged_X_2) mNextX) (mLiftX (r_exchanged_X_3)))
def r_exchanged_X_0 (S_has_all : FSpec) : SMX := (mSeqX (mLiftX (mAsg (tgT [(tgN 6), (tgN 7), (tgN 8), (tgN 9), (tgN 10)]) (mBin gIx (mPeek 2) (mPeek 1)))) (r_exchanged_X_1 S_has_all))
def r_exchanged_X (S_has_all : FSpec) : SMX := (mSeqX (mLiftX (mAsg (tgT [(tgN 2), (tgN 3), (tgN 4), (tgN 5)]) (mVar 0))) (r_exchanged_X_0 S_has_all))
theorem ok_exchanged_X {S_has_all : FSpec} {sp : XSpec} (T : Txt K mg) (hw : T.pr = w.params) (G_has_all : FnOk P w K mg base CX0 k T.a_has_all T.f_has_all ["deeds"] (FS K mg 1 S_has_all))
    (h : ∀ args et R RX, sp args et R RX → r_exchanged_X S_has_all (env0 ["world", "room", "rooms", "passes", "opened", "hands", "name", "manner", "things", "bells", "deeds", "other"] args) et (retK R) RX) :
    FnOk P w K mg base (L2.CX P w) (k + 1) T.a_exchanged T.f_exchanged ["world", "room"] (FSX K mg 2 sp) :=
  have nd := sc_exchanged.nd
  fn_okX T.F_exchanged sc_exchanged (fun cdv A outer s H E hr => (ssX_cons (sX_lift (s_asg (sE_var (pv 0)) (pg_tup rfl (pgs_cons (pg_name (i := 2) nd rfl (by first | exact Or.inl rfl | exact Or.inr rfl)) (pgs_cons (pg_name (i := 3) nd rfl (by first | exact Or.inl rfl | exact Or.inr rfl)) (pgs_cons (pg_name (i := 4) nd rfl (by first | exact Or.inl rfl | exact Or.inr rfl)) (pgs_cons (pg_name (i := 5) nd rfl (by first | exact Or.inl rfl | exact Or.inr rfl)) pgs_nil))))) (g_tup rfl (g_cons (g_name 2) (g_cons (g_name 3) (g_cons (g_name 4) (g_cons (g_name 5) g_nil)))))))
    (ssX_cons (sX_lift (s_asg (sE_ix (sP_var (pv 2)) (sP_var (pv 1))) (pg_tup rfl (pgs_cons (pg_name (i := 6) nd rfl (by first | exact Or.inl rfl | exact Or.inr rfl)) (pgs_cons (pg_name (i := 7) nd rfl (by first | exact Or.inl rfl | exact Or.inr rfl)) (pgs_cons (pg_name (i := 8) nd rfl (by first | exact Or.inl rfl | exact Or.inr rfl)) (pgs_cons (pg_name (i := 9) nd rfl (by first | exact Or.inl rfl | exact Or.inr rfl)) (pgs_cons (pg_name (i := 10) nd rfl (by first | exact Or.inl rfl | exact Or.inr rfl)) pgs_nil)))))) (g_tup rfl (g_cons (g_name 6) (g_cons (g_name 7) (g_cons (g_name 8) (g_cons (g_name 9) (g_cons (g_name 10) g_nil))))))))
    (ssX_cons (sX_if (sT_val (sE_call G_has_all hr rfl T.m_has_all T.F_has_all.kp T.b_has_all (sA_cons (sE_var (pv 10)) sA_nil))) (ssX_one (sX_raise0 rfl takes_def T.e0_NoManner rfl T.g_NoManner)) ssX_nil)
    (ssX_lift (ss_cons (s_set (i := 11) nd rfl (by first | exact Or.inl rfl | exact Or.inr rfl) (sE_tup (sA_cons (sE_var (pv 6)) (sA_cons (sE_tabS (T.t_OTHERS hw) rfl (sE_var (pv 7))) (sA_cons (sE_var (pv 8)) (sA_cons (sE_var (pv 9)) (sA_cons (sE_var (pv 10)) sA_nil)))))))
    (ss_one (s_ret (sE_tup (sA_cons (sE_op op_addA o2_add (SimE.p (sE_op op_addA o2_add (SimE.p (sE_slA (sP_var (pv 2)) sO_none (sO_some (sE_var (pv 1))))) (SimE.p (sE_tup (sA_cons (sE_var (pv 11)) sA_nil))))) (SimE.p (sE_slA (sP_var (pv 2)) (sO_some (sE_op op_addA o2_add (sP_var (pv 1)) (SimE.p sE_int))) sO_none))) (sA_cons (sE_var (pv 3)) (sA_cons (sE_var (pv 4)) (sA_cons (sE_var (pv 5)) sA_nil))))))))))))) h
end K65
namespace K65
open PySem L2 Mw PyProof.Rows
variable {P : Program} {w : World} {K : PySem.W.Frag} {mg : Str → Option Value} {base : Heap} {k : Nat}
set_option maxHeartbeats 0 in
theorem txt_mk {pr : Params} {K : PySem.W.Frag} {h : Heap} {mg : Str → Option Value} {fa : Addr} (X : K.In h) (G : h.Ns mainGlobals mg) (hfa : mg "law" = some (.ref fa))
    {f0 f1 f2 f3 f4 f5 f6 f7 f8 f9 f10 f11 f12 f13 f14 f15 f16 : Addr} {od0 an0 od1 an1 od2 an2 od3 an3 od4 an4 od5 an5 od6 an6 od7 an7 od8 an8 od9 an9 od10 an10 od11 an11 od12 an12 od13 an13 od14 an14 od15 an15 od16 an16 : Option Addr} {sl0 sl1 sl2 sl3 sl4 sl5 sl6 sl7 sl8 sl9 sl10 sl11 sl12 sl13 sl14 sl15 sl16 : Array (Option Value)} {oc0 kV0 dc0 pm0 cd0 ct0 oc1 kV1 dc1 pm1 cd1 ct1 oc2 kV2 dc2 pm2 cd2 ct2 oc3 kV3 dc3 pm3 cd3 ct3 oc4 kV4 dc4 pm4 cd4 ct4 oc5 kV5 dc5 pm5 cd5 ct5 oc6 kV6 dc6 pm6 cd6 ct6 oc7 kV7 dc7 pm7 cd7 ct7 oc8 kV8 dc8 pm8 cd8 ct8 oc9 kV9 dc9 pm9 cd9 ct9 oc10 kV10 dc10 pm10 cd10 ct10 oc11 kV11 dc11 pm11 cd11 ct11 oc12 kV12 dc12 pm12 cd12 ct12 oc13 kV13 dc13 pm13 cd13 ct13 oc14 kV14 dc14 pm14 cd14 ct14 oc15 kV15 dc15 pm15 cd15 ct15 oc16 kV16 dc16 pm16 cd16 ct16 : Value}
    {C_RoomError : Addr} (n_RoomError : PySem.W.nsIn K mainGlobals "RoomError" = some (some (.ref C_RoomError)))
    {C_NoStep : Addr} (n_NoStep : PySem.W.nsIn K mainGlobals "NoStep" = some (some (.ref C_NoStep)))
    {C_NoText : Addr} (n_NoText : PySem.W.nsIn K mainGlobals "NoText" = some (some (.ref C_NoText)))
    {C_NoManner : Addr} (n_NoManner : PySem.W.nsIn K mainGlobals "NoManner" = some (some (.ref C_NoManner)))
    {C_NoPasses : Addr} (n_NoPasses : PySem.W.nsIn K mainGlobals "NoPasses" = some (some (.ref C_NoPasses)))
    {C_NoRooms : Addr} (n_NoRooms : PySem.W.nsIn K mainGlobals "NoRooms" = some (some (.ref C_NoRooms)))
    {C_NoLine : Addr} (n_NoLine : PySem.W.nsIn K mainGlobals "NoLine" = some (some (.ref C_NoLine)))
    (a0 : PySem.W.nsIn K mainGlobals "has_all" = some (some (.ref f0)))
    (l0 : K.lookup f0 = some ⟨oc0, od0, .func (PySem.W.fnOf "has_all" "has_all" (defArgs s_has_all) (defBody s_has_all) (defScope s_has_all) .none kV0 dc0 pm0 an0 cd0 ct0), sl0⟩) (c0 : PySem.W.codeIn K cd0 "has_all" = true) (k0 : PySem.W.keepIn K (.ref f0) = true)
    (a1 : PySem.W.nsIn K mainGlobals "exchanged" = some (some (.ref f1)))
    (l1 : K.lookup f1 = some ⟨oc1, od1, .func (PySem.W.fnOf "exchanged" "exchanged" (defArgs s_exchanged) (defBody s_exchanged) (defScope s_exchanged) .none kV1 dc1 pm1 an1 cd1 ct1), sl1⟩) (c1 : PySem.W.codeIn K cd1 "exchanged" = true) (k1 : PySem.W.keepIn K (.ref f1) = true)
    (a2 : PySem.W.nsIn K mainGlobals "_law_hand" = some (some (.ref f2)))
    (l2 : K.lookup f2 = some ⟨oc2, od2, .func (PySem.W.fnOf "_law_hand" "_law_hand" (defArgs s__law_hand) (defBody s__law_hand) (defScope s__law_hand) .none kV2 dc2 pm2 an2 cd2 ct2), sl2⟩) (c2 : PySem.W.codeIn K cd2 "_law_hand" = true) (k2 : PySem.W.keepIn K (.ref f2) = true)
    (a3 : PySem.W.nsIn K mainGlobals "_law_take" = some (some (.ref f3)))
    (l3 : K.lookup f3 = some ⟨oc3, od3, .func (PySem.W.fnOf "_law_take" "_law_take" (defArgs s__law_take) (defBody s__law_take) (defScope s__law_take) .none kV3 dc3 pm3 an3 cd3 ct3), sl3⟩) (c3 : PySem.W.codeIn K cd3 "_law_take" = true) (k3 : PySem.W.keepIn K (.ref f3) = true)
    (a4 : PySem.W.nsIn K mainGlobals "_law_pick" = some (some (.ref f4)))
    (l4 : K.lookup f4 = some ⟨oc4, od4, .func (PySem.W.fnOf "_law_pick" "_law_pick" (defArgs s__law_pick) (defBody s__law_pick) (defScope s__law_pick) .none kV4 dc4 pm4 an4 cd4 ct4), sl4⟩) (c4 : PySem.W.codeIn K cd4 "_law_pick" = true) (k4 : PySem.W.keepIn K (.ref f4) = true)
    (a5 : PySem.W.nsIn K mainGlobals "_law_names" = some (some (.ref f5)))
    (l5 : K.lookup f5 = some ⟨oc5, od5, .func (PySem.W.fnOf "_law_names" "_law_names" (defArgs s__law_names) (defBody s__law_names) (defScope s__law_names) .none kV5 dc5 pm5 an5 cd5 ct5), sl5⟩) (c5 : PySem.W.codeIn K cd5 "_law_names" = true) (k5 : PySem.W.keepIn K (.ref f5) = true)
    (a6 : PySem.W.nsIn K mainGlobals "_law_sum" = some (some (.ref f6)))
    (l6 : K.lookup f6 = some ⟨oc6, od6, .func (PySem.W.fnOf "_law_sum" "_law_sum" (defArgs s__law_sum) (defBody s__law_sum) (defScope s__law_sum) .none kV6 dc6 pm6 an6 cd6 ct6), sl6⟩) (c6 : PySem.W.codeIn K cd6 "_law_sum" = true) (k6 : PySem.W.keepIn K (.ref f6) = true)
    (a7 : PySem.W.nsIn K mainGlobals "_law_wait" = some (some (.ref f7)))
    (l7 : K.lookup f7 = some ⟨oc7, od7, .func (PySem.W.fnOf "_law_wait" "_law_wait" (defArgs s__law_wait) (defBody s__law_wait) (defScope s__law_wait) .none kV7 dc7 pm7 an7 cd7 ct7), sl7⟩) (c7 : PySem.W.codeIn K cd7 "_law_wait" = true) (k7 : PySem.W.keepIn K (.ref f7) = true)
    (a8 : PySem.W.nsIn K mainGlobals "_law_deed" = some (some (.ref f8)))
    (l8 : K.lookup f8 = some ⟨oc8, od8, .func (PySem.W.fnOf "_law_deed" "_law_deed" (defArgs s__law_deed) (defBody s__law_deed) (defScope s__law_deed) .none kV8 dc8 pm8 an8 cd8 ct8), sl8⟩) (c8 : PySem.W.codeIn K cd8 "_law_deed" = true) (k8 : PySem.W.keepIn K (.ref f8) = true)
    (a9 : PySem.W.nsIn K mainGlobals "_law_room" = some (some (.ref f9)))
    (l9 : K.lookup f9 = some ⟨oc9, od9, .func (PySem.W.fnOf "_law_room" "_law_room" (defArgs s__law_room) (defBody s__law_room) (defScope s__law_room) .none kV9 dc9 pm9 an9 cd9 ct9), sl9⟩) (c9 : PySem.W.codeIn K cd9 "_law_room" = true) (k9 : PySem.W.keepIn K (.ref f9) = true)
    (a10 : PySem.W.nsIn K mainGlobals "_law_rooms" = some (some (.ref f10)))
    (l10 : K.lookup f10 = some ⟨oc10, od10, .func (PySem.W.fnOf "_law_rooms" "_law_rooms" (defArgs s__law_rooms) (defBody s__law_rooms) (defScope s__law_rooms) .none kV10 dc10 pm10 an10 cd10 ct10), sl10⟩) (c10 : PySem.W.codeIn K cd10 "_law_rooms" = true) (k10 : PySem.W.keepIn K (.ref f10) = true)
    (a11 : PySem.W.nsIn K mainGlobals "_law_program" = some (some (.ref f11)))
    (l11 : K.lookup f11 = some ⟨oc11, od11, .func (PySem.W.fnOf "_law_program" "_law_program" (defArgs s__law_program) (defBody s__law_program) (defScope s__law_program) .none kV11 dc11 pm11 an11 cd11 ct11), sl11⟩) (c11 : PySem.W.codeIn K cd11 "_law_program" = true) (k11 : PySem.W.keepIn K (.ref f11) = true)
    (a12 : PySem.W.nsIn K mainGlobals "_law_world" = some (some (.ref f12)))
    (l12 : K.lookup f12 = some ⟨oc12, od12, .func (PySem.W.fnOf "_law_world" "_law_world" (defArgs s__law_world) (defBody s__law_world) (defScope s__law_world) .none kV12 dc12 pm12 an12 cd12 ct12), sl12⟩) (c12 : PySem.W.codeIn K cd12 "_law_world" = true) (k12 : PySem.W.keepIn K (.ref f12) = true)
    (a13 : PySem.W.nsIn K mainGlobals "_law_refused" = some (some (.ref f13)))
    (l13 : K.lookup f13 = some ⟨oc13, od13, .func (PySem.W.fnOf "_law_refused" "_law_refused" (defArgs s__law_refused) (defBody s__law_refused) (defScope s__law_refused) .none kV13 dc13 pm13 an13 cd13 ct13), sl13⟩) (c13 : PySem.W.codeIn K cd13 "_law_refused" = true) (k13 : PySem.W.keepIn K (.ref f13) = true)
    (a14 : PySem.W.nsIn K mainGlobals "_law_other" = some (some (.ref f14)))
    (l14 : K.lookup f14 = some ⟨oc14, od14, .func (PySem.W.fnOf "_law_other" "_law_other" (defArgs s__law_other) (defBody s__law_other) (defScope s__law_other) .none kV14 dc14 pm14 an14 cd14 ct14), sl14⟩) (c14 : PySem.W.codeIn K cd14 "_law_other" = true) (k14 : PySem.W.keepIn K (.ref f14) = true)
    (a15 : PySem.W.nsIn K mainGlobals "_law_calls_all" = some (some (.ref f15)))
    (l15 : K.lookup f15 = some ⟨oc15, od15, .func (PySem.W.fnOf "_law_calls_all" "_law_calls_all" (defArgs s__law_calls_all) (defBody s__law_calls_all) (defScope s__law_calls_all) .none kV15 dc15 pm15 an15 cd15 ct15), sl15⟩) (c15 : PySem.W.codeIn K cd15 "_law_calls_all" = true) (k15 : PySem.W.keepIn K (.ref f15) = true)
    (a16 : PySem.W.nsIn K mainGlobals "law" = some (some (.ref f16)))
    (l16 : K.lookup f16 = some ⟨oc16, od16, .func (PySem.W.fnOf "law" "law" (defArgs s_law) (defBody s_law) (defScope s_law) .none kV16 dc16 pm16 an16 cd16 ct16), sl16⟩) (c16 : PySem.W.codeIn K cd16 "law" = true) (k16 : PySem.W.keepIn K (.ref f16) = true)
    (xhn : PySem.W.specialIn K (.builtin "object.__class__") "__get__" = some (some (.builtin "getset_descriptor.__get__"))) (xtk : PySem.W.takesIn K (.builtin "object.__class__") = some true)
    (ga_RoomError : PySem.W.findIn K (.ref C_RoomError) "__getattribute__" = some (some (.builtin "BaseException.__getattribute__")))
    (gg_RoomError : PySem.W.findIn K (.ref C_RoomError) "__getattr__" = some none)
    (ex_RoomError : PySem.W.subIn K (.ref C_RoomError) (.type "BaseException") = some true)
    (xh_RoomError : PySem.W.hasDictIn K C_RoomError = true)
    (xc_RoomError : PySem.W.findIn K (.ref C_RoomError) "__class__" = some (some (.builtin "object.__class__")))
    (xm_RoomError : PySem.W.mroIn K C_RoomError (.type "object") = some true)
    (xt_RoomError : PySem.W.typeIn K (.ref C_RoomError) = some (.type "type"))
    (xs_RoomError : PySem.W.subIn K (.ref C_RoomError) (.ref C_RoomError) = some true)
    (nn_RoomError : PySem.W.subIn K (.type "NoneType") (.ref C_RoomError) = some false)
    (ga_NoStep : PySem.W.findIn K (.ref C_NoStep) "__getattribute__" = some (some (.builtin "BaseException.__getattribute__")))
    (gg_NoStep : PySem.W.findIn K (.ref C_NoStep) "__getattr__" = some none)
    (ex_NoStep : PySem.W.subIn K (.ref C_NoStep) (.type "BaseException") = some true)
    (xh_NoStep : PySem.W.hasDictIn K C_NoStep = true)
    (xc_NoStep : PySem.W.findIn K (.ref C_NoStep) "__class__" = some (some (.builtin "object.__class__")))
    (xm_NoStep : PySem.W.mroIn K C_NoStep (.type "object") = some true)
    (xt_NoStep : PySem.W.typeIn K (.ref C_NoStep) = some (.type "type"))
    (xs_NoStep : PySem.W.subIn K (.ref C_NoStep) (.ref C_NoStep) = some true)
    (nn_NoStep : PySem.W.subIn K (.type "NoneType") (.ref C_NoStep) = some false)
    (ga_NoText : PySem.W.findIn K (.ref C_NoText) "__getattribute__" = some (some (.builtin "BaseException.__getattribute__")))
    (gg_NoText : PySem.W.findIn K (.ref C_NoText) "__getattr__" = some none)
    (ex_NoText : PySem.W.subIn K (.ref C_NoText) (.type "BaseException") = some true)
    (xh_NoText : PySem.W.hasDictIn K C_NoText = true)
    (xc_NoText : PySem.W.findIn K (.ref C_NoText) "__class__" = some (some (.builtin "object.__class__")))
    (xm_NoText : PySem.W.mroIn K C_NoText (.type "object") = some true)
    (xt_NoText : PySem.W.typeIn K (.ref C_NoText) = some (.type "type"))
    (xs_NoText : PySem.W.subIn K (.ref C_NoText) (.ref C_NoText) = some true)
    (nn_NoText : PySem.W.subIn K (.type "NoneType") (.ref C_NoText) = some false)
    (ga_NoManner : PySem.W.findIn K (.ref C_NoManner) "__getattribute__" = some (some (.builtin "BaseException.__getattribute__")))
    (gg_NoManner : PySem.W.findIn K (.ref C_NoManner) "__getattr__" = some none)
    (ex_NoManner : PySem.W.subIn K (.ref C_NoManner) (.type "BaseException") = some true)
    (xh_NoManner : PySem.W.hasDictIn K C_NoManner = true)
    (xc_NoManner : PySem.W.findIn K (.ref C_NoManner) "__class__" = some (some (.builtin "object.__class__")))
    (xm_NoManner : PySem.W.mroIn K C_NoManner (.type "object") = some true)
    (xt_NoManner : PySem.W.typeIn K (.ref C_NoManner) = some (.type "type"))
    (xs_NoManner : PySem.W.subIn K (.ref C_NoManner) (.ref C_NoManner) = some true)
    (nn_NoManner : PySem.W.subIn K (.type "NoneType") (.ref C_NoManner) = some false)
    (ga_NoPasses : PySem.W.findIn K (.ref C_NoPasses) "__getattribute__" = some (some (.builtin "BaseException.__getattribute__")))
    (gg_NoPasses : PySem.W.findIn K (.ref C_NoPasses) "__getattr__" = some none)
    (ex_NoPasses : PySem.W.subIn K (.ref C_NoPasses) (.type "BaseException") = some true)
    (xh_NoPasses : PySem.W.hasDictIn K C_NoPasses = true)
    (xc_NoPasses : PySem.W.findIn K (.ref C_NoPasses) "__class__" = some (some (.builtin "object.__class__")))
    (xm_NoPasses : PySem.W.mroIn K C_NoPasses (.type "object") = some true)
    (xt_NoPasses : PySem.W.typeIn K (.ref C_NoPasses) = some (.type "type"))
    (xs_NoPasses : PySem.W.subIn K (.ref C_NoPasses) (.ref C_NoPasses) = some true)
    (nn_NoPasses : PySem.W.subIn K (.type "NoneType") (.ref C_NoPasses) = some false)
    (ga_NoRooms : PySem.W.findIn K (.ref C_NoRooms) "__getattribute__" = some (some (.builtin "BaseException.__getattribute__")))
    (gg_NoRooms : PySem.W.findIn K (.ref C_NoRooms) "__getattr__" = some none)
    (ex_NoRooms : PySem.W.subIn K (.ref C_NoRooms) (.type "BaseException") = some true)
    (xh_NoRooms : PySem.W.hasDictIn K C_NoRooms = true)
    (xc_NoRooms : PySem.W.findIn K (.ref C_NoRooms) "__class__" = some (some (.builtin "object.__class__")))
    (xm_NoRooms : PySem.W.mroIn K C_NoRooms (.type "object") = some true)
    (xt_NoRooms : PySem.W.typeIn K (.ref C_NoRooms) = some (.type "type"))
    (xs_NoRooms : PySem.W.subIn K (.ref C_NoRooms) (.ref C_NoRooms) = some true)
    (nn_NoRooms : PySem.W.subIn K (.type "NoneType") (.ref C_NoRooms) = some false)
    (ga_NoLine : PySem.W.findIn K (.ref C_NoLine) "__getattribute__" = some (some (.builtin "BaseException.__getattribute__")))
    (gg_NoLine : PySem.W.findIn K (.ref C_NoLine) "__getattr__" = some none)
    (ex_NoLine : PySem.W.subIn K (.ref C_NoLine) (.type "BaseException") = some true)
    (xh_NoLine : PySem.W.hasDictIn K C_NoLine = true)
    (xc_NoLine : PySem.W.findIn K (.ref C_NoLine) "__class__" = some (some (.builtin "object.__class__")))
    (xm_NoLine : PySem.W.mroIn K C_NoLine (.type "object") = some true)
    (xt_NoLine : PySem.W.typeIn K (.ref C_NoLine) = some (.type "type"))
    (xs_NoLine : PySem.W.subIn K (.ref C_NoLine) (.ref C_NoLine) = some true)
    (nn_NoLine : PySem.W.subIn K (.type "NoneType") (.ref C_NoLine) = some false)
    (ve_NoManner : PySem.W.subIn K (.ref C_NoManner) (.type "ValueError") = some true)
    (sb_NoManner_RoomError : PySem.W.subIn K (.ref C_NoManner) (.ref C_RoomError) = some true)
    (sb_NoManner_NoStep : PySem.W.subIn K (.ref C_NoManner) (.ref C_NoStep) = some false)
    (sb_NoManner_NoText : PySem.W.subIn K (.ref C_NoManner) (.ref C_NoText) = some false)
    (sb_NoManner_NoPasses : PySem.W.subIn K (.ref C_NoManner) (.ref C_NoPasses) = some false)
    (sb_NoManner_NoRooms : PySem.W.subIn K (.ref C_NoManner) (.ref C_NoRooms) = some false)
    (sb_NoManner_NoLine : PySem.W.subIn K (.ref C_NoManner) (.ref C_NoLine) = some false)
    (xI_NoManner : PySem.W.excIn K C_NoManner [.type "ValueError", .type "Exception", .type "BaseException", .type "object"] "ValueError.__new__" = true) (xk_NoManner : PySem.W.keepIn K (.ref C_NoManner) = true)
    {D_OTHERS : Addr} {es_OTHERS : Array DictEntry} {dn_OTHERS : Nat} (nt_OTHERS : PySem.W.nsIn K mainGlobals "OTHERS" = some (some (.ref D_OTHERS))) (et_OTHERS : K.lookup D_OTHERS = some ⟨.type "dict", none, .dict es_OTHERS dn_OTHERS, #[]⟩) (kt_OTHERS : PySem.W.KeysLit pr es_OTHERS.toList)
    {vt0_OTHERS : Tok} (v0_OTHERS : PySem.W.nsIn K D_OTHERS "at once" = some (some (.str "when free" vt0_OTHERS)))
    {vt1_OTHERS : Tok} (v1_OTHERS : PySem.W.nsIn K D_OTHERS "when free" = some (some (.str "at once" vt1_OTHERS)))
    (z_ValueError : PySem.W.nsIn K mainGlobals "ValueError" = some none)
    (z_any : PySem.W.nsIn K mainGlobals "any" = some none)
    (z_enumerate : PySem.W.nsIn K mainGlobals "enumerate" = some none)
    (z_int : PySem.W.nsIn K mainGlobals "int" = some none)
    (z_isinstance : PySem.W.nsIn K mainGlobals "isinstance" = some none)
    (z_len : PySem.W.nsIn K mainGlobals "len" = some none)
    (z_max : PySem.W.nsIn K mainGlobals "max" = some none)
    (z_min : PySem.W.nsIn K mainGlobals "min" = some none)
    (z_range : PySem.W.nsIn K mainGlobals "range" = some none)
    (z_repr : PySem.W.nsIn K mainGlobals "repr" = some none)
    (z_sorted : PySem.W.nsIn K mainGlobals "sorted" = some none)
    (z_tuple : PySem.W.nsIn K mainGlobals "tuple" = some none)
    : ∃ T : Txt K mg, T.a_law = fa ∧ T.pr = pr ∧ ∀ (s : Shared) (v : Value), BindsTo s T.f_law ⟨[v], []⟩ [("_law_script", v)] := by
  have e := hfa.symm.trans (PySem.W.mg_of X G a16)
  cases e
  exact ⟨{
    C_RoomError := C_RoomError,
    g_RoomError := PySem.W.mg_of X G n_RoomError,
    C_NoStep := C_NoStep,
    g_NoStep := PySem.W.mg_of X G n_NoStep,
    C_NoText := C_NoText,
    g_NoText := PySem.W.mg_of X G n_NoText,
    C_NoManner := C_NoManner,
    g_NoManner := PySem.W.mg_of X G n_NoManner,
    C_NoPasses := C_NoPasses,
    g_NoPasses := PySem.W.mg_of X G n_NoPasses,
    C_NoRooms := C_NoRooms,
    g_NoRooms := PySem.W.mg_of X G n_NoRooms,
    C_NoLine := C_NoLine,
    g_NoLine := PySem.W.mg_of X G n_NoLine,
    d_has_all := ⟨f0, _, fun_mk (st := s_has_all) l0 c0 k0, (fun_mk (st := s_has_all) l0 c0 k0).binds (ps := ["deeds"]) fun _ _ _ _ _ _ us hl => match us, hl with | [_], _ => rfl, PySem.W.mg_of X G a0⟩,
    d_exchanged := ⟨f1, _, fun_mk (st := s_exchanged) l1 c1 k1, (fun_mk (st := s_exchanged) l1 c1 k1).binds (ps := ["world", "room"]) fun _ _ _ _ _ _ us hl => match us, hl with | [_, _], _ => rfl, PySem.W.mg_of X G a1⟩,
    d__law_hand := ⟨f2, _, fun_mk (st := s__law_hand) l2 c2 k2, (fun_mk (st := s__law_hand) l2 c2 k2).binds (ps := ["_law_script", "_law_k"]) fun _ _ _ _ _ _ us hl => match us, hl with | [_, _], _ => rfl, PySem.W.mg_of X G a2⟩,
    d__law_take := ⟨f3, _, fun_mk (st := s__law_take) l3 c3 k3, (fun_mk (st := s__law_take) l3 c3 k3).binds (ps := ["_law_hand_here", "_law_many"]) fun _ _ _ _ _ _ us hl => match us, hl with | [_, _], _ => rfl, PySem.W.mg_of X G a3⟩,
    d__law_pick := ⟨f4, _, fun_mk (st := s__law_pick) l4 c4 k4, (fun_mk (st := s__law_pick) l4 c4 k4).binds (ps := ["_law_hand_here", "_law_some"]) fun _ _ _ _ _ _ us hl => match us, hl with | [_, _], _ => rfl, PySem.W.mg_of X G a4⟩,
    d__law_names := ⟨f5, _, fun_mk (st := s__law_names) l5 c5 k5, (fun_mk (st := s__law_names) l5 c5 k5).binds (ps := ["_law_hand_here", "_law_many"]) fun _ _ _ _ _ _ us hl => match us, hl with | [_, _], _ => rfl, PySem.W.mg_of X G a5⟩,
    d__law_sum := ⟨f6, _, fun_mk (st := s__law_sum) l6 c6 k6, (fun_mk (st := s__law_sum) l6 c6 k6).binds (ps := ["_law_hand_here", "_law_words", "_law_bells", "_law_deep"]) fun _ _ _ _ _ _ us hl => match us, hl with | [_, _, _, _], _ => rfl, PySem.W.mg_of X G a6⟩,
    d__law_wait := ⟨f7, _, fun_mk (st := s__law_wait) l7 c7 k7, (fun_mk (st := s__law_wait) l7 c7 k7).binds (ps := ["_law_hand_here", "_law_words", "_law_bells", "_law_at"]) fun _ _ _ _ _ _ us hl => match us, hl with | [_, _, _, _], _ => rfl, PySem.W.mg_of X G a7⟩,
    d__law_deed := ⟨f8, _, fun_mk (st := s__law_deed) l8 c8 k8, (fun_mk (st := s__law_deed) l8 c8 k8).binds (ps := ["_law_hand_here", "_law_room_here", "_law_later", "_law_many"]) fun _ _ _ _ _ _ us hl => match us, hl with | [_, _, _, _], _ => rfl, PySem.W.mg_of X G a8⟩,
    d__law_room := ⟨f9, _, fun_mk (st := s__law_room) l9 c9 k9, (fun_mk (st := s__law_room) l9 c9 k9).binds (ps := ["_law_hand_here", "_law_name", "_law_later"]) fun _ _ _ _ _ _ us hl => match us, hl with | [_, _, _], _ => rfl, PySem.W.mg_of X G a9⟩,
    d__law_rooms := ⟨f10, _, fun_mk (st := s__law_rooms) l10 c10 k10, (fun_mk (st := s__law_rooms) l10 c10 k10).binds (ps := ["_law_hand_here", "_law_most"]) fun _ _ _ _ _ _ us hl => match us, hl with | [_, _], _ => rfl, PySem.W.mg_of X G a10⟩,
    d__law_program := ⟨f11, _, fun_mk (st := s__law_program) l11 c11 k11, (fun_mk (st := s__law_program) l11 c11 k11).binds (ps := ["_law_hand_here", "_law_rooms_here", "_law_words", "_law_passes", "_law_many"]) fun _ _ _ _ _ _ us hl => match us, hl with | [_, _, _, _, _], _ => rfl, PySem.W.mg_of X G a11⟩,
    d__law_world := ⟨f12, _, fun_mk (st := s__law_world) l12 c12 k12, (fun_mk (st := s__law_world) l12 c12 k12).binds (ps := ["_law_hand_here", "_law_most", "_law_hands"]) fun _ _ _ _ _ _ us hl => match us, hl with | [_, _, _], _ => rfl, PySem.W.mg_of X G a12⟩,
    d__law_refused := ⟨f13, _, fun_mk (st := s__law_refused) l13 c13 k13, (fun_mk (st := s__law_refused) l13 c13 k13).binds (ps := ["_law_world_here", "_law_room_here"]) fun _ _ _ _ _ _ us hl => match us, hl with | [_, _], _ => rfl, PySem.W.mg_of X G a13⟩,
    d__law_other := ⟨f14, _, fun_mk (st := s__law_other) l14 c14 k14, (fun_mk (st := s__law_other) l14 c14 k14).binds (ps := ["_law_world_here", "_law_at"]) fun _ _ _ _ _ _ us hl => match us, hl with | [_, _], _ => rfl, PySem.W.mg_of X G a14⟩,
    d__law_calls_all := ⟨f15, _, fun_mk (st := s__law_calls_all) l15 c15 k15, (fun_mk (st := s__law_calls_all) l15 c15 k15).binds (ps := ["_law_room_here"]) fun _ _ _ _ _ _ us hl => match us, hl with | [_], _ => rfl, PySem.W.mg_of X G a15⟩,
    d_law := ⟨_, _, fun_mk (st := s_law) l16 c16 k16, (fun_mk (st := s_law) l16 c16 k16).binds (ps := ["_law_script"]) fun _ _ _ _ _ _ us hl => match us, hl with | [_], _ => rfl, PySem.W.mg_of X G a16⟩,
    xf_RoomError := ⟨ga_RoomError, gg_RoomError, ex_RoomError, xh_RoomError, xc_RoomError, xm_RoomError, xt_RoomError, xs_RoomError, xhn, xtk⟩,
    nn_RoomError := nn_RoomError,
    xf_NoStep := ⟨ga_NoStep, gg_NoStep, ex_NoStep, xh_NoStep, xc_NoStep, xm_NoStep, xt_NoStep, xs_NoStep, xhn, xtk⟩,
    nn_NoStep := nn_NoStep,
    xf_NoText := ⟨ga_NoText, gg_NoText, ex_NoText, xh_NoText, xc_NoText, xm_NoText, xt_NoText, xs_NoText, xhn, xtk⟩,
    nn_NoText := nn_NoText,
    xf_NoManner := ⟨ga_NoManner, gg_NoManner, ex_NoManner, xh_NoManner, xc_NoManner, xm_NoManner, xt_NoManner, xs_NoManner, xhn, xtk⟩,
    nn_NoManner := nn_NoManner,
    xf_NoPasses := ⟨ga_NoPasses, gg_NoPasses, ex_NoPasses, xh_NoPasses, xc_NoPasses, xm_NoPasses, xt_NoPasses, xs_NoPasses, xhn, xtk⟩,
    nn_NoPasses := nn_NoPasses,
    xf_NoRooms := ⟨ga_NoRooms, gg_NoRooms, ex_NoRooms, xh_NoRooms, xc_NoRooms, xm_NoRooms, xt_NoRooms, xs_NoRooms, xhn, xtk⟩,
    nn_NoRooms := nn_NoRooms,
    xf_NoLine := ⟨ga_NoLine, gg_NoLine, ex_NoLine, xh_NoLine, xc_NoLine, xm_NoLine, xt_NoLine, xs_NoLine, xhn, xtk⟩,
    nn_NoLine := nn_NoLine,
    ve_NoManner := ve_NoManner,
    sb_NoManner_RoomError := sb_NoManner_RoomError,
    sb_NoManner_NoStep := sb_NoManner_NoStep,
    sb_NoManner_NoText := sb_NoManner_NoText,
    sb_NoManner_NoManner := xs_NoManner,
    sb_NoManner_NoPasses := sb_NoManner_NoPasses,
    sb_NoManner_NoRooms := sb_NoManner_NoRooms,
    sb_NoManner_NoLine := sb_NoManner_NoLine,
    e0_NoManner := ⟨xI_NoManner, xk_NoManner, ex_NoManner, xt_NoManner⟩,
    pr := pr,
    t_OTHERS := fun {w} e => tabS_mk (PySem.W.mg_of X G nt_OTHERS) et_OTHERS (e ▸ kt_OTHERS) (tabsS_cons v0_OTHERS (tabsS_cons v1_OTHERS tabsS_nil)),
    z_ValueError := PySem.W.mg_none_of X G z_ValueError,
    z_any := PySem.W.mg_none_of X G z_any,
    z_enumerate := PySem.W.mg_none_of X G z_enumerate,
    z_int := PySem.W.mg_none_of X G z_int,
    z_isinstance := PySem.W.mg_none_of X G z_isinstance,
    z_len := PySem.W.mg_none_of X G z_len,
    z_max := PySem.W.mg_none_of X G z_max,
    z_min := PySem.W.mg_none_of X G z_min,
    z_range := PySem.W.mg_none_of X G z_range,
    z_repr := PySem.W.mg_none_of X G z_repr,
    z_sorted := PySem.W.mg_none_of X G z_sorted,
    z_tuple := PySem.W.mg_none_of X G z_tuple }, rfl, rfl, fun s v => .of_eq rfl⟩
theorem q__law_hand (T : Txt K mg) : FnOk P w K mg base CX0 1 T.a__law_hand T.f__law_hand ["_law_script", "_law_k"] (FS K mg 2 (spNew 2 (Df.PF 0) Cw.okPot)) :=
  (ok__law_hand (k := 0) T  Df.hand_ok).imp fun _ _ _ _ z => new_imp z
theorem q__law_take (T : Txt K mg) : FnOk P w K mg base CX0 1 T.a__law_take T.f__law_take ["_law_hand_here", "_law_many"] (FS K mg 2 Df.spTkF) :=
  (ok__law_take (k := 0) T  Df.take_ok).imp fun _ _ _ _ z => Df.take_imp z
theorem q__law_names (T : Txt K mg) : FnOk P w K mg base CX0 2 T.a__law_names T.f__law_names ["_law_hand_here", "_law_many"] (FS K mg 2 Df.spNmF) :=
  ok__law_names (k := 1) T (q__law_take T) Df.names_ok
theorem q__law_pick (T : Txt K mg) : FnOk P w K mg base CX0 2 T.a__law_pick T.f__law_pick ["_law_hand_here", "_law_some"] (FS K mg 2 Df.spPkF) :=
  ok__law_pick (k := 1) T (q__law_take T) Df.pick_ok
theorem q__law_sum (T : Txt K mg) : ∀ j, FnOk P w K mg base CX0 (j + 3) T.a__law_sum T.f__law_sum ["_law_hand_here", "_law_words", "_law_bells", "_law_deep"] (FS K mg 4 (Df.spSumF j))
  | 0 => fs_none fun args et R ⟨r, d, _, _, _, _, _, _, _, _, h, _⟩ => by omega
  | j + 1 => ok__law_sum T ((q__law_take T).mono (by omega)) ((q__law_pick T).mono (by omega)) (q__law_sum T j) (Df.sum_ok j)
theorem q__law_wait (T : Txt K mg) : FnOk P w K mg base CX0 7 T.a__law_wait T.f__law_wait ["_law_hand_here", "_law_words", "_law_bells", "_law_at"] (FS K mg 4 Df.spWtF) :=
  ok__law_wait (k := 6) T ((q__law_pick T).mono (by decide)) (q__law_sum T 3) ((q__law_take T).mono (by decide)) Df.wait_ok
theorem q__law_deed (T : Txt K mg) : FnOk P w K mg base CX0 8 T.a__law_deed T.f__law_deed ["_law_hand_here", "_law_room_here", "_law_later", "_law_many"] (FS K mg 4 Df.spDdF) :=
  ok__law_deed (k := 7) T ((q__law_take T).mono (by decide)) (q__law_wait T) ((q__law_pick T).mono (by decide)) ((q__law_sum T 3).mono (by decide)) Df.deed_ok
theorem q__law_room (T : Txt K mg) : FnOk P w K mg base CX0 9 T.a__law_room T.f__law_room ["_law_hand_here", "_law_name", "_law_later"] (FS K mg 3 Df.spRmF) :=
  ok__law_room (k := 8) T ((q__law_take T).mono (by decide)) ((q__law_names T).mono (by decide)) (q__law_deed T) Df.room_ok
theorem q__law_rooms (T : Txt K mg) : FnOk P w K mg base CX0 10 T.a__law_rooms T.f__law_rooms ["_law_hand_here", "_law_most"] (FS K mg 2 Df.spRmsF) :=
  ok__law_rooms (k := 9) T ((q__law_names T).mono (by decide)) ((q__law_take T).mono (by decide)) (q__law_room T) Df.rooms_ok
theorem q__law_program (T : Txt K mg) : FnOk P w K mg base CX0 7 T.a__law_program T.f__law_program ["_law_hand_here", "_law_rooms_here", "_law_words", "_law_passes", "_law_many"] (FS K mg 5 Df.spPgF) :=
  ok__law_program (k := 6) T ((q__law_take T).mono (by decide)) ((q__law_pick T).mono (by decide)) (q__law_sum T 3) Df.prog_ok
theorem q__law_world (T : Txt K mg) : FnOk P w K mg base CX0 11 T.a__law_world T.f__law_world ["_law_hand_here", "_law_most", "_law_hands"] (FS K mg 3 Df.spWdF) :=
  ok__law_world (k := 10) T (q__law_rooms T) ((q__law_names T).mono (by decide)) ((q__law_take T).mono (by decide)) ((q__law_program T).mono (by decide)) Df.world_ok
theorem q__law_calls_all (T : Txt K mg) : FnOk P w K mg base CX0 1 T.a__law_calls_all T.f__law_calls_all ["_law_room_here"] (FS K mg 1 Q65.spCalls) :=
  ok__law_calls_all (k := 0) T  Q65.calls_ok
theorem q_has_all (T : Txt K mg) : FnOk P w K mg base CX0 1 T.a_has_all T.f_has_all ["deeds"] (FS K mg 1 Q65.spHasAll) :=
  ok_has_all (k := 0) T  Q65.has_all_ok
theorem q_exchanged_X (T : Txt K mg) (hw : T.pr = w.params) : FnOk P w K mg base (L2.CX P w) 2 T.a_exchanged T.f_exchanged ["world", "room"] (FSX K mg 2 Q65.spExchX) :=
  ok_exchanged_X (k := 1) T hw (q_has_all T) Q65.exchX_ok
theorem q__law_refused (T : Txt K mg) (hw : T.pr = w.params) : FnOk P w K mg base CX0 3 T.a__law_refused T.f__law_refused ["_law_world_here", "_law_room_here"] (FS K mg 2 Q65.spRef) :=
  (ok__law_refused (k := 2) T (q_exchanged_X T hw) Q65.refJ_ok).imp fun _ _ _ _ z => Q65.ref_imp z
theorem q_exchanged (T : Txt K mg) (hw : T.pr = w.params) : FnOk P w K mg base CX0 2 T.a_exchanged T.f_exchanged ["world", "room"] (FS K mg 2 Q65.spExch) :=
  ok_exchanged (k := 1) T hw (q_has_all T) Q65.exch_ok
theorem q__law_other (T : Txt K mg) : FnOk P w K mg base CX0 1 T.a__law_other T.f__law_other ["_law_world_here", "_law_at"] (FS K mg 2 Q65.spOther) :=
  ok__law_other (k := 0) T  Q65.other_ok
theorem all_ok (T : Txt K mg) (hw : T.pr = w.params) : FnOkG P w K mg base CX0 12 T.a_law T.f_law ["_law_script"] (FS K mg 1 spLaw) :=
  ok_law (k := 11) T ((q__law_hand T).mono (by decide)) (q__law_world T) ((q__law_take T).mono (by decide)) ((q__law_calls_all T).mono (by decide)) ((q__law_refused T hw).mono (by decide)) ((q_exchanged T hw).mono (by decide)) ((q__law_other T).mono (by decide)) Q65.law_ok
end K65
open PySem PySem.W PyProof.Rows
set_option maxRecDepth 100000 in
set_option maxHeartbeats 0 in
theorem PySem.Challenge.cw_calledroom_k65_rooms_of_the_other_manner_holds : PySem.Challenge.rw_calledroom_k65_rooms_of_the_other_manner.Holds := by
  w_on; o_law; k_head; (case hw => w_witness2)
  k_fill
  refine Mw.top_walkG (l := PySem.Challenge.rw_calledroom_k65_rooms_of_the_other_manner) (k := 12) (x := "_law_script") rfl rfl ⟨rfl, by decide, by decide⟩ (fun w h Y => PySem.W.kIn_of Y) ?F
  case F =>
    intro w mg fa h KX G hmg
    refine (fun z : ∃ T : K65.Txt _ mg, T.a_law = fa ∧ T.pr = w.params ∧ ∀ (s : Shared) (v : Value), BindsTo s T.f_law ⟨[v], []⟩ [("_law_script", v)] => z.elim fun T z => ⟨T.f_law, z.2.2, fun base _ _ => z.1 ▸ K65.all_ok T z.2.1⟩) ?_
    refine' K65.txt_mk (pr := w.params) KX G hmg ?n_RoomError ?n_NoStep ?n_NoText ?n_NoManner ?n_NoPasses ?n_NoRooms ?n_NoLine ?a0 ?l0 ?c0 ?k0 ?a1 ?l1 ?c1 ?k1 ?a2 ?l2 ?c2 ?k2 ?a3 ?l3 ?c3 ?k3 ?a4 ?l4 ?c4 ?k4 ?a5 ?l5 ?c5 ?k5 ?a6 ?l6 ?c6 ?k6 ?a7 ?l7 ?c7 ?k7 ?a8 ?l8 ?c8 ?k8 ?a9 ?l9 ?c9 ?k9 ?a10 ?l10 ?c10 ?k10 ?a11 ?l11 ?c11 ?k11 ?a12 ?l12 ?c12 ?k12 ?a13 ?l13 ?c13 ?k13 ?a14 ?l14 ?c14 ?k14 ?a15 ?l15 ?c15 ?k15 ?a16 ?l16 ?c16 ?k16 ?xhn ?xtk ?ga_RoomError ?gg_RoomError ?ex_RoomError ?xh_RoomError ?xc_RoomError ?xm_RoomError ?xt_RoomError ?xs_RoomError ?nn_RoomError ?ga_NoStep ?gg_NoStep ?ex_NoStep ?xh_NoStep ?xc_NoStep ?xm_NoStep ?xt_NoStep ?xs_NoStep ?nn_NoStep ?ga_NoText ?gg_NoText ?ex_NoText ?xh_NoText ?xc_NoText ?xm_NoText ?xt_NoText ?xs_NoText ?nn_NoText ?ga_NoManner ?gg_NoManner ?ex_NoManner ?xh_NoManner ?xc_NoManner ?xm_NoManner ?xt_NoManner ?xs_NoManner ?nn_NoManner ?ga_NoPasses ?gg_NoPasses ?ex_NoPasses ?xh_NoPasses ?xc_NoPasses ?xm_NoPasses ?xt_NoPasses ?xs_NoPasses ?nn_NoPasses ?ga_NoRooms ?gg_NoRooms ?ex_NoRooms ?xh_NoRooms ?xc_NoRooms ?xm_NoRooms ?xt_NoRooms ?xs_NoRooms ?nn_NoRooms ?ga_NoLine ?gg_NoLine ?ex_NoLine ?xh_NoLine ?xc_NoLine ?xm_NoLine ?xt_NoLine ?xs_NoLine ?nn_NoLine ?ve_NoManner ?sb_NoManner_RoomError ?sb_NoManner_NoStep ?sb_NoManner_NoText ?sb_NoManner_NoPasses ?sb_NoManner_NoRooms ?sb_NoManner_NoLine ?xI_NoManner ?xk_NoManner ?nt_OTHERS ?et_OTHERS ?kt_OTHERS ?v0_OTHERS ?v1_OTHERS ?z_ValueError ?z_any ?z_enumerate ?z_int ?z_isinstance ?z_len ?z_max ?z_min ?z_range ?z_repr ?z_sorted ?z_tuple
    (case n_RoomError => k_is); (case n_NoStep => k_is); (case n_NoText => k_is); (case n_NoManner => k_is); (case n_NoPasses => k_is); (case n_NoRooms => k_is)
    (case n_NoLine => k_is); (case a0 => k_is); (case l0 => k_is); (case c0 => k_is); (case k0 => k_is); (case a1 => k_is)
    (case l1 => k_is); (case c1 => k_is); (case k1 => k_is); (case a2 => k_is); (case l2 => k_is); (case c2 => k_is)
    (case k2 => k_is); (case a3 => k_is); (case l3 => k_is); (case c3 => k_is); (case k3 => k_is); (case a4 => k_is)
    (case l4 => k_is); (case c4 => k_is); (case k4 => k_is); (case a5 => k_is); (case l5 => k_is); (case c5 => k_is)
    (case k5 => k_is); (case a6 => k_is); (case l6 => k_is); (case c6 => k_is); (case k6 => k_is); (case a7 => k_is)
    (case l7 => k_is); (case c7 => k_is); (case k7 => k_is); (case a8 => k_is); (case l8 => k_is); (case c8 => k_is)
    (case k8 => k_is); (case a9 => k_is); (case l9 => k_is); (case c9 => k_is); (case k9 => k_is); (case a10 => k_is)
    (case l10 => k_is); (case c10 => k_is); (case k10 => k_is); (case a11 => k_is); (case l11 => k_is); (case c11 => k_is)
    (case k11 => k_is); (case a12 => k_is); (case l12 => k_is); (case c12 => k_is); (case k12 => k_is); (case a13 => k_is)
    (case l13 => k_is); (case c13 => k_is); (case k13 => k_is); (case a14 => k_is); (case l14 => k_is); (case c14 => k_is)
    (case k14 => k_is); (case a15 => k_is); (case l15 => k_is); (case c15 => k_is); (case k15 => k_is); (case a16 => k_is)
    (case l16 => k_is); (case c16 => k_is); (case k16 => k_is); (case xhn => k_is); (case xtk => k_is); (case ga_RoomError => k_is)
    (case gg_RoomError => k_is); (case ex_RoomError => k_is); (case xh_RoomError => k_is); (case xc_RoomError => k_is); (case xm_RoomError => k_is); (case xt_RoomError => k_is)
    (case xs_RoomError => k_is); (case nn_RoomError => k_is); (case ga_NoStep => k_is); (case gg_NoStep => k_is); (case ex_NoStep => k_is); (case xh_NoStep => k_is)
    (case xc_NoStep => k_is); (case xm_NoStep => k_is); (case xt_NoStep => k_is); (case xs_NoStep => k_is); (case nn_NoStep => k_is); (case ga_NoText => k_is)
    (case gg_NoText => k_is); (case ex_NoText => k_is); (case xh_NoText => k_is); (case xc_NoText => k_is); (case xm_NoText => k_is); (case xt_NoText => k_is)
    (case xs_NoText => k_is); (case nn_NoText => k_is); (case ga_NoManner => k_is); (case gg_NoManner => k_is); (case ex_NoManner => k_is); (case xh_NoManner => k_is)
    (case xc_NoManner => k_is); (case xm_NoManner => k_is); (case xt_NoManner => k_is); (case xs_NoManner => k_is); (case nn_NoManner => k_is); (case ga_NoPasses => k_is)
    (case gg_NoPasses => k_is); (case ex_NoPasses => k_is); (case xh_NoPasses => k_is); (case xc_NoPasses => k_is); (case xm_NoPasses => k_is); (case xt_NoPasses => k_is)
    (case xs_NoPasses => k_is); (case nn_NoPasses => k_is); (case ga_NoRooms => k_is); (case gg_NoRooms => k_is); (case ex_NoRooms => k_is); (case xh_NoRooms => k_is)
    (case xc_NoRooms => k_is); (case xm_NoRooms => k_is); (case xt_NoRooms => k_is); (case xs_NoRooms => k_is); (case nn_NoRooms => k_is); (case ga_NoLine => k_is)
    (case gg_NoLine => k_is); (case ex_NoLine => k_is); (case xh_NoLine => k_is); (case xc_NoLine => k_is); (case xm_NoLine => k_is); (case xt_NoLine => k_is)
    (case xs_NoLine => k_is); (case nn_NoLine => k_is); (case ve_NoManner => k_is); (case sb_NoManner_RoomError => k_is); (case sb_NoManner_NoStep => k_is); (case sb_NoManner_NoText => k_is)
    (case sb_NoManner_NoPasses => k_is); (case sb_NoManner_NoRooms => k_is); (case sb_NoManner_NoLine => k_is); (case xI_NoManner => k_exc); (case xk_NoManner => k_is); (case nt_OTHERS => k_is)
    (case et_OTHERS => k_is); (case kt_OTHERS => first | k_is | (repeat (first | exact trivial | refine ⟨⟨_, _, rfl, rfl⟩, ?_⟩))); (case v0_OTHERS => k_is); (case v1_OTHERS => k_is); (case z_ValueError => k_is); (case z_any => k_is)
    (case z_enumerate => k_is); (case z_int => k_is); (case z_isinstance => k_is); (case z_len => k_is); (case z_max => k_is); (case z_min => k_is)
    (case z_range => k_is); (case z_repr => k_is); (case z_sorted => k_is); (case z_tuple => k_is)
