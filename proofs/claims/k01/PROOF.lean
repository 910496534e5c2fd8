import PyProof.Rows.All
import Wide.All
import OpenK.AllK
import Wide.FinOn
import HandS.List
import HandS.Comp
import HandS.Dict
import HandS.Iter
import HandS.Text
import HandS.Words
import HandS.WordsList
import KE.KDictKeyed
import HandS.Exc
import HandS.Wide
import HandS.IsInst
import HandS.TupAny
import HandS.Deep
import HandS.Style
import HandS.Flow
import HandS.Strs
import HandS.SetKeys
import HandS.More
import HandS.StrMore
import HandS.RaiseMore
import HandS.Zip
import KE.GoesEnum
import HandS.Ends
import HandS.Conv
import KE.KEqNest
import HandS.TupSets
import PyProof.Rows.StrMeet
import HandS.SortOrd
import HandS.TupMul
import KE.KDictZip
import HandS.CallLocal
import HandS.WrittenGet
import HandS.SortInts
import HandS.TryOnly
import KE.KDictDisplayH
import HandS.Rev
import KE.SortData
import KE.DataMinMax
import PyProof.Rows.RowBridgeK
import HandS.ListItems
import KE.KDictPairs
import HandS.ExcInit
import HandS.ExcOwn
import HandS.ExcIs
import HandS.WordsExc
import HandS.ExcValue
import HandS.ExcField
import PyProof.ReprReads
import PyProof.ReprBulk
import Wide.Txt
import PySem.Challenge.RW_calledroom_k01_sums_of_anything
set_option Elab.async false
set_option linter.all false
set_option maxRecDepth 100000
set_option autoImplicit false
namespace Mw
open PySem PySem.Spec L2
inductive Ty where
  | int | bool | str | tup | lst | dic
  deriving DecidableEq
def Ty.name : Ty → String
  | .int => "int" | .bool => "bool" | .str => "str" | .tup => "tuple" | .lst => "list" | .dic => "dict"
inductive PV where
  | non | bl (b : Bool) | int (i : Int) | str (x : Str) | tup (xs : List PV) | lst (xs : List PV) | dic (kvs : List (Key × PV)) | scr (ns : List Int) | ref (n : Nat) | glo (x : Str) | ty (t : Ty) | dik (kvs : List (Key × PV))
inductive Slot where
  | no | val (p : PV) | own (p : PV)
inductive Cell where
  | dead | lst (xs : List PV) | dic (ks : List (Key × PV)) | ins (c : Str) (fs : List (Str × PV)) | potO (k n : Nat) | potI | inv (P : List V → Prop) | nd (kvs : List (PV × PV)) | exc (c : Str) (fs : List (Str × Int))
mutual
def nh : NestedKey → Int
  | .none => reduceHash 0xFCA86420
  | .num i => hashInt i
  | .text _ => 0
  | .tup ks => reduceHash (Builtin.Tuple.tupleHashOf (nhs ks))
def nhs : List NestedKey → List Int
  | [] => []
  | k :: ks => nh k :: nhs ks
end
mutual
def nlow : NestedKey → Bool
  | .none => true
  | .num _ => true
  | .text _ => false
  | .tup ks => nlows ks
def nlows : List NestedKey → Bool
  | [] => true
  | k :: ks => nlow k && nlows ks
end
mutual
def nkP : PV → Option NestedKey
  | .non => some .none
  | .bl b => some (.num (if b = true then 1 else 0))
  | .int i => some (.num i)
  | .str x => some (.text x)
  | .tup xs => (nkPs xs).map .tup
  | _ => none
def nkPs : List PV → Option (List NestedKey)
  | [] => some []
  | x :: xs => (nkP x).bind fun k => (nkPs xs).map fun ks => k :: ks
end
def DN (a : Addr) (es : List (NestedKey × Addr × V)) : HO := .ext fun h => (a == sysModules) = false ∧ es.length ≤ sizeLine ∧ (es.map (·.1)).Nodup ∧
  ∃ (xs : List (NestedKey × Addr × Value)) (o : Obj) (ds : Array DictEntry) (ep : Nat), Paired (fun (p : NestedKey × Addr × V) (q : NestedKey × Addr × Value) => p.1 = q.1 ∧ p.2.1 = q.2.1 ∧ RelV p.2.2 q.2.2) es xs ∧
    h.get? a = some o ∧ o.ExactDict ∧ o.data = .dict ds ep ∧ ds.toList = xs.map fun x => ⟨nh x.1, .ref x.2.1, x.2.2⟩
abbrev En := List Slot
abbrev Hi := List Cell
structure Wd where
  fz : Addr → Prop
  mu : List Addr
def ExcH (cls : Value) (d : Option Addr) (a : Addr) : HO := .ext fun h => ∃ (oe : Obj) (vs : Array Value), h.get? a = some oe ∧ Zc cls d oe ∧ oe.data = .fields vs
section
variable (K : PySem.W.Frag) (mg : Str → Option Value) (W : Wd) (H : Hp)
def XTup (o : Obj) : Prop := o.cls = .type "tuple" ∧ o.dict = none
def SqX (a : Addr) (xs : List V) : Prop := (∃ o, XTup o ∧ H a = some (.frz o (.tup xs))) ∨ ∃ (o : Obj) (its : Array Value) (n : Nat), K.lookup a = some o ∧ o.cls = .type "tuple" ∧ o.dict = none ∧ o.data = .seq its n ∧ its.size ≤ sizeLine ∧ Vals xs its.toList
theorem SqX.sq {K : PySem.W.Frag} {H : Hp} {a : Addr} {xs : List V} (h : SqX K H a xs) : SqT K H a xs := by
  rcases h with ⟨o, _, h⟩ | ⟨o, its, n, h1, h2, _, h3⟩
  · exact .inl (.inr ⟨o, h⟩)
  · exact .inr ⟨o, its, n, h1, h2, h3⟩
instance sqxCoe {K : PySem.W.Frag} {H : Hp} {a : Addr} {xs : List V} : Coe (SqX K H a xs) (SqT K H a xs) := ⟨SqX.sq⟩
def Scr (a : Addr) (xs : List V) : Prop := (∃ o, H a = some (.frz o (.lst xs))) ∨ ∃ (o : Obj) (its : Array Value) (n : Nat), K.lookup a = some o ∧ o.cls = .type "list" ∧ o.dict = none ∧ o.data = .seq its n ∧ its.size ≤ sizeLine ∧ Vals xs its.toList
mutual
def VR : PV → V → Prop
  | .non, v => v = .non
  | .bl b, v => v = .bl b
  | .int i, v => v = .int i
  | .str x, v => v = .str x
  | .tup xs, v => ∃ a vs, v = .ref a ∧ SqX K H a vs ∧ VRs xs vs
  | .lst xs, v => ∃ a vs, v = .ref a ∧ W.fz a ∧ H a = some (.lst vs) ∧ VRs xs vs
  | .dic kvs, v => ∃ a ks, v = .ref a ∧ W.fz a ∧ H a = some (.dK ks) ∧ VRk kvs ks
  | .scr ns, v => ∃ a, v = .ref a ∧ Scr K H a (ns.map V.int)
  | .ref n, v => ∃ a, v = .ref a ∧ W.mu[n]? = some a
  | .glo x, v => ∃ u, mg x = some u ∧ RelV v u
  | .ty t, v => v = .ty t.name
  | .dik kvs, v => ∃ a o ks, v = .ref a ∧ H a = some (.frz o (.dK ks)) ∧ VRk kvs ks
def VRs : List PV → List V → Prop
  | [], vs => vs = []
  | p :: ps, vs => ∃ v r, vs = v :: r ∧ VR p v ∧ VRs ps r
def VRk : List (Key × PV) → List (Key × V) → Prop
  | [], vs => vs = []
  | (k, p) :: ps, vs => ∃ v r, vs = (k, v) :: r ∧ VR p v ∧ VRk ps r
end
def VRf : List (Str × PV) → List (Str × V) → Prop
  | [], vs => vs = []
  | (k, p) :: ps, vs => ∃ v r, vs = (k, v) :: r ∧ VR K mg W H p v ∧ VRf ps r
def VRn : List (PV × PV) → List (NestedKey × Addr × V) → Prop
  | [], vs => vs = []
  | (p, q) :: ps, vs => ∃ k b v r, vs = (k, b, v) :: r ∧ nkP p = some k ∧ nlow k = true ∧ k.depth ≤ 8 ∧ VR K mg W H p (.ref b) ∧ VR K mg W H q v ∧ VRn ps r
def OwnAt : PV → Addr → Prop
  | .lst xs, a => ∃ vs, H a = some (.lst vs) ∧ VRs K mg W H xs vs
  | .dic ks, a => ∃ vs, H a = some (.dK vs) ∧ VRk K mg W H ks vs
  | _, _ => False
def CellOk : Cell → Addr → Prop
  | .dead, _ => True
  | .lst xs, a => ∃ vs, H a = some (.lst vs) ∧ VRs K mg W H xs vs
  | .dic xs, a => ∃ vs, H a = some (.dK vs) ∧ VRk K mg W H xs vs
  | .potO k n, a => ∃ b sd ct, W.mu[k]? = some b ∧ H a = some (.lst [.ref b, .int sd, .int ct]) ∧ 0 ≤ sd ∧ sd < 2305843009213693951 ∧ 0 ≤ ct ∧ ct + (n : Int) ≤ 1099511627776
  | .potI, a => ∃ is : List Int, H a = some (.lst (is.map V.int)) ∧ ∀ i ∈ is, 0 ≤ i
  | .inv P, a => ∃ vs, H a = some (.lst vs) ∧ P vs
  | .ins c fs, a => ∃ C dx gs, mg c = some (.ref C) ∧ H a = some (.ins C dx gs) ∧ VRf K mg W H fs gs
  | .exc c fs, a => ∃ C d, mg c = some (.ref C) ∧ H a = some (ExcH (.ref C) d a) ∧ ((fs = [] ∧ d = none) ∨ ∃ dd, d = some dd ∧ H dd = some (.xd (fs.map fun x => (x.1, V.int x.2))))
  | .nd kvs, a => (kvs = [] ∧ H a = some (.dK [])) ∨ ∃ es, H a = some (DN a es) ∧ VRn K mg W H kvs es
end
def Live (et : Hi) (W : Wd) (a : Addr) : Prop := ∃ (i : Nat) (c : Cell), et[i]? = some c ∧ c ≠ Cell.dead ∧ W.mu[i]? = some a
def Own (ep : En) (sg : L2.St) (a : Addr) : Prop := ∃ (i : Nat) (p : PV), ep[i]? = some (Slot.own p) ∧ sg[i]? = some (some (V.ref a))
structure Cel (K : PySem.W.Frag) (mg : Str → Option Value) (H : Hp) (et : Hi) (W : Wd) : Prop where
  len : et.length = W.mu.length
  ok : ∀ (i : Nat) (c : Cell) (a : Addr), et[i]? = some c → W.mu[i]? = some a → CellOk K mg W H c a
  inj : ∀ (i j : Nat) (c d : Cell) (a : Addr), et[i]? = some c → et[j]? = some d → c ≠ .dead → d ≠ .dead → W.mu[i]? = some a → W.mu[j]? = some a → i = j
  fzl : ∀ a, W.fz a → ¬ Live et W a
  fzh : ∀ a, W.fz a → H a ≠ none
def SlotOk (K : PySem.W.Frag) (mg : Str → Option Value) (W : Wd) (H : Hp) : Slot → Option V → Prop
  | .no, _ => True
  | .val p, o => ∃ v, o = some v ∧ VR K mg W H p v
  | .own p, o => ∃ a, o = some (.ref a) ∧ OwnAt K mg W H p a
structure Slt (K : PySem.W.Frag) (mg : Str → Option Value) (sg : L2.St) (ep : En) (H : Hp) (et : Hi) (W : Wd) : Prop where
  len : ep.length = sg.length
  ok : ∀ (i : Nat) (s : Slot) (o : Option V), ep[i]? = some s → sg[i]? = some o → SlotOk K mg W H s o
  inj : ∀ (i j : Nat) (p q : PV) (a : Addr), ep[i]? = some (Slot.own p) → ep[j]? = some (Slot.own q) → sg[i]? = some (some (V.ref a)) → sg[j]? = some (some (V.ref a)) → i = j
  ofz : ∀ a, Own ep sg a → ¬ W.fz a
  oli : ∀ a, Own ep sg a → ¬ Live et W a
structure Ext (O : Addr → Prop) (H : Hp) (et : Hi) (W : Wd) (H' : Hp) (et' : Hi) (W' : Wd) : Prop where
  fz : ∀ a, W.fz a → W'.fz a
  nfz : ∀ a, W'.fz a → W.fz a ∨ H a = none ∨ O a
  mu : ∃ m, W'.mu = W.mu ++ m
  live : ∀ a, Live et' W' a → Live et W a ∨ H a = none
  keep : ∀ a o, H a = some o → ¬ Live et W a → ¬ O a → H' a = some o
  there : ∀ a, H a ≠ none → H' a ≠ none
def NoO : Addr → Prop := fun _ => False
theorem Ext.refl (O : Addr → Prop) (H : Hp) (et : Hi) (W : Wd) : Ext O H et W H et W :=
  ⟨fun _ h => h, fun _ h => .inl h, ⟨[], by simp⟩, fun _ h => .inl h, fun _ _ h _ _ => h, fun _ h => h⟩
theorem Ext.trans {O O' : Addr → Prop} {H H1 H2 : Hp} {et et1 et2 : Hi} {W W1 W2 : Wd} (x : Ext O H et W H1 et1 W1) (y : Ext O' H1 et1 W1 H2 et2 W2) (ho : ∀ a, O' a → O a ∨ H a = none) : Ext O H et W H2 et2 W2 where
  fz := fun a h => y.fz a (x.fz a h)
  nfz := fun a h => by
    have back : H1 a = none → H a = none := fun e => by
      cases q : H a with
      | none => rfl
      | some o => exact absurd e (x.there a (by rw [q]; simp))
    rcases y.nfz a h with h | h | h
    · exact x.nfz a h
    · exact .inr (.inl (back h))
    · rcases ho a h with h | h
      · exact .inr (.inr h)
      · exact .inr (.inl h)
  mu := by
    obtain ⟨m, e⟩ := x.mu
    obtain ⟨m', e'⟩ := y.mu
    exact ⟨m ++ m', by rw [e', e, List.append_assoc]⟩
  live := fun a h => by
    rcases y.live a h with h | h
    · exact x.live a h
    · refine .inr ?_
      cases q : H a with
      | none => rfl
      | some o => exact absurd h (x.there a (by rw [q]; simp))
  keep := fun a o h hl hO => by
    have h1 := x.keep a o h hl hO
    refine y.keep a o h1 (fun z => ?_) (fun z => ?_)
    · rcases x.live a z with z | z
      · exact hl z
      · rw [h] at z; cases z
    · rcases ho a z with z | z
      · exact hO z
      · rw [h] at z; cases z
  there := fun a h => y.there a (x.there a h)
theorem Ext.mono {O O' : Addr → Prop} {H H1 : Hp} {et et1 : Hi} {W W1 : Wd} (x : Ext O H et W H1 et1 W1) (ho : ∀ a, O a → O' a) : Ext O' H et W H1 et1 W1 :=
  ⟨x.fz, fun a h => (x.nfz a h).imp_right fun h => h.imp_right (ho a), x.mu, x.live, fun a o h hl hO => x.keep a o h hl fun z => hO (ho a z), x.there⟩
theorem Ext.mu_get {O : Addr → Prop} {H H1 : Hp} {et et1 : Hi} {W W1 : Wd} (x : Ext O H et W H1 et1 W1) {n : Nat} {a : Addr} (h : W.mu[n]? = some a) : W1.mu[n]? = some a := by
  obtain ⟨m, e⟩ := x.mu
  rw [e, List.getElem?_append_left (by exact (List.getElem?_eq_some_iff.mp h).1)]
  exact h
structure Stays (O : Addr → Prop) (H : Hp) (et : Hi) (W : Wd) : Prop where
  fz : ∀ a, W.fz a → ¬ Live et W a ∧ ¬ O a
  tup : ∀ a xs, H a = some (.tup xs) → ¬ Live et W a ∧ ¬ O a
  frz : ∀ a o u, H a = some (.frz o u) → ¬ Live et W a ∧ ¬ O a
  xd : ∀ a fs, H a = some (.xd fs) → ¬ Live et W a ∧ ¬ O a
theorem Rd.ext {O : Addr → Prop} {H H1 : Hp} {et et1 : Hi} {W W1 : Wd} (x : Ext O H et W H1 et1 W1) (s : Stays O H et W) {a : Addr} {xs : List V} (h : Rd H a (.tup xs)) : Rd H1 a (.tup xs) := by
  rcases h with h | ⟨o, h⟩
  · exact .inl (x.keep a _ h (s.tup a xs h).1 (s.tup a xs h).2)
  · exact .inr ⟨o, x.keep a _ h (s.frz a o _ h).1 (s.frz a o _ h).2⟩
theorem SqT.ext {K : PySem.W.Frag} {O : Addr → Prop} {H H1 : Hp} {et et1 : Hi} {W W1 : Wd} (x : Ext O H et W H1 et1 W1) (s : Stays O H et W) {a : Addr} {xs : List V} (h : SqT K H a xs) : SqT K H1 a xs := by
  rcases h with h | h
  · exact .inl (Rd.ext x s h)
  · exact .inr h
theorem SqX.ext {K : PySem.W.Frag} {O : Addr → Prop} {H H1 : Hp} {et et1 : Hi} {W W1 : Wd} (x : Ext O H et W H1 et1 W1) (s : Stays O H et W) {a : Addr} {xs : List V} (h : SqX K H a xs) : SqX K H1 a xs := by
  rcases h with ⟨o, ho, h⟩ | h
  · exact .inl ⟨o, ho, x.keep a _ h (s.frz a o _ h).1 (s.frz a o _ h).2⟩
  · exact .inr h
section
variable {K : PySem.W.Frag} {mg : Str → Option Value} {O : Addr → Prop} {H H1 : Hp} {et et1 : Hi} {W W1 : Wd}
mutual
theorem VR.ext (x : Ext O H et W H1 et1 W1) (s : Stays O H et W) : ∀ (p : PV) (v : V), VR K mg W H p v → VR K mg W1 H1 p v
  | .non, v, h => by unfold VR at *; exact h
  | .bl b, v, h => by unfold VR at *; exact h
  | .int i, v, h => by unfold VR at *; exact h
  | .str z, v, h => by unfold VR at *; exact h
  | .tup xs, v, h => by
    unfold VR at *
    obtain ⟨a, vs, e, h1, h2⟩ := h
    exact ⟨a, vs, e, SqX.ext x s h1, VRs.ext x s xs vs h2⟩
  | .lst xs, v, h => by
    unfold VR at *
    obtain ⟨a, vs, e, h1, h2, h3⟩ := h
    exact ⟨a, vs, e, x.fz a h1, x.keep a _ h2 (s.fz a h1).1 (s.fz a h1).2, VRs.ext x s xs vs h3⟩
  | .dic ks, v, h => by
    unfold VR at *
    obtain ⟨a, vs, e, h1, h2, h3⟩ := h
    exact ⟨a, vs, e, x.fz a h1, x.keep a _ h2 (s.fz a h1).1 (s.fz a h1).2, VRk.ext x s ks vs h3⟩
  | .scr ns, v, h => by
    unfold VR at *
    obtain ⟨a, e, h⟩ := h
    refine ⟨a, e, ?_⟩
    rcases h with ⟨o, h⟩ | h
    · exact .inl ⟨o, x.keep a _ h (s.frz a o _ h).1 (s.frz a o _ h).2⟩
    · exact .inr h
  | .ref n, v, h => by
    unfold VR at *
    obtain ⟨a, e, h⟩ := h
    exact ⟨a, e, x.mu_get h⟩
  | .glo z, v, h => by unfold VR at *; exact h
  | .ty t, v, h => by unfold VR at *; exact h
  | .dik ks, v, h => by
    unfold VR at *
    obtain ⟨a, o, vs, e, h2, h3⟩ := h
    exact ⟨a, o, vs, e, x.keep a _ h2 (s.frz a o _ h2).1 (s.frz a o _ h2).2, VRk.ext x s ks vs h3⟩
theorem VRs.ext (x : Ext O H et W H1 et1 W1) (s : Stays O H et W) : ∀ (p : List PV) (v : List V), VRs K mg W H p v → VRs K mg W1 H1 p v
  | [], v, h => by unfold VRs at *; exact h
  | p :: ps, vs, h => by
    unfold VRs at *
    obtain ⟨v, r, e, h1, h2⟩ := h
    exact ⟨v, r, e, VR.ext x s p v h1, VRs.ext x s ps r h2⟩
theorem VRk.ext (x : Ext O H et W H1 et1 W1) (s : Stays O H et W) : ∀ (p : List (Key × PV)) (v : List (Key × V)), VRk K mg W H p v → VRk K mg W1 H1 p v
  | [], v, h => by unfold VRk at *; exact h
  | (k, p) :: ps, vs, h => by
    unfold VRk at *
    obtain ⟨v, r, e, h1, h2⟩ := h
    exact ⟨v, r, e, VR.ext x s p v h1, VRk.ext x s ps r h2⟩
end
theorem VRf.ext (x : Ext O H et W H1 et1 W1) (s : Stays O H et W) : ∀ (p : List (Str × PV)) (v : List (Str × V)), VRf K mg W H p v → VRf K mg W1 H1 p v
  | [], v, h => by unfold VRf at *; exact h
  | (k, p) :: ps, vs, h => by
    unfold VRf at *
    obtain ⟨v, r, e, h1, h2⟩ := h
    exact ⟨v, r, e, VR.ext x s p v h1, VRf.ext x s ps r h2⟩
theorem VRn.ext (x : Ext O H et W H1 et1 W1) (s : Stays O H et W) : ∀ (p : List (PV × PV)) (v : List (NestedKey × Addr × V)), VRn K mg W H p v → VRn K mg W1 H1 p v
  | [], v, h => by unfold VRn at *; exact h
  | (p, q) :: ps, vs, h => by
    unfold VRn at *
    obtain ⟨k, b, v, r, e, h1, h2, h3, h4, h5, h6⟩ := h
    exact ⟨k, b, v, r, e, h1, h2, h3, VR.ext x s p _ h4, VR.ext x s q v h5, VRn.ext x s ps r h6⟩
def Chg : HO → Prop
  | .lst _ => True
  | .dK _ => True
  | .ins _ _ _ => True
  | .ext _ => True
  | _ => False
theorem Cel.live_is (c : Cel K mg H et W) {a : Addr} (h : Live et W a) : ∃ o, H a = some o ∧ Chg o := by
  obtain ⟨i, d, e1, e2, e3⟩ := h
  have q := c.ok i d a e1 e3
  cases d with
  | dead => exact absurd rfl e2
  | lst xs => obtain ⟨vs, h, _⟩ := q; exact ⟨_, h, trivial⟩
  | dic xs => obtain ⟨vs, h, _⟩ := q; exact ⟨_, h, trivial⟩
  | potO k n => obtain ⟨b, sd, ct, _, h, _⟩ := q; exact ⟨_, h, trivial⟩
  | potI => obtain ⟨is, h, _⟩ := q; exact ⟨_, h, trivial⟩
  | inv P => obtain ⟨vs, h, _⟩ := q; exact ⟨_, h, trivial⟩
  | nd kvs => rcases q with ⟨_, h⟩ | ⟨es, h, _⟩ <;> exact ⟨_, h, trivial⟩
  | exc k fs => obtain ⟨C, d, _, h, _⟩ := q; exact ⟨_, h, trivial⟩
  | ins k fs => obtain ⟨C, dx, gs, _, h, _⟩ := q; exact ⟨_, h, trivial⟩
theorem Cel.stays0 (c : Cel K mg H et W) : Stays NoO H et W where
  fz := fun a h => ⟨c.fzl a h, id⟩
  tup := fun a xs h => ⟨fun z => by obtain ⟨o, q, k⟩ := c.live_is z; rw [h] at q; cases q; exact k, id⟩
  frz := fun a o u h => ⟨fun z => by obtain ⟨o, q, k⟩ := c.live_is z; rw [h] at q; cases q; exact k, id⟩
  xd := fun a fs h => ⟨fun z => by obtain ⟨o, q, k⟩ := c.live_is z; rw [h] at q; cases q; exact k, id⟩
theorem own_is {sg : L2.St} {ep : En} (s : Slt K mg sg ep H et W) {a : Addr} (h : Own ep sg a) : (∃ vs, H a = some (.lst vs)) ∨ ∃ ks, H a = some (.dK ks) := by
  obtain ⟨i, p, e1, e2⟩ := h
  obtain ⟨b, e, q⟩ := s.ok i _ _ e1 e2
  cases e
  unfold OwnAt at q
  split at q
  · obtain ⟨vs, h, _⟩ := q; exact .inl ⟨vs, h⟩
  · obtain ⟨vs, h, _⟩ := q; exact .inr ⟨vs, h⟩
  · cases q
theorem Slt.stays (c : Cel K mg H et W) {sg : L2.St} {ep : En} (s : Slt K mg sg ep H et W) : Stays (Own ep sg) H et W where
  fz := fun a h => ⟨c.fzl a h, fun z => s.ofz a z h⟩
  tup := fun a xs h => ⟨(c.stays0.tup a xs h).1, fun z => by rcases own_is s z with ⟨_, q⟩ | ⟨_, q⟩ <;> (rw [h] at q; cases q)⟩
  frz := fun a o u h => ⟨(c.stays0.frz a o u h).1, fun z => by rcases own_is s z with ⟨_, q⟩ | ⟨_, q⟩ <;> (rw [h] at q; cases q)⟩
  xd := fun a fs h => ⟨(c.stays0.xd a fs h).1, fun z => by rcases own_is s z with ⟨_, q⟩ | ⟨_, q⟩ <;> (rw [h] at q; cases q)⟩
theorem OwnAt.ext (x : Ext NoO H et W H1 et1 W1) (c : Cel K mg H et W) {p : PV} {a : Addr} (h : OwnAt K mg W H p a) (hl : ¬ Live et W a) : OwnAt K mg W1 H1 p a := by
  unfold OwnAt at *
  split at h
  · obtain ⟨vs, h1, h2⟩ := h; exact ⟨vs, x.keep a _ h1 hl id, VRs.ext x c.stays0 _ _ h2⟩
  · obtain ⟨vs, h1, h2⟩ := h; exact ⟨vs, x.keep a _ h1 hl id, VRk.ext x c.stays0 _ _ h2⟩
  · cases h
theorem OwnAt.there {p : PV} {a : Addr} (h : OwnAt K mg W H p a) : H a ≠ none := by
  unfold OwnAt at h
  split at h
  · obtain ⟨vs, h1, _⟩ := h; rw [h1]; simp
  · obtain ⟨vs, h1, _⟩ := h; rw [h1]; simp
  · cases h
theorem Slt.own_there {sg : L2.St} {ep : En} (s : Slt K mg sg ep H et W) {a : Addr} (h : Own ep sg a) : H a ≠ none := by
  rcases own_is s h with ⟨_, q⟩ | ⟨_, q⟩ <;> (rw [q]; simp)
theorem Slt.ext {sg : L2.St} {ep : En} (s : Slt K mg sg ep H et W) (c : Cel K mg H et W) (x : Ext NoO H et W H1 et1 W1) : Slt K mg sg ep H1 et1 W1 where
  len := s.len
  ok := fun i t o e1 e2 => by
    have q := s.ok i t o e1 e2
    cases t with
    | no => trivial
    | val p => obtain ⟨v, e, q⟩ := q; exact ⟨v, e, VR.ext x c.stays0 p v q⟩
    | own p => obtain ⟨a, e, q⟩ := q; exact ⟨a, e, OwnAt.ext x c q (s.oli a ⟨i, p, e1, by rw [e2, e]⟩)⟩
  inj := s.inj
  ofz := fun a h z => by
    rcases x.nfz a z with z | z | z
    · exact s.ofz a h z
    · exact s.own_there h z
    · exact z
  oli := fun a h z => by
    rcases x.live a z with z | z
    · exact s.oli a h z
    · exact s.own_there h z
end
end Mw
namespace Mw
open PySem PySem.Spec L2
def Pk (K : PySem.W.Frag) (mg : Str → Option Value) (p : PV) (v : V) (H : Hp) (et : Hi) (W : Wd) : Prop := VR K mg W H p v ∨ ∃ a, v = .ref a ∧ ¬ Live et W a ∧ OwnAt K mg W H p a
abbrev EM (α : Type) := En → Hi → (α → Hi → Prop) → Prop
inductive Fl where
  | nx | rt (p : PV) | bk | ct
abbrev SM := En → Hi → (Fl → En → Hi → Prop) → Prop
abbrev Post (α : Type) := α → V → Hp → Hi → Wd → Hp → Hi → Wd → Prop
def pV (K : PySem.W.Frag) (mg : Str → Option Value) : Post PV := fun p v _ _ _ H' _ W' => VR K mg W' H' p v
def pP (K : PySem.W.Frag) (mg : Str → Option Value) : Post PV := fun p v _ _ _ H' et' W' => Pk K mg p v H' et' W'
def pN (K : PySem.W.Frag) (mg : Str → Option Value) : Post PV := fun p v H _ _ H' et' W' => ∃ a, v = .ref a ∧ H a = none ∧ ¬ W'.fz a ∧ ¬ Live et' W' a ∧ OwnAt K mg W' H' p a
section
variable {K : PySem.W.Frag} {mg : Str → Option Value} {H H1 : Hp} {et et1 : Hi} {W W1 : Wd}
theorem Pk.ext (x : Ext NoO H et W H1 et1 W1) (c : Cel K mg H et W) {p : PV} {v : V} (h : Pk K mg p v H et W) : Pk K mg p v H1 et1 W1 := by
  rcases h with h | ⟨a, e, hl, h⟩
  · exact .inl (VR.ext x c.stays0 p v h)
  · refine .inr ⟨a, e, fun z => ?_, OwnAt.ext x c h hl⟩
    rcases x.live a z with z | z
    · exact hl z
    · exact h.there z
theorem Ext.new {p : Addr} {o : HO} (hp : H p = none) (W' : Wd) (hm : W'.mu = W.mu) (h1 : ∀ a, W.fz a → W'.fz a) (h2 : ∀ a, W'.fz a → W.fz a ∨ a = p) : Ext NoO H et W (upd H p o) et W' where
  fz := h1
  nfz := fun a h => (h2 a h).imp_right fun e => .inl (by rw [e]; exact hp)
  mu := ⟨[], by rw [hm]; simp⟩
  live := fun a ⟨i, c, e1, e2, e3⟩ => .inl ⟨i, c, e1, e2, by rw [hm] at e3; exact e3⟩
  keep := fun a o' h _ _ => by rw [upd_ne (ne_of_none h hp)]; exact h
  there := fun a h => by
    by_cases e : a = p
    · rw [e, upd_same]; simp
    · rw [upd_ne e]; exact h
theorem Cel.not_live (c : Cel K mg H et W) {p : Addr} (hp : H p = none) : ¬ Live et W p := fun z => by
  obtain ⟨o, q, _⟩ := c.live_is z; rw [hp] at q; cases q
theorem CellOk.ext (x : Ext NoO H et W H1 et1 W1) (s : Stays NoO H et W) {d : Cell} {a : Addr} (h : CellOk K mg W H d a) (hk : d ≠ .dead → H1 a = H a) : CellOk K mg W1 H1 d a := by
  cases d with
  | dead => trivial
  | lst xs =>
    obtain ⟨vs, h1, h2⟩ := h
    exact ⟨vs, by rw [hk (by simp)]; exact h1, VRs.ext x s _ _ h2⟩
  | dic xs =>
    obtain ⟨vs, h1, h2⟩ := h
    exact ⟨vs, by rw [hk (by simp)]; exact h1, VRk.ext x s _ _ h2⟩
  | potO k n =>
    obtain ⟨b, sd, ct, h0, h1, h2⟩ := h
    exact ⟨b, sd, ct, x.mu_get h0, by rw [hk (by simp)]; exact h1, h2⟩
  | potI =>
    obtain ⟨is, h1, h2⟩ := h
    exact ⟨is, by rw [hk (by simp)]; exact h1, h2⟩
  | inv P =>
    obtain ⟨vs, h1, h2⟩ := h
    exact ⟨vs, by rw [hk (by simp)]; exact h1, h2⟩
  | nd kvs =>
    rcases h with ⟨h0, h1⟩ | ⟨es, h1, h2⟩
    · exact .inl ⟨h0, by rw [hk (by simp)]; exact h1⟩
    · exact .inr ⟨es, by rw [hk (by simp)]; exact h1, VRn.ext x s _ _ h2⟩
  | exc c fs =>
    obtain ⟨C, d, h0, h1, h2⟩ := h
    exact ⟨C, d, h0, by rw [hk (by simp)]; exact h1, h2.imp_right fun ⟨dd, e, q⟩ => ⟨dd, e, x.keep dd _ q (s.xd dd _ q).1 (s.xd dd _ q).2⟩⟩
  | ins k fs =>
    obtain ⟨C, dx, gs, h0, h1, h2⟩ := h
    exact ⟨C, dx, gs, h0, by rw [hk (by simp)]; exact h1, VRf.ext x s _ _ h2⟩
theorem Cel.new (c : Cel K mg H et W) {p : Addr} {o : HO} (hp : H p = none) (W' : Wd) (hm : W'.mu = W.mu) (h1 : ∀ a, W.fz a → W'.fz a) (h2 : ∀ a, W'.fz a → W.fz a ∨ a = p) : Cel K mg (upd H p o) et W' := by
  have x : Ext NoO H et W (upd H p o) et W' := Ext.new hp W' hm h1 h2
  have lv : ∀ a, Live et W' a → Live et W a := fun a ⟨i, d, e1, e2, e3⟩ => ⟨i, d, e1, e2, by rw [hm] at e3; exact e3⟩
  refine ⟨by rw [hm]; exact c.len, fun i d a e1 e2 => ?_, fun i j d d' a e1 e2 e3 e4 e5 e6 => c.inj i j d d' a e1 e2 e3 e4 (by rw [hm] at e5; exact e5) (by rw [hm] at e6; exact e6), fun a h z => ?_, fun a h => ?_⟩
  · rw [hm] at e2
    refine CellOk.ext x c.stays0 (c.ok i d a e1 e2) fun hd => upd_ne fun e => ?_
    exact c.not_live hp ⟨i, d, e1, hd, by rw [← e]; exact e2⟩
  · rcases h2 a h with h | h
    · exact c.fzl a h (lv a z)
    · exact c.not_live hp (h ▸ lv a z)
  · rcases h2 a h with h | h
    · exact x.there a (c.fzh a h)
    · rw [h, upd_same]; simp
abbrev Wd.add (W : Wd) (p : Addr) : Wd := ⟨fun a => W.fz a ∨ a = p, W.mu⟩
theorem VRs.len : ∀ {ps : List PV} {vs : List V}, VRs K mg W H ps vs → ps.length = vs.length
  | [], vs, h => by unfold VRs at h; rw [h]; rfl
  | p :: ps, vs, h => by
    unfold VRs at h
    obtain ⟨v, r, e, _, h2⟩ := h
    rw [e, List.length_cons, List.length_cons, VRs.len h2]
theorem VRs.get : ∀ {ps : List PV} {vs : List V} {i : Nat} {p : PV}, VRs K mg W H ps vs → ps[i]? = some p → ∃ v, vs[i]? = some v ∧ VR K mg W H p v
  | [], vs, i, p, _, e => by simp at e
  | q :: ps, vs, 0, p, h, e => by
    unfold VRs at h
    obtain ⟨v, r, e1, h1, h2⟩ := h
    simp at e; subst e
    exact ⟨v, by rw [e1]; rfl, h1⟩
  | q :: ps, vs, i + 1, p, h, e => by
    unfold VRs at h
    obtain ⟨v, r, e1, h1, h2⟩ := h
    obtain ⟨u, e2, h3⟩ := VRs.get h2 (i := i) (p := p) (by simpa using e)
    exact ⟨u, by rw [e1]; simpa using e2, h3⟩
theorem VRs.cons {p : PV} {ps : List PV} {v : V} {vs : List V} (h : VR K mg W H p v) (r : VRs K mg W H ps vs) : VRs K mg W H (p :: ps) (v :: vs) := by
  unfold VRs; exact ⟨v, vs, rfl, h, r⟩
theorem VRs.nil : VRs K mg W H [] [] := by unfold VRs; rfl
theorem VRs.append : ∀ {ps qs : List PV} {vs ws : List V}, VRs K mg W H ps vs → VRs K mg W H qs ws → VRs K mg W H (ps ++ qs) (vs ++ ws)
  | [], qs, vs, ws, h, r => by unfold VRs at h; rw [h]; exact r
  | p :: ps, qs, vs, ws, h, r => by
    unfold VRs at h
    obtain ⟨v, t, e, h1, h2⟩ := h
    rw [e]
    exact VRs.cons h1 (VRs.append h2 r)
theorem VRs.take : ∀ (n : Nat) {ps : List PV} {vs : List V}, VRs K mg W H ps vs → VRs K mg W H (ps.take n) (vs.take n)
  | 0, _, _, _ => by simpa using VRs.nil
  | n + 1, [], vs, h => by unfold VRs at h; rw [h]; simpa using VRs.nil
  | n + 1, p :: ps, vs, h => by
    unfold VRs at h
    obtain ⟨v, t, e, h1, h2⟩ := h
    rw [e]
    exact VRs.cons h1 (VRs.take n h2)
theorem VRs.drop : ∀ (n : Nat) {ps : List PV} {vs : List V}, VRs K mg W H ps vs → VRs K mg W H (ps.drop n) (vs.drop n)
  | 0, _, _, h => by simpa using h
  | n + 1, [], vs, h => by unfold VRs at h; rw [h]; simpa using VRs.nil
  | n + 1, p :: ps, vs, h => by
    unfold VRs at h
    obtain ⟨v, t, e, h1, h2⟩ := h
    rw [e]
    exact VRs.drop n h2
theorem VRs.set : ∀ (i : Nat) {ps : List PV} {vs : List V} {p : PV} {v : V}, VRs K mg W H ps vs → VR K mg W H p v → VRs K mg W H (ps.set i p) (vs.set i v)
  | _, [], vs, p, v, h, _ => by unfold VRs at h; rw [h]; simpa using VRs.nil
  | 0, q :: ps, vs, p, v, h, r => by
    unfold VRs at h
    obtain ⟨u, t, e, h1, h2⟩ := h
    rw [e]
    exact VRs.cons r h2
  | i + 1, q :: ps, vs, p, v, h, r => by
    unfold VRs at h
    obtain ⟨u, t, e, h1, h2⟩ := h
    rw [e]
    exact VRs.cons h1 (VRs.set i h2 r)
theorem VRs.erase : ∀ (i : Nat) {ps : List PV} {vs : List V}, VRs K mg W H ps vs → VRs K mg W H (ps.eraseIdx i) (vs.eraseIdx i)
  | _, [], vs, h => by unfold VRs at h; rw [h]; simpa using VRs.nil
  | 0, q :: ps, vs, h => by
    unfold VRs at h
    obtain ⟨u, t, e, h1, h2⟩ := h
    rw [e]
    exact h2
  | i + 1, q :: ps, vs, h => by
    unfold VRs at h
    obtain ⟨u, t, e, h1, h2⟩ := h
    rw [e]
    exact VRs.cons h1 (VRs.erase i h2)
theorem VRs.reverse : ∀ {ps : List PV} {vs : List V}, VRs K mg W H ps vs → VRs K mg W H ps.reverse vs.reverse
  | [], vs, h => by unfold VRs at h; rw [h]; simpa using VRs.nil
  | q :: ps, vs, h => by
    unfold VRs at h
    obtain ⟨u, t, e, h1, h2⟩ := h
    rw [e, List.reverse_cons, List.reverse_cons]
    exact VRs.append (VRs.reverse h2) (VRs.cons h1 VRs.nil)
theorem tup_push (h : Heap) (its : Array Value) : ∃ o, XTup o ∧ (h.push { cls := .type "tuple", data := .seq its }).get? h.objs.size = some o := ⟨{ cls := .type "tuple", data := .seq its }, ⟨rfl, rfl⟩, Heap.get?_push_size _ rfl⟩
theorem new_tup (c : Cel K mg H et W) {p : Addr} (hp : H p = none) {o : Obj} (ho : XTup o) {ps : List PV} {vs : List V} (h : VRs K mg W H ps vs) :
    Ext NoO H et W (upd H p (.frz o (.tup vs))) et W ∧ Cel K mg (upd H p (.frz o (.tup vs))) et W ∧ VR K mg W (upd H p (.frz o (.tup vs))) (.tup ps) (.ref p) := by
  have x : Ext NoO H et W (upd H p (.frz o (.tup vs))) et W := Ext.new hp W rfl (fun _ h => h) fun _ h => .inl h
  refine ⟨x, c.new hp W rfl (fun _ h => h) fun _ h => .inl h, ?_⟩
  unfold VR
  exact ⟨p, vs, rfl, .inl ⟨o, ho, upd_same⟩, VRs.ext x c.stays0 _ _ h⟩
theorem new_lst (c : Cel K mg H et W) {p : Addr} (hp : H p = none) {ps : List PV} {vs : List V} (h : VRs K mg W H ps vs) :
    Ext NoO H et W (upd H p (.lst vs)) et (W.add p) ∧ Cel K mg (upd H p (.lst vs)) et (W.add p) ∧ VR K mg (W.add p) (upd H p (.lst vs)) (.lst ps) (.ref p) := by
  have x : Ext NoO H et W (upd H p (.lst vs)) et (W.add p) := Ext.new hp (W.add p) rfl (fun _ h => .inl h) fun _ h => h
  refine ⟨x, c.new hp _ rfl (fun _ h => .inl h) fun _ h => h, ?_⟩
  unfold VR
  exact ⟨p, vs, rfl, .inr rfl, upd_same, VRs.ext x c.stays0 _ _ h⟩
theorem new_own (c : Cel K mg H et W) {p : Addr} (hp : H p = none) {ps : List PV} {vs : List V} (h : VRs K mg W H ps vs) :
    Ext NoO H et W (upd H p (.lst vs)) et W ∧ Cel K mg (upd H p (.lst vs)) et W ∧ pN K mg (.lst ps) (.ref p) H et W (upd H p (.lst vs)) et W := by
  have x : Ext NoO H et W (upd H p (.lst vs)) et W := Ext.new hp W rfl (fun _ h => h) fun _ h => .inl h
  refine ⟨x, c.new hp W rfl (fun _ h => h) fun _ h => .inl h, p, rfl, hp, fun z => c.fzh p z hp, ?_, ?_⟩
  · exact c.not_live hp
  · exact ⟨vs, upd_same, VRs.ext x c.stays0 _ _ h⟩
theorem OwnAt.kind {p : PV} {a : Addr} (h : OwnAt K mg W H p a) : (∃ vs, H a = some (.lst vs)) ∨ ∃ ks, H a = some (.dK ks) := by
  unfold OwnAt at h
  split at h
  · obtain ⟨vs, h, _⟩ := h; exact .inl ⟨vs, h⟩
  · obtain ⟨vs, h, _⟩ := h; exact .inr ⟨vs, h⟩
  · cases h
theorem Cel.freeze (c : Cel K mg H et W) {a : Addr} {q : PV} (hl : ¬ Live et W a) (hf : ¬ W.fz a) (hq : OwnAt K mg W H q a) :
    Cel K mg H et (W.add a) ∧ (∀ p v, VR K mg W H p v → VR K mg (W.add a) H p v) ∧ VR K mg (W.add a) H q (.ref a) := by
  have x : Ext (fun b => b = a) H et W H et (W.add a) := ⟨fun _ h => .inl h, fun b h => h.imp_right fun h => .inr h, ⟨[], by simp⟩, fun _ h => .inl h, fun _ _ h _ _ => h, fun _ h => h⟩
  have s : Stays (fun b => b = a) H et W := ⟨fun b h => ⟨c.fzl b h, fun e => hf (e ▸ h)⟩, fun b xs h => ⟨(c.stays0.tup b xs h).1, fun e => by
    rcases hq.kind with ⟨_, k⟩ | ⟨_, k⟩ <;> (rw [← e, h] at k; cases k)⟩, fun b o u h => ⟨(c.stays0.frz b o u h).1, fun e => by
    rcases hq.kind with ⟨_, k⟩ | ⟨_, k⟩ <;> (rw [← e, h] at k; cases k)⟩, fun b fs h => ⟨(c.stays0.xd b fs h).1, fun e => by
    rcases hq.kind with ⟨_, k⟩ | ⟨_, k⟩ <;> (rw [← e, h] at k; cases k)⟩⟩
  refine ⟨⟨c.len, fun i d b e1 e2 => ?_, c.inj, fun b h z => ?_, fun b h => ?_⟩, fun p v h => VR.ext x s p v h, ?_⟩
  · have k := c.ok i d b e1 e2
    cases d with
    | dead => trivial
    | lst xs => obtain ⟨vs, h1, h2⟩ := k; exact ⟨vs, h1, VRs.ext x s _ _ h2⟩
    | dic xs => obtain ⟨vs, h1, h2⟩ := k; exact ⟨vs, h1, VRk.ext x s _ _ h2⟩
    | potO t n => exact k
    | potI => exact k
    | inv P => exact k
    | nd kvs => exact k.imp_right fun ⟨es, h1, h2⟩ => ⟨es, h1, VRn.ext x s _ _ h2⟩
    | exc _ _ => exact k
    | ins t fs => obtain ⟨C, dx, gs, h0, h1, h2⟩ := k; exact ⟨C, dx, gs, h0, h1, VRf.ext x s _ _ h2⟩
  · rcases h with h | h
    · exact c.fzl b h z
    · exact hl (h ▸ z)
  · rcases h with h | h
    · exact c.fzh b h
    · rw [h]; exact hq.there
  · unfold OwnAt at hq
    split at hq
    · obtain ⟨vs, h1, h2⟩ := hq
      unfold VR
      exact ⟨a, vs, rfl, .inr rfl, h1, VRs.ext x s _ _ h2⟩
    · obtain ⟨vs, h1, h2⟩ := hq
      unfold VR
      exact ⟨a, vs, rfl, .inr rfl, h1, VRk.ext x s _ _ h2⟩
    · cases hq
end
end Mw
namespace Mw
open PySem PySem.Spec L2
section
variable (K : PySem.W.Frag) (mg : Str → Option Value)
def tI (P : Post PV) (m : EM PV) : TE := fun sg H Q => ∃ ep et W R, Cel K mg H et W ∧ Slt K mg sg ep H et W ∧ m ep et R ∧
  ∀ a et', R a et' → ∀ v H' W', Ext NoO H et W H' et' W' → Cel K mg H' et' W' → P a v H et W H' et' W' → Q v H'
def tT (m : EM Bool) : TT := fun sg H Q => ∃ ep et W R, Cel K mg H et W ∧ Slt K mg sg ep H et W ∧ m ep et R ∧
  ∀ b et', R b et' → ∀ H' W', Ext NoO H et W H' et' W' → Cel K mg H' et' W' → Q b H'
def Pks : List PV → List V → Hp → Hi → Wd → Prop
  | [], vs, _, _, _ => vs = []
  | p :: ps, vs, H, et, W => ∃ v r, vs = v :: r ∧ Pk K mg p v H et W ∧ Pks ps r H et W
def tL (m : EM (List PV)) : TA := fun sg H Q => ∃ ep et W R, Cel K mg H et W ∧ Slt K mg sg ep H et W ∧ m ep et R ∧
  ∀ a et', R a et' → ∀ vs H' W', Ext NoO H et W H' et' W' → Cel K mg H' et' W' → VRs K mg W' H' a vs → Q vs H'
def tLP (m : EM (List PV)) : TA := fun sg H Q => ∃ ep et W R, Cel K mg H et W ∧ Slt K mg sg ep H et W ∧ m ep et R ∧
  ∀ a et', R a et' → ∀ vs H' W', Ext NoO H et W H' et' W' → Cel K mg H' et' W' → Pks K mg a vs H' et' W' → Q vs H'
def FlEnd (D : Ends) (ep : En) (sg : L2.St) (H : Hp) : Fl → En → L2.St → Hp → Hi → Wd → Prop
  | .nx, ep', sg', H', et', W' => Slt K mg sg' ep' H' et' W' → (∀ a, Own ep' sg' a → Own ep sg a ∨ H a = none) → D.nx sg' H'
  | .bk, ep', sg', H', et', W' => Slt K mg sg' ep' H' et' W' → (∀ a, Own ep' sg' a → Own ep sg a ∨ H a = none) → D.bk sg' H'
  | .ct, ep', sg', H', et', W' => Slt K mg sg' ep' H' et' W' → (∀ a, Own ep' sg' a → Own ep sg a ∨ H a = none) → D.ct sg' H'
  | .rt p, _, _, H', _, W' => ∀ v, VR K mg W' H' p v → D.rt v H'
def tS (m : SM) : TS := fun D sg H => ∃ ep et W R, Cel K mg H et W ∧ Slt K mg sg ep H et W ∧ m ep et R ∧
  ∀ f ep' et', R f ep' et' → ∀ sg' H' W', Ext (Own ep sg) H et W H' et' W' → Cel K mg H' et' W' → FlEnd K mg D ep sg H f ep' sg' H' et' W'
end
abbrev SimE (X : Cx) (e : Expr) (m : EM PV) : Prop := PE X e (tI X.K X.mg (pV X.K X.mg) m)
abbrev SimP (X : Cx) (e : Expr) (m : EM PV) : Prop := PE X e (tI X.K X.mg (pP X.K X.mg) m)
abbrev SimN (X : Cx) (e : Expr) (m : EM PV) : Prop := PE X e (tI X.K X.mg (pN X.K X.mg) m)
abbrev SimT (X : Cx) (e : Expr) (m : EM Bool) : Prop := PT X e (tT X.K X.mg m)
abbrev SimW (X : Cx) (e : Expr) (m : EM Bool) : Prop := PW X e (tT X.K X.mg m)
abbrev SimA (X : Cx) (es : List Expr) (m : EM (List PV)) : Prop := PA X es (tL X.K X.mg m)
abbrev SimAP (X : Cx) (es : List Expr) (m : EM (List PV)) : Prop := PA X es (tLP X.K X.mg m)
abbrev SimS (X : Cx) (st : Stmt) (m : SM) : Prop := PS X st (tS X.K X.mg m)
abbrev SimSs (X : Cx) (st : List Stmt) (m : SM) : Prop := PSs X st (tS X.K X.mg m)
theorem weakE {X : Cx} {e : Expr} {t u : TE} (h : PE X e t) (w : ∀ σ H Q, u σ H Q → t σ H Q) : PE X e u := ⟨fun pins s σ H Q I q => h.run pins s σ H Q I (w σ H Q q)⟩
theorem weakT {X : Cx} {e : Expr} {t u : TT} (h : PT X e t) (w : ∀ σ H Q, u σ H Q → t σ H Q) : PT X e u := ⟨fun pins s σ H Q I q => h.run pins s σ H Q I (w σ H Q q)⟩
theorem weakW {X : Cx} {e : Expr} {t u : TT} (h : PW X e t) (w : ∀ σ H Q, u σ H Q → t σ H Q) : PW X e u := ⟨fun wh pins s σ H Q I q => h.run wh pins s σ H Q I (w σ H Q q)⟩
theorem weakA {X : Cx} {e : List Expr} {t u : TA} (h : PA X e t) (w : ∀ σ H Q, u σ H Q → t σ H Q) : PA X e u := ⟨fun pos pins s σ H Q I q => h.run pos pins s σ H Q I (w σ H Q q)⟩
theorem weakS {X : Cx} {e : Stmt} {t u : TS} (h : PS X e t) (w : ∀ D σ H, u D σ H → t D σ H) : PS X e u := ⟨fun pins s σ H D I q => h.run pins s σ H D I (w D σ H q)⟩
theorem weakSs {X : Cx} {e : List Stmt} {t u : TS} (h : PSs X e t) (w : ∀ D σ H, u D σ H → t D σ H) : PSs X e u := ⟨fun pins s σ H D I q => h.run pins s σ H D I (w D σ H q)⟩
section
variable {K : PySem.W.Frag} {mg : Str → Option Value} {H H1 : Hp} {et et1 : Hi} {W W1 : Wd}
theorem Pks.ext (x : Ext NoO H et W H1 et1 W1) (c : Cel K mg H et W) : ∀ {ps : List PV} {vs : List V}, Pks K mg ps vs H et W → Pks K mg ps vs H1 et1 W1
  | [], _, h => h
  | _ :: _, _, ⟨v, r, e, h, t⟩ => ⟨v, r, e, Pk.ext x c h, Pks.ext x c t⟩
theorem Pks.of : ∀ {ps : List PV} {vs : List V}, VRs K mg W H ps vs → Pks K mg ps vs H et W
  | [], vs, h => by unfold VRs at h; exact h
  | p :: ps, vs, h => by
    unfold VRs at h
    obtain ⟨v, r, e, h1, h2⟩ := h
    exact ⟨v, r, e, .inl h1, Pks.of h2⟩
def deref (et : Hi) : PV → PV
  | .ref n => match et[n]? with
    | some (.lst xs) => .lst xs
    | some (.dic ks) => .dic ks
    | _ => .ref n
  | p => p
def Cont (K : PySem.W.Frag) (mg : Str → Option Value) (W : Wd) (H : Hp) : PV → HO → Prop
  | .lst xs, .lst vs => VRs K mg W H xs vs
  | .dic ks, .dK vs => VRk K mg W H ks vs
  | _, _ => False
theorem Pk.der (c : Cel K mg H et W) {p : PV} {v : V} (h : Pk K mg p v H et W) : Pk K mg p v H et W ∧ (Mw.deref et p = p ∨ ∃ a o n, p = .ref n ∧ v = .ref a ∧ W.mu[n]? = some a ∧ H a = some o ∧ Cont K mg W H (Mw.deref et p) o) := by
  refine ⟨h, ?_⟩
  cases p with
  | ref n =>
    rcases h with h | ⟨a, _, _, h⟩
    · unfold VR at h
      obtain ⟨a, e, hm⟩ := h
      cases q : et[n]? with
      | none => exact .inl (by simp only [Mw.deref, q])
      | some d =>
        cases d with
        | lst xs =>
          obtain ⟨vs, h1, h2⟩ := c.ok n _ a q hm
          exact .inr ⟨a, _, n, rfl, e, hm, h1, by simp only [Mw.deref, q]; exact h2⟩
        | dic xs =>
          obtain ⟨vs, h1, h2⟩ := c.ok n _ a q hm
          exact .inr ⟨a, _, n, rfl, e, hm, h1, by simp only [Mw.deref, q]; exact h2⟩
        | _ => exact .inl (by simp only [Mw.deref, q])
    · unfold OwnAt at h; cases h
  | _ => exact .inl rfl
theorem Pk.lst (c : Cel K mg H et W) {p : PV} {v : V} (h : Pk K mg p v H et W) {xs : List PV} (e : Mw.deref et p = .lst xs) : ∃ a vs, v = .ref a ∧ H a = some (.lst vs) ∧ VRs K mg W H xs vs := by
  rcases (h.der c).2 with d | ⟨a, o, n, _, ev, _, ho, hc⟩
  · rw [d] at e
    subst e
    rcases h with h | ⟨a, ev, _, h⟩
    · unfold VR at h
      obtain ⟨a, vs, ev, _, h1, h2⟩ := h
      exact ⟨a, vs, ev, h1, h2⟩
    · obtain ⟨vs, h1, h2⟩ := h
      exact ⟨a, vs, ev, h1, h2⟩
  · rw [e] at hc
    cases o with
    | lst vs => exact ⟨a, vs, ev, ho, hc⟩
    | _ => exact hc.elim
theorem Pk.dic (c : Cel K mg H et W) {p : PV} {v : V} (h : Pk K mg p v H et W) {xs : List (Key × PV)} (e : Mw.deref et p = .dic xs) : ∃ a vs, v = .ref a ∧ H a = some (.dK vs) ∧ VRk K mg W H xs vs := by
  rcases (h.der c).2 with d | ⟨a, o, n, _, ev, _, ho, hc⟩
  · rw [d] at e
    subst e
    rcases h with h | ⟨a, ev, _, h⟩
    · unfold VR at h
      obtain ⟨a, vs, ev, _, h1, h2⟩ := h
      exact ⟨a, vs, ev, h1, h2⟩
    · obtain ⟨vs, h1, h2⟩ := h
      exact ⟨a, vs, ev, h1, h2⟩
  · rw [e] at hc
    cases o with
    | dK vs => exact ⟨a, vs, ev, ho, hc⟩
    | _ => exact hc.elim
def Plain : PV → Bool
  | .lst _ => false
  | .dic _ => false
  | .ref _ => false
  | _ => true
theorem deref_plain {p q : PV} (e : Mw.deref et p = q) (hq : Plain q = true) : p = q := by
  cases p with
  | ref n =>
    unfold Mw.deref at e
    simp only at e
    split at e <;> (subst e; cases hq)
  | _ => exact e
theorem Pk.val {p : PV} {v : V} (h : Pk K mg p v H et W) {q : PV} (e : Mw.deref et p = q) (hq : Plain q = true) : VR K mg W H q v := by
  have e' := deref_plain e hq
  subst e'
  rcases h with h | ⟨a, _, _, h⟩
  · exact h
  · unfold OwnAt at h
    split at h
    · cases hq
    · cases hq
    · cases h
theorem Pk.tup {p : PV} {v : V} (h : Pk K mg p v H et W) {xs : List PV} (e : Mw.deref et p = .tup xs) : ∃ a vs, v = .ref a ∧ SqX K H a vs ∧ VRs K mg W H xs vs := by
  have q := h.val e rfl
  unfold VR at q; exact q
theorem Pk.int {p : PV} {v : V} (h : Pk K mg p v H et W) {i : Int} (e : Mw.deref et p = .int i) : v = .int i := by
  have q := h.val e rfl
  unfold VR at q; exact q
theorem Pk.str {p : PV} {v : V} (h : Pk K mg p v H et W) {i : Str} (e : Mw.deref et p = .str i) : v = .str i := by
  have q := h.val e rfl
  unfold VR at q; exact q
theorem Pk.bl {p : PV} {v : V} (h : Pk K mg p v H et W) {i : Bool} (e : Mw.deref et p = .bl i) : v = .bl i := by
  have q := h.val e rfl
  unfold VR at q; exact q
theorem Pk.non {p : PV} {v : V} (h : Pk K mg p v H et W) (e : Mw.deref et p = .non) : v = .non := by
  have q := h.val e rfl
  unfold VR at q; exact q
theorem Pk.scr {p : PV} {v : V} (h : Pk K mg p v H et W) {ns : List Int} (e : Mw.deref et p = .scr ns) : ∃ a, v = .ref a ∧ Scr K H a (ns.map V.int) := by
  have q := h.val e rfl
  unfold VR at q; exact q
theorem Scr.sq {a : Addr} {xs : List V} (h : Scr K H a xs) : SqL K H a xs := by
  rcases h with h | h
  · exact .inl (.inr h)
  · exact .inr h
end
section
variable {X : Cx} {ex : Expr} {m : EM PV}
theorem SimE.p (h : SimE X ex m) : SimP X ex m := weakE h fun σ H Q ⟨ep, et, W, R, c, s, e, q⟩ => ⟨ep, et, W, R, c, s, e, fun a et' r v H' W' x c' p => q a et' r v H' W' x c' (.inl p)⟩
theorem SimN.p (h : SimN X ex m) : SimP X ex m := weakE h fun σ H Q ⟨ep, et, W, R, c, s, e, q⟩ => ⟨ep, et, W, R, c, s, e, fun a et' r v H' W' x c' p => by
  obtain ⟨b, e1, _, _, h2, h3⟩ := p
  exact q a et' r v H' W' x c' (.inr ⟨b, e1, h2, h3⟩)⟩
theorem SimN.e (h : SimN X ex m) : SimE X ex m := weakE h fun σ H Q ⟨ep, et, W, R, c, s, e, q⟩ => ⟨ep, et, W, R, c, s, e, fun a et' r v H' W' x c' p => by
  obtain ⟨b, e1, h0, hf, h2, h3⟩ := p
  obtain ⟨c2, _, r2⟩ := c'.freeze h2 hf h3
  subst e1
  refine q a et' r _ H' (W'.add b) ⟨fun a h => .inl (x.fz a h), fun a h => ?_, x.mu, x.live, x.keep, x.there⟩ c2 r2
  rcases h with h | h
  · exact x.nfz a h
  · exact .inr (.inl (h ▸ h0))⟩
def mVar (i : Nat) : EM PV := fun ep et R => ∃ p, ep[i]? = some (.val p) ∧ R p et
def slotV : Option Slot → Option PV
  | some (.val p) => some p
  | some (.own p) => some p
  | _ => none
def mPeek (i : Nat) : EM PV := fun ep et R => ∃ p, slotV ep[i]? = some p ∧ R p et
def mC (p : PV) : EM PV := fun _ et R => R p et
theorem sE_var {i : Nat} (h : PE X ex (tVar i)) : SimE X ex (mVar i) := weakE h fun σ H Q ⟨ep, et, W, R, c, s, ⟨p, e, r⟩, q⟩ => by
  have hl : i < σ.length := by rw [← s.len]; exact (List.getElem?_eq_some_iff.mp e).1
  obtain ⟨v, ev, hv⟩ := s.ok i _ _ e (List.getElem?_eq_getElem hl)
  exact ⟨v, by rw [List.getElem?_eq_getElem hl, ev], q p et r v H W (Ext.refl ..) c hv⟩
theorem sP_var {i : Nat} (h : PE X ex (tVar i)) : SimP X ex (mPeek i) := weakE h fun σ H Q ⟨ep, et, W, R, c, s, ⟨p, e, r⟩, q⟩ => by
  unfold slotV at e
  split at e
  · rename_i t hp
    cases e
    have hl : i < σ.length := by rw [← s.len]; exact (List.getElem?_eq_some_iff.mp hp).1
    obtain ⟨v, ev, hv⟩ := s.ok i _ _ hp (List.getElem?_eq_getElem hl)
    exact ⟨v, by rw [List.getElem?_eq_getElem hl, ev], q p et r v H W (Ext.refl ..) c (.inl hv)⟩
  · rename_i t hp
    cases e
    have hl : i < σ.length := by rw [← s.len]; exact (List.getElem?_eq_some_iff.mp hp).1
    obtain ⟨a, ev, hv⟩ := s.ok i _ _ hp (List.getElem?_eq_getElem hl)
    have hσ : σ[i]? = some (some (.ref a)) := by rw [List.getElem?_eq_getElem hl, ev]
    exact ⟨.ref a, hσ, q p et r _ H W (Ext.refl ..) c (.inr ⟨a, rfl, s.oli a ⟨i, p, hp, hσ⟩, hv⟩)⟩
  · cases e
theorem sE_c {v : V} {p : PV} (h : PE X ex (tC v)) (hv : ∀ W H, VR X.K X.mg W H p v) : SimE X ex (mC p) := weakE h fun σ H Q ⟨ep, et, W, R, c, s, r, q⟩ =>
  q p et r v H W (Ext.refl ..) c (hv W H)
theorem sE_int {i j pos} : SimE X (.Constant (.int i) j pos) (mC (.int i)) := sE_c pe_int fun _ _ => by unfold VR; rfl
theorem sE_bl {i j pos} : SimE X (.Constant (.bool i) j pos) (mC (.bl i)) := sE_c pe_bl fun _ _ => by unfold VR; rfl
theorem sE_str {i j pos} : SimE X (.Constant (.str i) j pos) (mC (.str i)) := sE_c pe_str fun _ _ => by unfold VR; rfl
theorem sE_non {j pos} : SimE X (.Constant .none j pos) (mC .non) := sE_c pe_non fun _ _ => by unfold VR; rfl
theorem sE_glob {x : Str} {p : PV} {v : V} {u : Value} {pos : Pos} (hg : Gl X x) (hm : X.mg x = some u) (r : RelV v u) (hv : ∀ W H, VR X.K X.mg W H p v) (hd : (x == ("__debug__" : Str)) = false := by decide) : SimE X (.Name x pos) (mC p) :=
  sE_c (pe_glob hg hm r hd) hv
def Op2 (K : PySem.W.Frag) (mg : Str → Option Value) (R : R2) (g : PV → PV → Option PV) (P : Post PV) : Prop :=
  ∀ (x y : V) (H : Hp) (et : Hi) (W : Wd) (p q z : PV) (Q : VK), Cel K mg H et W → Pk K mg p x H et W → Pk K mg q y H et W → g (deref et p) (deref et q) = some z →
    (∀ v H' W', Ext NoO H et W H' et W' → Cel K mg H' et W' → P z v H et W H' et W' → Q v H') → R x y H Q
def Op1 (K : PySem.W.Frag) (mg : Str → Option Value) (R : V → Hp → VK → Prop) (g : PV → Option PV) (P : Post PV) : Prop :=
  ∀ (x : V) (H : Hp) (et : Hi) (W : Wd) (p z : PV) (Q : VK), Cel K mg H et W → Pk K mg p x H et W → g (deref et p) = some z →
    (∀ v H' W', Ext NoO H et W H' et W' → Cel K mg H' et W' → P z v H et W H' et W' → Q v H') → R x H Q
def OpA (K : PySem.W.Frag) (mg : Str → Option Value) (R : List V → Hp → VK → Prop) (g : List PV → Option PV) (P : Post PV) : Prop :=
  ∀ (xs : List V) (H : Hp) (et : Hi) (W : Wd) (ps : List PV) (z : PV) (Q : VK), Cel K mg H et W → Pks K mg ps xs H et W → g (ps.map (deref et)) = some z →
    (∀ v H' W', Ext NoO H et W H' et W' → Cel K mg H' et W' → P z v H et W H' et W' → Q v H') → R xs H Q
def Early (P : Post PV) : Prop := ∀ p v H0 et0 W0 H et W H' et' W', Ext NoO H0 et0 W0 H et W → P p v H et W H' et' W' → P p v H0 et0 W0 H' et' W'
theorem early_V {K : PySem.W.Frag} {mg : Str → Option Value} : Early (pV K mg) := fun _ _ _ _ _ _ _ _ _ _ _ _ h => h
theorem early_N {K : PySem.W.Frag} {mg : Str → Option Value} : Early (pN K mg) := fun p v H0 et0 W0 H et W H' et' W' x h => by
  obtain ⟨a, e, h0, r⟩ := h
  refine ⟨a, e, ?_, r⟩
  cases q : H0 a with
  | none => rfl
  | some o => exact absurd h0 (x.there a (by rw [q]; simp))
def mBin (g : PV → PV → Option PV) (ma mb : EM PV) : EM PV := fun ep et R => ma ep et fun a et1 => mb ep et1 fun b et2 => ∃ z, g (deref et2 a) (deref et2 b) = some z ∧ R z et2
def mUn (g : PV → Option PV) (ma : EM PV) : EM PV := fun ep et R => ma ep et fun a et1 => ∃ z, g (deref et1 a) = some z ∧ R z et1
def mArg (g : List PV → Option PV) (ma : EM (List PV)) : EM PV := fun ep et R => ma ep et fun a et1 => ∃ z, g (a.map (deref et1)) = some z ∧ R z et1
theorem Ext.NoO_trans {H H1 H2 : Hp} {et et1 et2 : Hi} {W W1 W2 : Wd} (x : Ext NoO H et W H1 et1 W1) (y : Ext NoO H1 et1 W1 H2 et2 W2) : Ext NoO H et W H2 et2 W2 := x.trans y fun _ h => .inl h
theorem bin_weak {a b : Expr} {ma mb : EM PV} {R : R2} {g : PV → PV → Option PV} {P : Post PV} (he : Early P) (h : PE X ex (tOp R (tI X.K X.mg (pP X.K X.mg) ma) (tI X.K X.mg (pP X.K X.mg) mb))) (hg : Op2 X.K X.mg R g P) :
    PE X ex (tI X.K X.mg P (mBin g ma mb)) := weakE h fun σ H Q ⟨ep, et, W, R0, c, s, e, q⟩ => by
  refine ⟨ep, et, W, _, c, s, e, fun p et1 r1 v H1 W1 x1 c1 p1 => ⟨ep, et1, W1, _, c1, s.ext c x1, r1, fun p' et2 r2 u H2 W2 x2 c2 p2 => ?_⟩⟩
  obtain ⟨z, hz, r3⟩ := r2
  refine hg v u H2 et2 W2 p p' z Q c2 (Pk.ext x2 c1 p1) p2 hz fun w H3 W3 x3 c3 p3 => ?_
  have x12 := x1.NoO_trans x2
  exact q z et2 r3 w H3 W3 (x12.NoO_trans x3) c3 (he _ _ _ _ _ _ _ _ _ _ _ x12 p3)
theorem un_weak {ma : EM PV} {R : V → Hp → VK → Prop} {g : PV → Option PV} {P : Post PV} (he : Early P) (h : PE X ex (tUn R (tI X.K X.mg (pP X.K X.mg) ma))) (hg : Op1 X.K X.mg R g P) :
    PE X ex (tI X.K X.mg P (mUn g ma)) := weakE h fun σ H Q ⟨ep, et, W, R0, c, s, e, q⟩ => by
  refine ⟨ep, et, W, _, c, s, e, fun p et1 r1 v H1 W1 x1 c1 p1 => ?_⟩
  obtain ⟨z, hz, r3⟩ := r1
  refine hg v H1 et1 W1 p z Q c1 p1 hz fun w H3 W3 x3 c3 p3 => ?_
  exact q z et1 r3 w H3 W3 (x1.NoO_trans x3) c3 (he _ _ _ _ _ _ _ _ _ _ _ x1 p3)
theorem arg_weak {ma : EM (List PV)} {R : List V → Hp → VK → Prop} {g : List PV → Option PV} {P : Post PV} (he : Early P) (h : PE X ex (tCB R (tLP X.K X.mg ma))) (hg : OpA X.K X.mg R g P) :
    PE X ex (tI X.K X.mg P (mArg g ma)) := weakE h fun σ H Q ⟨ep, et, W, R0, c, s, e, q⟩ => by
  refine ⟨ep, et, W, _, c, s, e, fun p et1 r1 v H1 W1 x1 c1 p1 => ?_⟩
  obtain ⟨z, hz, r3⟩ := r1
  refine hg v H1 et1 W1 p z Q c1 p1 hz fun w H3 W3 x3 c3 p3 => ?_
  exact q z et1 r3 w H3 W3 (x1.NoO_trans x3) c3 (he _ _ _ _ _ _ _ _ _ _ _ x1 p3)
theorem sE_op {a b : Expr} {op : Operator} {pos : Pos} {ma mb : EM PV} {R : R2} {g : PV → PV → Option PV} (ho : OpR X (binaryOp op) R) (hg : Op2 X.K X.mg R g (pV X.K X.mg)) (ha : SimP X a ma) (hb : SimP X b mb) : SimE X (.BinOp a op b pos) (mBin g ma mb) :=
  bin_weak (a := a) (b := b) early_V (pe_op ho ha hb) hg
theorem sN_op {a b : Expr} {op : Operator} {pos : Pos} {ma mb : EM PV} {R : R2} {g : PV → PV → Option PV} (ho : OpR X (binaryOp op) R) (hg : Op2 X.K X.mg R g (pN X.K X.mg)) (ha : SimP X a ma) (hb : SimP X b mb) : SimN X (.BinOp a op b pos) (mBin g ma mb) :=
  bin_weak (a := a) (b := b) early_N (pe_op ho ha hb) hg
theorem sE_cmp {a b : Expr} {op : CmpOp} {pos : Pos} {ma mb : EM PV} {R : R2} {g : PV → PV → Option PV} (ho : OpR X (compareOp op) R) (hg : Op2 X.K X.mg R g (pV X.K X.mg)) (ha : SimP X a ma) (hb : SimP X b mb) (hm : behindInMarks op b = false) : SimE X (.Compare a [op] [b] pos) (mBin g ma mb) :=
  bin_weak (a := a) (b := b) early_V (pe_cmpR ho ha hb hm) hg
theorem sE_un {a : Expr} {op : UnaryOp} {pos : Pos} {ma : EM PV} {R : V → Hp → VK → Prop} {g : PV → Option PV} (ho : UnR X (unaryOp op) R) (hg : Op1 X.K X.mg R g (pV X.K X.mg)) (ha : SimP X a ma) : SimE X (.UnaryOp op a pos) (mUn g ma) :=
  un_weak early_V (pe_un ho ha) hg
def mBinT (g : PV → PV → Option PV) (ma mb : EM PV) : EM Bool := fun ep et R => ma ep et fun a et1 => mb ep et1 fun b et2 => ∃ z, g (deref et2 a) (deref et2 b) = some (.bl z) ∧ R z et2
theorem sT_cmp {a b : Expr} {op : CmpOp} {pos : Pos} {ma mb : EM PV} {R : R2} {g : PV → PV → Option PV} (ho : OpR X (compareOp op) R) (hg : Op2 X.K X.mg R g (pV X.K X.mg)) (ha : SimP X a ma) (hb : SimP X b mb) (hm : behindInMarks op b = false) : SimT X (.Compare a [op] [b] pos) (mBinT g ma mb) :=
  weakT (pt_cmpR ho ha hb hm) fun σ H Q ⟨ep, et, W, R0, c, s, e, q⟩ => by
  refine ⟨ep, et, W, _, c, s, e, fun p et1 r1 v H1 W1 x1 c1 p1 => ⟨ep, et1, W1, _, c1, s.ext c x1, r1, fun p' et2 r2 u H2 W2 x2 c2 p2 => ?_⟩⟩
  obtain ⟨z, hz, r3⟩ := r2
  refine hg v u H2 et2 W2 p p' _ _ c2 (Pk.ext x2 c1 p1) p2 hz fun w H3 W3 x3 c3 p3 => ?_
  have p4 : VR X.K X.mg W3 H3 (.bl z) w := p3
  unfold VR at p4
  exact ⟨z, p4, q z et2 r3 H3 W3 ((x1.NoO_trans x2).NoO_trans x3) c3⟩
def mAsT (m : EM PV) : EM Bool := fun ep et R => m ep et fun a et1 => ∃ z, a = .bl z ∧ R z et1
theorem sT_val (h : SimE X ex m) (he : ∀ whole, isTrue ex X.env whole = (do let v ← whole; standAt ex.pos; holding [v] (truthy v)) := by intro _; rfl) : SimT X ex (mAsT m) := weakT (pt_val h he) fun σ H Q ⟨ep, et, W, R0, c, s, e, q⟩ => by
  refine ⟨ep, et, W, _, c, s, e, fun p et1 r1 v H1 W1 x1 c1 p1 => ?_⟩
  obtain ⟨z, hz, r3⟩ := r1
  have p4 : VR X.K X.mg W1 H1 p v := p1
  subst hz
  unfold VR at p4
  exact ⟨z, p4, q z et1 r3 H1 W1 x1 c1⟩
def mNotT (m : EM Bool) : EM Bool := fun ep et R => m ep et fun b et1 => R (!b) et1
def mAndT (m n : EM Bool) : EM Bool := fun ep et R => m ep et fun b et1 => if b = true then n ep et1 R else R false et1
def mOrT (m n : EM Bool) : EM Bool := fun ep et R => m ep et fun b et1 => if b = true then R true et1 else n ep et1 R
theorem sT_not {a : Expr} {pos : Pos} {m : EM Bool} (h : SimT X a m) : SimT X (.UnaryOp .Not a pos) (mNotT m) := weakT (pt_not h) fun σ H Q ⟨ep, et, W, R0, c, s, e, q⟩ =>
  ⟨ep, et, W, _, c, s, e, fun b et1 r1 H1 W1 x1 c1 => q _ et1 r1 H1 W1 x1 c1⟩
theorem sW_and1 {a : Expr} {pos : Pos} {m : EM Bool} (h : SimT X a m) : SimW X (.BoolOp .And [a] pos) m := pw_and1 h
theorem sW_or1 {a : Expr} {pos : Pos} {m : EM Bool} (h : SimT X a m) : SimW X (.BoolOp .Or [a] pos) m := pw_or1 h
theorem sW_and {a b : Expr} {rest : List Expr} {pos : Pos} {m n : EM Bool} (h : SimT X a m) (g : SimW X (.BoolOp .And (b :: rest) pos) n) : SimW X (.BoolOp .And (a :: b :: rest) pos) (mAndT m n) := weakW (pw_and h g) fun σ H Q ⟨ep, et, W, R0, c, s, e, q⟩ => by
  refine ⟨ep, et, W, _, c, s, e, fun b et1 r1 H1 W1 x1 c1 => ?_⟩
  cases b with
  | true => exact ⟨ep, et1, W1, _, c1, s.ext c x1, by simpa using r1, fun b' et2 r2 H2 W2 x2 c2 => q b' et2 r2 H2 W2 (x1.NoO_trans x2) c2⟩
  | false => exact q false et1 (by simpa using r1) H1 W1 x1 c1
theorem sW_or {a b : Expr} {rest : List Expr} {pos : Pos} {m n : EM Bool} (h : SimT X a m) (g : SimW X (.BoolOp .Or (b :: rest) pos) n) : SimW X (.BoolOp .Or (a :: b :: rest) pos) (mOrT m n) := weakW (pw_or h g) fun σ H Q ⟨ep, et, W, R0, c, s, e, q⟩ => by
  refine ⟨ep, et, W, _, c, s, e, fun b et1 r1 H1 W1 x1 c1 => ?_⟩
  cases b with
  | false => exact ⟨ep, et1, W1, _, c1, s.ext c x1, by simpa using r1, fun b' et2 r2 H2 W2 x2 c2 => q b' et2 r2 H2 W2 (x1.NoO_trans x2) c2⟩
  | true => exact q true et1 (by simpa using r1) H1 W1 x1 c1
def mAndE (m n : EM PV) : EM PV := fun ep et R => m ep et fun p et1 => ∃ b, p = .bl b ∧ if b = true then n ep et1 R else R (.bl false) et1
def mOrE (m n : EM PV) : EM PV := fun ep et R => m ep et fun p et1 => ∃ b, p = .bl b ∧ if b = true then R (.bl true) et1 else n ep et1 R
def mNotE (m : EM PV) : EM PV := fun ep et R => m ep et fun p et1 => ∃ b, p = .bl b ∧ R (.bl (!b)) et1
theorem VR.bl {K : PySem.W.Frag} {mg : Str → Option Value} {W : Wd} {H : Hp} {b : Bool} : VR K mg W H (.bl b) (.bl b) := by unfold VR; rfl
theorem VR.int {K : PySem.W.Frag} {mg : Str → Option Value} {W : Wd} {H : Hp} {b : Int} : VR K mg W H (.int b) (.int b) := by unfold VR; rfl
theorem VR.str {K : PySem.W.Frag} {mg : Str → Option Value} {W : Wd} {H : Hp} {b : Str} : VR K mg W H (.str b) (.str b) := by unfold VR; rfl
theorem VR.non {K : PySem.W.Frag} {mg : Str → Option Value} {W : Wd} {H : Hp} : VR K mg W H .non .non := by unfold VR; rfl
theorem sE_one {op} {a : Expr} {pos : Pos} (h : SimE X a m) : SimE X (.BoolOp op [a] pos) m := pe_one h
theorem sE_and {a b : Expr} {rest : List Expr} {pos : Pos} {n : EM PV} (h : SimE X a m) (g : SimE X (.BoolOp .And (b :: rest) pos) n) : SimE X (.BoolOp .And (a :: b :: rest) pos) (mAndE m n) := weakE (pe_and h g) fun σ H Q ⟨ep, et, W, R0, c, s, e, q⟩ => by
  refine ⟨ep, et, W, _, c, s, e, fun p et1 r1 v H1 W1 x1 c1 p1 => ?_⟩
  obtain ⟨b, hb, r1⟩ := r1
  have p4 : VR X.K X.mg W1 H1 p v := p1
  subst hb
  unfold VR at p4
  refine ⟨b, p4, ?_⟩
  cases b with
  | true => exact ⟨ep, et1, W1, _, c1, s.ext c x1, by simpa using r1, fun b' et2 r2 v2 H2 W2 x2 c2 p2 => q b' et2 r2 v2 H2 W2 (x1.NoO_trans x2) c2 p2⟩
  | false => exact q _ et1 (by simpa using r1) _ H1 W1 x1 c1 VR.bl
theorem sE_or {a b : Expr} {rest : List Expr} {pos : Pos} {n : EM PV} (h : SimE X a m) (g : SimE X (.BoolOp .Or (b :: rest) pos) n) : SimE X (.BoolOp .Or (a :: b :: rest) pos) (mOrE m n) := weakE (pe_or h g) fun σ H Q ⟨ep, et, W, R0, c, s, e, q⟩ => by
  refine ⟨ep, et, W, _, c, s, e, fun p et1 r1 v H1 W1 x1 c1 p1 => ?_⟩
  obtain ⟨b, hb, r1⟩ := r1
  have p4 : VR X.K X.mg W1 H1 p v := p1
  subst hb
  unfold VR at p4
  refine ⟨b, p4, ?_⟩
  cases b with
  | false => exact ⟨ep, et1, W1, _, c1, s.ext c x1, by simpa using r1, fun b' et2 r2 v2 H2 W2 x2 c2 p2 => q b' et2 r2 v2 H2 W2 (x1.NoO_trans x2) c2 p2⟩
  | true => exact q _ et1 (by simpa using r1) _ H1 W1 x1 c1 VR.bl
theorem sE_not {a : Expr} {pos : Pos} (h : SimE X a m) : SimE X (.UnaryOp .Not a pos) (mNotE m) := weakE (pe_not h) fun σ H Q ⟨ep, et, W, R0, c, s, e, q⟩ => by
  refine ⟨ep, et, W, _, c, s, e, fun p et1 r1 v H1 W1 x1 c1 p1 => ?_⟩
  obtain ⟨b, hb, r1⟩ := r1
  have p4 : VR X.K X.mg W1 H1 p v := p1
  subst hb
  unfold VR at p4
  exact ⟨b, p4, q _ et1 r1 _ H1 W1 x1 c1 VR.bl⟩
def mChain (g g' : PV → PV → Option PV) (ma mb mc : EM PV) : EM PV := fun ep et R => ma ep et fun a et1 => mb ep et1 fun b et2 => ∃ z, g (deref et2 a) (deref et2 b) = some (.bl z) ∧
  if z = true then mc ep et2 fun d et3 => ∃ y, g' (deref et3 b) (deref et3 d) = some y ∧ R y et3 else R (.bl false) et2
theorem sE_chain {a b d : Expr} {op op' : CmpOp} {pos : Pos} {ma mb mc : EM PV} {R R' : R2} {g g' : PV → PV → Option PV} (ho : OpR X (compareOp op) R) (ho' : OpR X (compareOp op') R') (hg : Op2 X.K X.mg R g (pV X.K X.mg)) (hg' : Op2 X.K X.mg R' g' (pV X.K X.mg))
    (ha : SimP X a ma) (hb : SimP X b mb) (hc : SimP X d mc) (hm : lastMarks [op, op'] [b, d] = false := by with_unfolding_all rfl) : SimE X (.Compare a [op, op'] [b, d] pos) (mChain g g' ma mb mc) := weakE (pe_chain ho ho' ha hb hc hm) fun σ H Q ⟨ep, et, W, R0, c, s, e, q⟩ => by
  refine ⟨ep, et, W, _, c, s, e, fun p et1 r1 v H1 W1 x1 c1 p1 => ⟨ep, et1, W1, _, c1, s.ext c x1, r1, fun p' et2 r2 u H2 W2 x2 c2 p2 => ?_⟩⟩
  obtain ⟨z, hz, r3⟩ := r2
  refine hg v u H2 et2 W2 p p' _ _ c2 (Pk.ext x2 c1 p1) p2 hz fun w H3 W3 x3 c3 p3 => ?_
  have p4 : VR X.K X.mg W3 H3 (.bl z) w := p3
  unfold VR at p4
  refine ⟨z, p4, ?_⟩
  have x13 := (x1.NoO_trans x2).NoO_trans x3
  cases z with
  | false => exact q _ et2 (by simpa using r3) _ H3 W3 x13 c3 VR.bl
  | true =>
    refine ⟨ep, et2, W3, _, c3, s.ext c x13, by simpa using r3, fun p5 et4 r4 v4 H4 W4 x4 c4 p6 => ?_⟩
    obtain ⟨y, hy, r5⟩ := r4
    refine hg' u v4 H4 et4 W4 p' p5 y Q c4 (Pk.ext (x3.NoO_trans x4) c2 p2) p6 hy fun w5 H5 W5 x5 c5 p7 => ?_
    exact q y et4 r5 w5 H5 W5 ((x13.NoO_trans x4).NoO_trans x5) c5 p7
end
end Mw
namespace Mw
open PySem PySem.Spec L2
mutual
def dat : PV → Option PyData
  | .non => some .none
  | .bl b => some (.bool b)
  | .int i => some (.int i)
  | .str x => some (.str x)
  | .tup xs => (dats xs).map .tuple
  | .lst xs => (dats xs).map .list
  | _ => none
def dats : List PV → Option (List PyData)
  | [] => some []
  | x :: xs => (dat x).bind fun d => (dats xs).map fun ds => d :: ds
end
section
variable {K : PySem.W.Frag} {mg : Str → Option Value} {H : Hp} {et : Hi} {W : Wd}
mutual
theorem VR.dp : ∀ (p : PV) (v : V) (d : PyData), VR K mg W H p v → dat p = some d → Dp K H v d
  | .non, v, d, h, e => by unfold VR at h; unfold dat at e; cases e; subst h; exact .non
  | .bl b, v, d, h, e => by unfold VR at h; unfold dat at e; cases e; subst h; exact .bl b
  | .int b, v, d, h, e => by unfold VR at h; unfold dat at e; cases e; subst h; exact .int b
  | .str b, v, d, h, e => by unfold VR at h; unfold dat at e; cases e; subst h; exact .str b
  | .tup xs, v, d, h, e => by
    unfold VR at h; unfold dat at e
    obtain ⟨a, vs, rfl, h1, h2⟩ := h
    cases q : dats xs with
    | none => rw [q] at e; cases e
    | some ds => rw [q] at e; cases e; exact .tup h1 (VRs.dp xs vs ds h2 q)
  | .lst xs, v, d, h, e => by
    unfold VR at h; unfold dat at e
    obtain ⟨a, vs, rfl, _, h1, h2⟩ := h
    cases q : dats xs with
    | none => rw [q] at e; cases e
    | some ds => rw [q] at e; cases e; exact .lst (SqL.of h1) (VRs.dp xs vs ds h2 q)
  | .dic _, v, d, h, e => by unfold dat at e; cases e
  | .scr _, v, d, h, e => by unfold dat at e; cases e
  | .ref _, v, d, h, e => by unfold dat at e; cases e
  | .glo _, v, d, h, e => by unfold dat at e; cases e
  | .ty _, v, d, h, e => by unfold dat at e; cases e
  | .dik _, v, d, h, e => by unfold dat at e; cases e
theorem VRs.dp : ∀ (p : List PV) (v : List V) (d : List PyData), VRs K mg W H p v → dats p = some d → DpAll K H v d
  | [], v, d, h, e => by unfold VRs at h; unfold dats at e; cases e; subst h; exact .nil
  | p :: ps, v, d, h, e => by
    unfold VRs at h; unfold dats at e
    obtain ⟨u, r, rfl, h1, h2⟩ := h
    cases q : dat p with
    | none => rw [q] at e; cases e
    | some d1 =>
      rw [q] at e
      simp only [Option.bind_some] at e
      cases q2 : dats ps with
      | none => rw [q2] at e; cases e
      | some ds => rw [q2] at e; cases e; exact .cons (VR.dp p u d1 h1 q) (VRs.dp ps r ds h2 q2)
end
theorem Pk.dp (c : Cel K mg H et W) {p : PV} {v : V} {d : PyData} (h : Pk K mg p v H et W) (e : dat (deref et p) = some d) : Dp K H v d := by
  cases q : deref et p with
  | lst xs =>
    rw [q] at e
    obtain ⟨a, vs, rfl, h1, h2⟩ := h.lst c q
    unfold dat at e
    cases q2 : dats xs with
    | none => rw [q2] at e; cases e
    | some ds => rw [q2] at e; cases e; exact .lst (SqL.of h1) (VRs.dp xs vs ds h2 q2)
  | dic xs => rw [q] at e; unfold dat at e; cases e
  | ref n => rw [q] at e; unfold dat at e; cases e
  | _ => rw [q] at e; exact VR.dp _ _ _ (h.val q rfl) e
end
def gAdd : PV → PV → Option PV
  | .int i, .int j => some (.int (i + j))
  | .str x, .str y => if x.length + y.length ≤ sizeLine then some (.str (x ++ y)) else none
  | .tup xs, .tup ys => if xs.length + ys.length ≤ sizeLine then some (.tup (xs ++ ys)) else none
  | .lst xs, .lst ys => if xs.length + ys.length ≤ sizeLine then some (.lst (xs ++ ys)) else none
  | _, _ => none
def gCat : PV → PV → Option PV
  | .lst xs, .lst ys => if xs.length + ys.length ≤ sizeLine then some (.lst (xs ++ ys)) else none
  | _, _ => none
def gSubI : PV → PV → Option PV
  | .int i, .int j => some (.int (i - j))
  | _, _ => none
def gMul : PV → PV → Option PV
  | .int i, .int j => if (-(2 ^ 64) < i ∧ i < 2 ^ 64) ∨ (-(2 ^ 64) < j ∧ j < 2 ^ 64) then some (.int (i * j)) else none
  | _, _ => none
def gDiv : PV → PV → Option PV
  | .int i, .int j => if 0 < j ∧ j < 1073741824 then some (.int (i / j)) else none
  | _, _ => none
def gMod : PV → PV → Option PV
  | .int i, .int j => if 0 < j then some (.int (i % j)) else none
  | _, _ => none
def gPow : PV → PV → Option PV
  | .int i, .int j => if 0 ≤ j ∧ j ≤ 1000000 ∧ i.natAbs < 2 ^ 64 then some (.int (i ^ j.toNat)) else none
  | _, _ => none
section
variable {K : PySem.W.Frag} {mg : Str → Option Value}
def rCatX (K : PySem.W.Frag) : R2 := fun x y H Q => ∃ a b xs ys, x = .ref a ∧ y = .ref b ∧ SqT K H a xs ∧ SqT K H b ys ∧ xs.length + ys.length ≤ sizeLine ∧
  (xs = [] → Q (.ref b) H) ∧ (xs ≠ [] → ys = [] → Q (.ref a) H) ∧ (xs ≠ [] → ys ≠ [] → ∀ p o, H p = none → XTup o → Q (.ref p) (upd H p (.frz o (.tup (xs ++ ys)))))
theorem op_catX {X : Cx} : OpR X (binaryOp .Add) (rCatX X.K) := by
  intro pins s σ H x y v u Q I rx ry ⟨a, b, xs, ys, ea, eb, ha, hb, hz, q0, q1, q2⟩
  by_cases hx : xs = []
  · exact op_catA pins s σ H x y v u Q I rx ry ⟨a, b, xs, ys, ea, eb, ha, hb, hz, q0, q1, fun n => absurd hx n⟩
  by_cases hy : ys = []
  · exact op_catA pins s σ H x y v u Q I rx ry ⟨a, b, xs, ys, ea, eb, ha, hb, hz, q0, q1, fun _ n => absurd hy n⟩
  subst ea
  subst eb
  cases rx
  cases ry
  obtain ⟨i1, r1, p1, _⟩ := I.tuple ha
  obtain ⟨i2, r2, p2, _⟩ := I.tuple hb
  have n1 : i1 ≠ [] := fun z => hx (r1.nil_iff.mp z)
  have n2 : i2 ≠ [] := fun z => hy (r2.nil_iff.mp z)
  refine HT.cat_tup p1 p2 n1 (fun z => absurd z n2) (fun _ => ?_) (by rw [← r1.length, ← r2.length]; exact hz)
  obtain ⟨o, ho, hg⟩ := tup_push s.heap (i1 ++ i2).toArray
  refine ⟨.ref s.heap.objs.size, _, I.laid (t' := s.toks) (o := .frz o (.tup (xs ++ ys))) (fun b ob q => Heap.get?_push_of_some _ q) (Nat.le_refl _) ?_, rfl, q2 hx hy _ o (I.hok.fresh (Nat.le_refl _)) ho⟩
  exact ⟨hg, by rw [List.length_append]; exact hz, _, r1.append r2, PyProof.Rows.IsTup.new _ _⟩
def rAdd (K : PySem.W.Frag) : R2 := fun x y H Q => rI0 (fun i j => .int (i + j)) x y H Q ∨ (∃ i j, x = .str i ∧ y = .str j ∧ i.length + j.length ≤ sizeLine ∧ Q (.str (i ++ j)) H) ∨ rCatX K x y H Q ∨ rCat x y H Q
theorem op_addA {X : Cx} : OpR X (binaryOp .Add) (rAdd X.K) := op_add.or (op_add_str.or (op_catX.or op_cat))
theorem VRs.empty_iff {W : Wd} {H : Hp} {ps : List PV} {vs : List V} (h : VRs K mg W H ps vs) : vs = [] ↔ ps = [] := by
  have e := h.len
  constructor
  · intro z; rw [z] at e; exact List.eq_nil_of_length_eq_zero e
  · intro z; rw [z] at e; exact List.eq_nil_of_length_eq_zero e.symm
theorem o2_add : Op2 K mg (rAdd K) gAdd (pV K mg) := by
  intro x y H et W p q z Q c hp hq hz k
  unfold gAdd at hz
  split at hz
  · rename_i i j e1 e2
    cases hz
    exact .inl ⟨i, j, hp.int e1, hq.int e2, k _ H W (Ext.refl ..) c VR.int⟩
  · rename_i i j e1 e2
    split at hz
    · rename_i hl; cases hz
      exact .inr (.inl ⟨i, j, hp.str e1, hq.str e2, hl, k _ H W (Ext.refl ..) c VR.str⟩)
    · cases hz
  · rename_i xs ys e1 e2
    split at hz
    · rename_i hl; cases hz
      obtain ⟨a, vs, rfl, h1, h2⟩ := hp.tup e1
      obtain ⟨b, ws, rfl, h3, h4⟩ := hq.tup e2
      refine .inr (.inr (.inl ⟨a, b, vs, ws, rfl, rfl, h1, h3, by rw [← h2.len, ← h4.len]; exact hl, fun z => ?_, fun z z2 => ?_, fun z z2 t o ht ho => ?_⟩))
      · have := h2.empty_iff.mp z; subst this
        refine k _ H W (Ext.refl ..) c ?_
        show VR K mg W H (.tup ([] ++ ys)) _
        unfold VR; exact ⟨b, ws, rfl, h3, h4⟩
      · have := h4.empty_iff.mp z2; subst this
        refine k _ H W (Ext.refl ..) c ?_
        show VR K mg W H (.tup (xs ++ [])) _
        rw [List.append_nil]
        unfold VR; exact ⟨a, vs, rfl, h1, h2⟩
      · obtain ⟨x1, c1, r1⟩ := new_tup c ht ho (VRs.append h2 h4)
        exact k _ _ W x1 c1 r1
    · cases hz
  · rename_i xs ys e1 e2
    split at hz
    · rename_i hl; cases hz
      obtain ⟨a, vs, rfl, h1, h2⟩ := hp.lst c e1
      obtain ⟨b, ws, rfl, h3, h4⟩ := hq.lst c e2
      refine .inr (.inr (.inr ⟨a, b, vs, ws, rfl, rfl, h1, h3, by rw [← h2.len, ← h4.len]; exact hl, fun t ht => ?_⟩))
      obtain ⟨x1, c1, r1⟩ := new_lst c ht (VRs.append h2 h4)
      exact k _ _ _ x1 c1 r1
    · cases hz
  · cases hz
theorem o2_cat : Op2 K mg rCat gCat (pN K mg) := by
  intro x y H et W p q z Q c hp hq hz k
  unfold gCat at hz
  split at hz
  · rename_i xs ys e1 e2
    split at hz
    · rename_i hl; cases hz
      obtain ⟨a, vs, rfl, h1, h2⟩ := hp.lst c e1
      obtain ⟨b, ws, rfl, h3, h4⟩ := hq.lst c e2
      refine ⟨a, b, vs, ws, rfl, rfl, h1, h3, by rw [← h2.len, ← h4.len]; exact hl, fun t ht => ?_⟩
      obtain ⟨x1, c1, r1⟩ := new_own c ht (VRs.append h2 h4)
      exact k _ _ _ x1 c1 r1
    · cases hz
  · cases hz
theorem o2_sub : Op2 K mg (rI0 fun i j => .int (i - j)) gSubI (pV K mg) := by
  intro x y H et W p q z Q c hp hq hz k
  unfold gSubI at hz
  split at hz
  · rename_i i j e1 e2
    cases hz
    exact ⟨i, j, hp.int e1, hq.int e2, k _ H W (Ext.refl ..) c VR.int⟩
  · cases hz
theorem o2_mul : Op2 K mg (rI CMul fun i j => .int (i * j)) gMul (pV K mg) := by
  intro x y H et W p q z Q c hp hq hz k
  unfold gMul at hz
  split at hz
  · rename_i i j e1 e2
    split at hz
    · rename_i hl; cases hz
      exact ⟨i, j, hp.int e1, hq.int e2, hl, k _ H W (Ext.refl ..) c VR.int⟩
    · cases hz
  · cases hz
theorem o2_div : Op2 K mg (rI CDiv fun i j => .int (i / j)) gDiv (pV K mg) := by
  intro x y H et W p q z Q c hp hq hz k
  unfold gDiv at hz
  split at hz
  · rename_i i j e1 e2
    split at hz
    · rename_i hl; cases hz
      exact ⟨i, j, hp.int e1, hq.int e2, hl, k _ H W (Ext.refl ..) c VR.int⟩
    · cases hz
  · cases hz
theorem o2_mod : Op2 K mg (rI (fun _ j => 0 < j) fun i j => .int (i % j)) gMod (pV K mg) := by
  intro x y H et W p q z Q c hp hq hz k
  unfold gMod at hz
  split at hz
  · rename_i i j e1 e2
    split at hz
    · rename_i hl; cases hz
      exact ⟨i, j, hp.int e1, hq.int e2, hl, k _ H W (Ext.refl ..) c VR.int⟩
    · cases hz
  · cases hz
theorem o2_pow : Op2 K mg (rI CPow fun i j => .int (i ^ j.toNat)) gPow (pV K mg) := by
  intro x y H et W p q z Q c hp hq hz k
  unfold gPow at hz
  split at hz
  · rename_i i j e1 e2
    split at hz
    · rename_i hl; cases hz
      exact ⟨i, j, hp.int e1, hq.int e2, hl, k _ H W (Ext.refl ..) c VR.int⟩
    · cases hz
  · cases hz
def eqB : PV → PV → Option Bool
  | .int i, .int j => some (decide (i = j))
  | .str x, .str y => some (decide (x = y))
  | .bl x, .bl y => some (decide (x = y))
  | .non, .non => some true
  | .int _, .str _ => some false
  | .str _, .int _ => some false
  | .int _, .non => some false
  | .non, .int _ => some false
  | .str _, .non => some false
  | .non, .str _ => some false
  | p, q => match dat p, dat q with
    | some d, some e => if SeqAt.shaped d = true ∧ SeqAt.shaped e = true then some (PyData.eqv d e) else none
    | _, _ => none
def gEq (p q : PV) : Option PV := (eqB p q).map .bl
def gNe (p q : PV) : Option PV := (eqB p q).map fun b => .bl (!b)
def rEqA (K : PySem.W.Frag) : R2 := fun x y H Q => rEq x y H Q ∨ rEqD K x y H Q
def rNeA (K : PySem.W.Frag) : R2 := fun x y H Q => rNe x y H Q ∨ rNeD K x y H Q
theorem op_eqA {X : Cx} (hu : X.A.units + 64 < cLine) : OpR X (compareOp .Eq) (rEqA X.K) := op_eq.or (op_eqD hu)
theorem op_neA {X : Cx} (hu : X.A.units + 64 < cLine) : OpR X (compareOp .NotEq) (rNeA X.K) := op_ne.or (op_neD hu)
theorem eqB_ok {x y : V} {H : Hp} {et : Hi} {W : Wd} {p q : PV} {b : Bool} (c : Cel K mg H et W) (hp : Pk K mg p x H et W) (hq : Pk K mg q y H et W) (h : eqB (deref et p) (deref et q) = some b) :
    (scal x y = true ∧ decide (x = y) = b) ∨ ∃ d e, Dp K H x d ∧ Dp K H y e ∧ SeqAt.shaped d = true ∧ SeqAt.shaped e = true ∧ PyData.eqv d e = b := by
  unfold eqB at h
  split at h
  · rename_i i j e1 e2; cases h; rw [hp.int e1, hq.int e2]; exact .inl ⟨rfl, by simp⟩
  · rename_i i j e1 e2; cases h; rw [hp.str e1, hq.str e2]; exact .inl ⟨rfl, by simp⟩
  · rename_i i j e1 e2; cases h; rw [hp.bl e1, hq.bl e2]; exact .inl ⟨rfl, by simp⟩
  · rename_i e1 e2; cases h; rw [hp.non e1, hq.non e2]; exact .inl ⟨rfl, by simp⟩
  · rename_i i j e1 e2; cases h; rw [hp.int e1, hq.str e2]; exact .inl ⟨rfl, by simp⟩
  · rename_i i j e1 e2; cases h; rw [hp.str e1, hq.int e2]; exact .inl ⟨rfl, by simp⟩
  · rename_i i e1 e2; cases h; rw [hp.int e1, hq.non e2]; exact .inl ⟨rfl, by simp⟩
  · rename_i i e1 e2; cases h; rw [hp.non e1, hq.int e2]; exact .inl ⟨rfl, by simp⟩
  · rename_i i e1 e2; cases h; rw [hp.str e1, hq.non e2]; exact .inl ⟨rfl, by simp⟩
  · rename_i i e1 e2; cases h; rw [hp.non e1, hq.str e2]; exact .inl ⟨rfl, by simp⟩
  · split at h
    · rename_i d e hd he
      split at h
      · rename_i hs; cases h
        exact .inr ⟨d, e, hp.dp c hd, hq.dp c he, hs.1, hs.2, rfl⟩
      · cases h
    · cases h
theorem o2_eq : Op2 K mg (rEqA K) gEq (pV K mg) := by
  intro x y H et W p q z Q c hp hq hz k
  unfold gEq at hz
  cases e : eqB (deref et p) (deref et q) with
  | none => rw [e] at hz; cases hz
  | some b =>
    rw [e] at hz; cases hz
    have qd := k _ H W (Ext.refl ..) c VR.bl
    rcases eqB_ok c hp hq e with ⟨h1, h2⟩ | ⟨d, e', h1, h2, h3, h4, h5⟩
    · exact .inl ⟨h1, by rw [h2]; exact qd⟩
    · exact .inr ⟨d, e', h1, h2, h3, h4, by rw [h5]; exact qd⟩
theorem o2_ne : Op2 K mg (rNeA K) gNe (pV K mg) := by
  intro x y H et W p q z Q c hp hq hz k
  unfold gNe at hz
  cases e : eqB (deref et p) (deref et q) with
  | none => rw [e] at hz; cases hz
  | some b =>
    rw [e] at hz; cases hz
    have qd := k _ H W (Ext.refl ..) c VR.bl
    rcases eqB_ok c hp hq e with ⟨h1, h2⟩ | ⟨d, e', h1, h2, h3, h4, h5⟩
    · exact .inl ⟨h1, by rw [h2]; exact qd⟩
    · exact .inr ⟨d, e', h1, h2, h3, h4, by rw [h5]; exact qd⟩
def gLt : PV → PV → Option PV
  | .int i, .int j => some (.bl (decide (i < j)))
  | .str i, .str j => some (.bl (decide (i.cps.toList < j.cps.toList)))
  | _, _ => none
def gLe : PV → PV → Option PV
  | .int i, .int j => some (.bl (decide (i ≤ j)))
  | _, _ => none
def gGt : PV → PV → Option PV
  | .int i, .int j => some (.bl (decide (j < i)))
  | _, _ => none
def gGe : PV → PV → Option PV
  | .int i, .int j => some (.bl (decide (j ≤ i)))
  | _, _ => none
def rLtA : R2 := fun x y H Q => rI0 (fun i j => .bl (decide (i < j))) x y H Q ∨ ∃ i j, x = .str i ∧ y = .str j ∧ Q (.bl (decide (i.cps.toList < j.cps.toList))) H
theorem op_ltA {X : Cx} : OpR X (compareOp .Lt) rLtA := op_lt.or op_lt_str
theorem o2_lt : Op2 K mg rLtA gLt (pV K mg) := by
  intro x y H et W p q z Q c hp hq hz k
  unfold gLt at hz
  split at hz
  · rename_i i j e1 e2
    cases hz
    exact .inl ⟨i, j, hp.int e1, hq.int e2, k _ H W (Ext.refl ..) c VR.bl⟩
  · rename_i i j e1 e2
    cases hz
    exact .inr ⟨i, j, hp.str e1, hq.str e2, k _ H W (Ext.refl ..) c VR.bl⟩
  · cases hz
theorem o2_le : Op2 K mg (rI0 fun i j => .bl (decide (i ≤ j))) gLe (pV K mg) := by
  intro x y H et W p q z Q c hp hq hz k
  unfold gLe at hz
  split at hz
  · rename_i i j e1 e2
    cases hz
    exact ⟨i, j, hp.int e1, hq.int e2, k _ H W (Ext.refl ..) c VR.bl⟩
  · cases hz
theorem o2_gt : Op2 K mg (rI0 fun i j => .bl (decide (j < i))) gGt (pV K mg) := by
  intro x y H et W p q z Q c hp hq hz k
  unfold gGt at hz
  split at hz
  · rename_i i j e1 e2
    cases hz
    exact ⟨i, j, hp.int e1, hq.int e2, k _ H W (Ext.refl ..) c VR.bl⟩
  · cases hz
theorem o2_ge : Op2 K mg (rI0 fun i j => .bl (decide (j ≤ i))) gGe (pV K mg) := by
  intro x y H et W p q z Q c hp hq hz k
  unfold gGe at hz
  split at hz
  · rename_i i j e1 e2
    cases hz
    exact ⟨i, j, hp.int e1, hq.int e2, k _ H W (Ext.refl ..) c VR.bl⟩
  · cases hz
def gIs : PV → PV → Option PV
  | .non, .non => some (.bl true)
  | .bl _, .non => some (.bl false)
  | .int _, .non => some (.bl false)
  | .str _, .non => some (.bl false)
  | .tup _, .non => some (.bl false)
  | .lst _, .non => some (.bl false)
  | .dic _, .non => some (.bl false)
  | .scr _, .non => some (.bl false)
  | .ref _, .non => some (.bl false)
  | .bl a, .bl b => some (.bl (decide (a = b)))
  | _, _ => none
def gIsNot (p q : PV) : Option PV := match gIs p q with
  | some (.bl b) => some (.bl (!b))
  | _ => none
def rIsNotA : R2 := fun x y H Q => (y = .non ∧ Q (.bl (!decide (x = .non))) H) ∨ rNotB x y H Q
theorem op_isNotA {X : Cx} : OpR X (compareOp .IsNot) rIsNotA := op_notN.or op_notBl
theorem Pk.nn {x : V} {H : Hp} {et : Hi} {W : Wd} {p : PV} (h : Pk K mg p x H et W) (hp : deref et p ≠ .non) (hg : ∀ z, p ≠ .glo z) : x ≠ .non := by
  intro e
  subst e
  rcases h with h | ⟨a, e, _⟩
  · cases p with
    | non => exact hp rfl
    | glo z => exact hg z rfl
    | bl b => unfold VR at h; cases h
    | int b => unfold VR at h; cases h
    | str b => unfold VR at h; cases h
    | tup b => unfold VR at h; obtain ⟨_, _, e, _⟩ := h; cases e
    | lst b => unfold VR at h; obtain ⟨_, _, e, _⟩ := h; cases e
    | dic b => unfold VR at h; obtain ⟨_, _, e, _⟩ := h; cases e
    | scr b => unfold VR at h; obtain ⟨_, e, _⟩ := h; cases e
    | ref b => unfold VR at h; obtain ⟨_, e, _⟩ := h; cases e
    | ty b => unfold VR at h; cases h
    | dik b => unfold VR at h; obtain ⟨_, _, _, e, _⟩ := h; cases e
  · cases e
theorem deref_glo {et : Hi} {z : Str} : deref et (.glo z) = .glo z := rfl
theorem gIs_ok {x y : V} {H : Hp} {et : Hi} {W : Wd} {p q : PV} {z : PV} (c : Cel K mg H et W) (hp : Pk K mg p x H et W) (hq : Pk K mg q y H et W) (h : gIs (deref et p) (deref et q) = some z) :
    ∃ b, z = .bl b ∧ ((y = .non ∧ decide (x = .non) = b) ∨ ∃ a d : Bool, x = .bl a ∧ y = .bl d ∧ decide (a = d) = b) := by
  unfold gIs at h
  have nn : ∀ {w : PV}, deref et p = w → w ≠ .non → (∀ z, w ≠ .glo z) → decide (x = .non) = false := fun {w} e1 e2 e3 => decide_eq_false (hp.nn (by rw [e1]; exact e2) fun z e => by
    subst e; rw [deref_glo] at e1; exact e3 z e1.symm)
  split at h
  · rename_i e1 e2; cases h; exact ⟨_, rfl, .inl ⟨hq.non e2, by rw [hp.non e1]; rfl⟩⟩
  · rename_i e1 e2; cases h; exact ⟨_, rfl, .inl ⟨hq.non e2, nn e1 (by simp) (by simp)⟩⟩
  · rename_i e1 e2; cases h; exact ⟨_, rfl, .inl ⟨hq.non e2, nn e1 (by simp) (by simp)⟩⟩
  · rename_i e1 e2; cases h; exact ⟨_, rfl, .inl ⟨hq.non e2, nn e1 (by simp) (by simp)⟩⟩
  · rename_i e1 e2; cases h; exact ⟨_, rfl, .inl ⟨hq.non e2, nn e1 (by simp) (by simp)⟩⟩
  · rename_i e1 e2; cases h; exact ⟨_, rfl, .inl ⟨hq.non e2, nn e1 (by simp) (by simp)⟩⟩
  · rename_i e1 e2; cases h; exact ⟨_, rfl, .inl ⟨hq.non e2, nn e1 (by simp) (by simp)⟩⟩
  · rename_i e1 e2; cases h; exact ⟨_, rfl, .inl ⟨hq.non e2, nn e1 (by simp) (by simp)⟩⟩
  · rename_i e1 e2; cases h; exact ⟨_, rfl, .inl ⟨hq.non e2, nn e1 (by simp) (by simp)⟩⟩
  · rename_i a d e1 e2; cases h; exact ⟨_, rfl, .inr ⟨a, d, hp.bl e1, hq.bl e2, rfl⟩⟩
  · cases h
theorem o2_isNot : Op2 K mg rIsNotA gIsNot (pV K mg) := by
  intro x y H et W p q z Q c hp hq hz k
  unfold gIsNot at hz
  cases e : gIs (deref et p) (deref et q) with
  | none => rw [e] at hz; cases hz
  | some w =>
    obtain ⟨b, rfl, h⟩ := gIs_ok c hp hq e
    rw [e] at hz; cases hz
    have qd := k _ H W (Ext.refl ..) c VR.bl
    rcases h with ⟨h1, h2⟩ | ⟨a, d, h1, h2, h3⟩
    · exact .inl ⟨h1, by rw [h2]; exact qd⟩
    · exact .inr ⟨a, d, h1, h2, by rw [h3]; exact qd⟩
end
end Mw
namespace Mw
open PySem PySem.Spec L2
section
variable {X : Cx} {e : Expr} {es : List Expr} {m : EM PV} {ms : EM (List PV)} {pos : Pos}
def mNil : EM (List PV) := fun _ et R => R [] et
def mCons (m : EM PV) (ms : EM (List PV)) : EM (List PV) := fun ep et R => m ep et fun p et1 => ms ep et1 fun ps et2 => R (p :: ps) et2
theorem sA_nil : SimA X [] mNil := weakA pa_nil fun σ H Q ⟨ep, et, W, R, c, s, e, q⟩ => q [] et e [] H W (Ext.refl ..) c VRs.nil
theorem sAP_nil : SimAP X [] mNil := weakA pa_nil fun σ H Q ⟨ep, et, W, R, c, s, e, q⟩ => q [] et e [] H W (Ext.refl ..) c rfl
theorem sA_cons (he : SimE X e m) (hr : SimA X es ms) (hs : starEach (e :: es) X.env = (false, eval e X.env) :: starEach es X.env := by rfl) : SimA X (e :: es) (mCons m ms) :=
  weakA (pa_cons he hr hs) fun σ H Q ⟨ep, et, W, R, c, s, e, q⟩ => by
  refine ⟨ep, et, W, _, c, s, e, fun p et1 r1 v H1 W1 x1 c1 p1 => ⟨ep, et1, W1, _, c1, s.ext c x1, r1, fun ps et2 r2 vs H2 W2 x2 c2 p2 => ?_⟩⟩
  exact q (p :: ps) et2 r2 (v :: vs) H2 W2 (x1.NoO_trans x2) c2 (VRs.cons (VR.ext x2 c1.stays0 _ _ p1) p2)
theorem sAP_cons (he : SimP X e m) (hr : SimAP X es ms) (hs : starEach (e :: es) X.env = (false, eval e X.env) :: starEach es X.env := by rfl) : SimAP X (e :: es) (mCons m ms) :=
  weakA (pa_cons he hr hs) fun σ H Q ⟨ep, et, W, R, c, s, e, q⟩ => by
  refine ⟨ep, et, W, _, c, s, e, fun p et1 r1 v H1 W1 x1 c1 p1 => ⟨ep, et1, W1, _, c1, s.ext c x1, r1, fun ps et2 r2 vs H2 W2 x2 c2 p2 => ?_⟩⟩
  exact q (p :: ps) et2 r2 (v :: vs) H2 W2 (x1.NoO_trans x2) c2 ⟨v, vs, rfl, Pk.ext x2 c1 p1, p2⟩
section
variable {x : Str} {id T : String} {p : Pos} {R : List V → Hp → VK → Prop} {g : List PV → Option PV}
theorem sE_callB (hc : CallR X (.builtin id) R) (hg : OpA X.K X.mg R g (pV X.K X.mg)) (hx : Gl X x) (hm : X.mg x = none) (hv : bootBuiltins x = some (.builtin id)) (ha : SimAP X (e :: es) ms) (hn : x ≠ "__name__" := by decide) (hdb : (x == ("__debug__" : Str)) = false := by decide)
    (he : starEach (e :: es) X.env = (false, eval e X.env) :: starEach es X.env := by rfl) (hpl : (backTo pos (starEach es X.env)).any (·.1) = false := by rfl) : SimE X (.Call (.Name x p) (e :: es) [] pos) (mArg g ms) :=
  arg_weak early_V (pe_callB hc hx hm hv ha hn hdb he hpl) hg
theorem sN_callTy (hc : CallR X (.type T) R) (hg : OpA X.K X.mg R g (pN X.K X.mg)) (hx : Gl X x) (hm : X.mg x = none) (hv : bootBuiltins x = some (.type T)) (ha : SimAP X (e :: es) ms) (hn : x ≠ "__name__" := by decide) (hdb : (x == ("__debug__" : Str)) = false := by decide)
    (he : starEach (e :: es) X.env = (false, eval e X.env) :: starEach es X.env := by rfl) (hpl : (backTo pos (starEach es X.env)).any (·.1) = false := by rfl) : SimN X (.Call (.Name x p) (e :: es) [] pos) (mArg g ms) :=
  arg_weak early_N (pe_callTy hc hx hm hv ha hn hdb he hpl) hg
theorem sE_ty {t : Ty} (hx : Gl X x) (hm : X.mg x = none) (hv : bootBuiltins x = some (.type t.name)) (hn : x ≠ "__name__" := by decide) (hd : (x == ("__debug__" : Str)) = false := by decide) : SimE X (.Name x pos) (mC (.ty t)) :=
  sE_c (pe_bltn (v := .ty t.name) hx hm hv rfl hn hd) fun _ _ => by unfold VR; rfl
end
end
section
variable {K : PySem.W.Frag} {mg : Str → Option Value}
theorem Pks.one {H : Hp} {et : Hi} {W : Wd} {p : PV} {vs : List V} (h : Pks K mg [p] vs H et W) : ∃ v, vs = [v] ∧ Pk K mg p v H et W := by
  obtain ⟨v, r, e, h1, h2⟩ := h
  have : r = [] := h2
  subst this
  exact ⟨v, e, h1⟩
theorem Pks.two {H : Hp} {et : Hi} {W : Wd} {p q : PV} {vs : List V} (h : Pks K mg [p, q] vs H et W) : ∃ v u, vs = [v, u] ∧ Pk K mg p v H et W ∧ Pk K mg q u H et W := by
  obtain ⟨v, r, e, h1, h2⟩ := h
  obtain ⟨u, rfl, h3⟩ := Pks.one h2
  exact ⟨v, u, e, h1, h3⟩
theorem map1 {f : PV → PV} {ps : List PV} {q : PV} (h : ps.map f = [q]) : ∃ p, ps = [p] ∧ f p = q := by
  match ps, h with
  | [p], h => exact ⟨p, rfl, by simpa using h⟩
theorem map2 {f : PV → PV} {ps : List PV} {q r : PV} (h : ps.map f = [q, r]) : ∃ p p', ps = [p, p'] ∧ f p = q ∧ f p' = r := by
  match ps, h with
  | [p, p'], h => exact ⟨p, p', rfl, by simpa using h⟩
def gLen : List PV → Option PV
  | [.lst xs] => some (.int xs.length)
  | [.tup xs] => some (.int xs.length)
  | [.scr xs] => some (.int xs.length)
  | [.str x] => if x.length ≤ sizeLine then some (.int x.length) else none
  | _ => none
theorem oA_len : OpA K mg (fun xs H Q => ∃ x n, xs = [x] ∧ LenV K x H n ∧ Q (.int n) H) gLen (pV K mg) := by
  intro xs H et W ps z Q c hp hz k
  unfold gLen at hz
  split at hz
  · rename_i ys e
    cases hz
    obtain ⟨p, rfl, e'⟩ := map1 e
    obtain ⟨v, rfl, h⟩ := hp.one
    obtain ⟨a, vs, rfl, h1, h2⟩ := h.lst c e'
    exact ⟨_, _, rfl, .inl ⟨vs, SqL.of h1, rfl⟩, by rw [← h2.len]; exact k _ H W (Ext.refl ..) c VR.int⟩
  · rename_i ys e
    cases hz
    obtain ⟨p, rfl, e'⟩ := map1 e
    obtain ⟨v, rfl, h⟩ := hp.one
    obtain ⟨a, vs, rfl, h1, h2⟩ := h.tup e'
    exact ⟨_, _, rfl, .inr ⟨vs, h1, rfl⟩, by rw [← h2.len]; exact k _ H W (Ext.refl ..) c VR.int⟩
  · rename_i ys e
    cases hz
    obtain ⟨p, rfl, e'⟩ := map1 e
    obtain ⟨v, rfl, h⟩ := hp.one
    obtain ⟨a, rfl, h1⟩ := h.scr e'
    exact ⟨_, _, rfl, .inl ⟨_, h1.sq, rfl⟩, by rw [List.length_map]; exact k _ H W (Ext.refl ..) c VR.int⟩
  · rename_i ys e
    split at hz
    · rename_i hl
      cases hz
      obtain ⟨p, rfl, e'⟩ := map1 e
      obtain ⟨v, rfl, h⟩ := hp.one
      rw [h.str e']
      exact ⟨_, _, rfl, ⟨hl, rfl⟩, k _ H W (Ext.refl ..) c VR.int⟩
    · cases hz
  · cases hz
def tyB : PV → Option String
  | .non => some "NoneType"
  | .bl _ => some "bool"
  | .int _ => some "int"
  | .str _ => some "str"
  | .tup _ => some "tuple"
  | .lst _ => some "list"
  | .scr _ => some "list"
  | .dic _ => some "dict"
  | _ => none
def isiB : PV → Ty → Option Bool
  | .non, _ => some false
  | .bl _, .bool => some true
  | .bl _, .int => some true
  | .bl _, _ => some false
  | .int _, .int => some true
  | .int _, _ => some false
  | .str _, .str => some true
  | .str _, _ => some false
  | .tup _, .tup => some true
  | .tup _, _ => some false
  | .lst _, .lst => some true
  | .lst _, _ => some false
  | .scr _, .lst => some true
  | .scr _, _ => some false
  | .dic _, .dic => some true
  | .dic _, _ => some false
  | _, _ => none
theorem isiB_ok {p : PV} {t : Ty} {b : Bool} (h : isiB p t = some b) : ∃ s, tyB p = some s ∧ kitB s t.name = some b := by
  cases p <;> cases t <;> first | (cases h; done) | (cases h; exact ⟨_, rfl, by decide +kernel⟩)
def gIsi : List PV → Option PV
  | [p, .ty t] => (isiB p t).map .bl
  | _ => none
theorem Pk.tyx {H : Hp} {et : Hi} {W : Wd} {p : PV} {v : V} {s : String} (c : Cel K mg H et W) (h : Pk K mg p v H et W) (e : tyB (deref et p) = some s) : TyX K H v (.type s) := by
  cases q : deref et p with
  | non => rw [q] at e; cases e; rw [h.non q]; exact .base .non
  | bl b => rw [q] at e; cases e; rw [h.bl q]; exact .base (.bl b)
  | int b => rw [q] at e; cases e; rw [h.int q]; exact .base (.int b)
  | str b => rw [q] at e; cases e; rw [h.str q]; exact .base (.str b)
  | tup xs =>
    rw [q] at e; cases e
    obtain ⟨a, vs, rfl, h1, h2⟩ := h.tup q
    rcases h1.sq with (h1 | ⟨o, h1⟩) | ⟨o, its, n, h1, h3, _⟩
    · exact .base (.tup h1)
    · exact .fTuple h1
    · exact .kTuple h1 h3
  | lst xs =>
    rw [q] at e; cases e
    obtain ⟨a, vs, rfl, h1, h2⟩ := h.lst c q
    exact .base (.lst h1)
  | scr xs =>
    rw [q] at e; cases e
    obtain ⟨a, rfl, h1⟩ := h.scr q
    rcases h1 with ⟨o, h1⟩ | ⟨o, its, n, h1, h3, _⟩
    · exact .base (.frz h1)
    · exact .kList h1 h3
  | dic xs =>
    rw [q] at e; cases e
    obtain ⟨a, vs, rfl, h1, h2⟩ := h.dic c q
    exact .base (.dK h1)
  | ref n => rw [q] at e; cases e
  | glo n => rw [q] at e; cases e
  | ty n => rw [q] at e; cases e
  | dik n => rw [q] at e; cases e
theorem oA_isi : OpA K mg (rIsi K) gIsi (pV K mg) := by
  intro xs H et W ps z Q c hp hz k
  unfold gIsi at hz
  split at hz
  · rename_i q t e
    obtain ⟨p, p', rfl, e1, e2⟩ := map2 e
    obtain ⟨v, u, rfl, h1, h2⟩ := hp.two
    cases e3 : isiB q t with
    | none => rw [e3] at hz; cases hz
    | some b =>
      rw [e3] at hz; cases hz
      obtain ⟨s, h3, h4⟩ := isiB_ok e3
      have h5 := h2.val e2 rfl
      unfold VR at h5
      subst h5
      exact ⟨v, _, _, _, b, rfl, .ty _, h1.tyx c (by rw [e1]; exact h3), kit_ty h4, k _ H W (Ext.refl ..) c VR.bl⟩
  · cases hz
def bls : List PV → Option (List Bool)
  | [] => some []
  | .bl b :: r => (bls r).map (b :: ·)
  | _ => none
theorem VRs.bls {H : Hp} {W : Wd} : ∀ {ps : List PV} {vs : List V} {bs : List Bool}, VRs K mg W H ps vs → bls ps = some bs → vs = bs.map V.bl
  | [], vs, bs, h, e => by unfold VRs at h; cases e; exact h
  | .bl b :: ps, vs, bs, h, e => by
    unfold VRs at h; unfold Mw.bls at e
    obtain ⟨v, r, rfl, h1, h2⟩ := h
    cases q : Mw.bls ps with
    | none => rw [q] at e; cases e
    | some bs' =>
      rw [q] at e; cases e
      unfold VR at h1
      rw [h1, VRs.bls h2 q]; rfl
  | .non :: ps, vs, bs, h, e => by cases e
  | .int _ :: ps, vs, bs, h, e => by cases e
  | .str _ :: ps, vs, bs, h, e => by cases e
  | .tup _ :: ps, vs, bs, h, e => by cases e
  | .lst _ :: ps, vs, bs, h, e => by cases e
  | .dic _ :: ps, vs, bs, h, e => by cases e
  | .scr _ :: ps, vs, bs, h, e => by cases e
  | .ref _ :: ps, vs, bs, h, e => by cases e
  | .glo _ :: ps, vs, bs, h, e => by cases e
  | .ty _ :: ps, vs, bs, h, e => by cases e
  | .dik _ :: ps, vs, bs, h, e => by cases e
def gAll : List PV → Option PV
  | [.lst xs] => (bls xs).map fun bs => .bl (bs.all id)
  | _ => none
theorem oA_all : OpA K mg (rAll K) gAll (pV K mg) := by
  intro xs H et W ps z Q c hp hz k
  unfold gAll at hz
  split at hz
  · rename_i ys e
    obtain ⟨p, rfl, e'⟩ := map1 e
    obtain ⟨v, rfl, h⟩ := hp.one
    obtain ⟨a, vs, rfl, h1, h2⟩ := h.lst c e'
    cases q : bls ys with
    | none => rw [q] at hz; cases hz
    | some bs => rw [q] at hz; cases hz; rw [h2.bls q] at h1; exact ⟨a, bs, rfl, SqL.of h1, k _ H W (Ext.refl ..) c VR.bl⟩
  · cases hz
def gMin2 : List PV → Option PV
  | [.int i, .int j] => some (.int (if j < i then j else i))
  | _ => none
def gMax2 : List PV → Option PV
  | [.int i, .int j] => some (.int (if j > i then j else i))
  | _ => none
theorem oA_min2 : OpA K mg (fun xs H Q => ∃ i j, xs = [.int i, .int j] ∧ Q (.int (if j < i then j else i)) H) gMin2 (pV K mg) := by
  intro xs H et W ps z Q c hp hz k
  unfold gMin2 at hz
  split at hz
  · rename_i i j e
    cases hz
    obtain ⟨p, p', rfl, e1, e2⟩ := map2 e
    obtain ⟨v, u, rfl, h1, h2⟩ := hp.two
    exact ⟨i, j, by rw [h1.int e1, h2.int e2], k _ H W (Ext.refl ..) c VR.int⟩
  · cases hz
theorem oA_max2 : OpA K mg (fun xs H Q => ∃ i j, xs = [.int i, .int j] ∧ Q (.int (if j > i then j else i)) H) gMax2 (pV K mg) := by
  intro xs H et W ps z Q c hp hz k
  unfold gMax2 at hz
  split at hz
  · rename_i i j e
    cases hz
    obtain ⟨p, p', rfl, e1, e2⟩ := map2 e
    obtain ⟨v, u, rfl, h1, h2⟩ := hp.two
    exact ⟨i, j, by rw [h1.int e1, h2.int e2], k _ H W (Ext.refl ..) c VR.int⟩
  · cases hz
def gList : List PV → Option PV
  | [.lst xs] => some (.lst xs)
  | [.tup xs] => some (.lst xs)
  | _ => none
theorem oA_list : OpA K mg (fun xs H Q => ∃ p ys, xs = [.ref p] ∧ (SqL K H p ys ∨ SqT K H p ys) ∧ ∀ l, H l = none → Q (.ref l) (upd H l (.lst ys))) gList (pN K mg) := by
  intro xs H et W ps z Q c hp hz k
  unfold gList at hz
  split at hz
  · rename_i ys e
    cases hz
    obtain ⟨p, rfl, e'⟩ := map1 e
    obtain ⟨v, rfl, h⟩ := hp.one
    obtain ⟨a, vs, rfl, h1, h2⟩ := h.lst c e'
    refine ⟨a, vs, rfl, .inl (SqL.of h1), fun l hl => ?_⟩
    obtain ⟨x1, c1, r1⟩ := new_own c hl h2
    exact k _ _ _ x1 c1 r1
  · rename_i ys e
    cases hz
    obtain ⟨p, rfl, e'⟩ := map1 e
    obtain ⟨v, rfl, h⟩ := hp.one
    obtain ⟨a, vs, rfl, h1, h2⟩ := h.tup e'
    refine ⟨a, vs, rfl, .inr h1, fun l hl => ?_⟩
    obtain ⟨x1, c1, r1⟩ := new_own c hl h2
    exact k _ _ _ x1 c1 r1
  · cases hz
def eqP : PV → PV → Bool
  | .non, .non => true
  | .bl a, .bl b => a == b
  | .bl a, .int b => (if a then 1 else 0) == b
  | .int a, .bl b => a == (if b then 1 else 0)
  | .int a, .int b => a == b
  | .str a, .str b => decide (a = b)
  | _, _ => false
def flatP : PV → Bool
  | .non => true
  | .bl _ => true
  | .int _ => true
  | .str _ => true
  | _ => false
theorem VR.flat {W : Wd} {H : Hp} {p : PV} {v : V} (h : VR K mg W H p v) (f : flatP p = true) : flatV v = true := by
  cases p <;> first | (cases f; done) | (unfold VR at h; subst h; rfl)
theorem VR.eqP {W : Wd} {H : Hp} {p q : PV} {v u : V} (h : VR K mg W H p v) (h' : VR K mg W H q u) (f : flatP p = true) (f' : flatP q = true) : eqV v u = eqP p q := by
  cases p <;> first | (cases f; done) | (cases q <;> first | (cases f'; done) | (unfold VR at h h'; subst h; subst h'; first | rfl | (unfold eqV Mw.eqP; rw [Bool.eq_iff_iff]; simp)))
theorem VRs.flat {W : Wd} {H : Hp} : ∀ {ps : List PV} {vs : List V}, VRs K mg W H ps vs → ps.all flatP = true → vs.all flatV = true
  | [], vs, h, f => by unfold VRs at h; rw [h]; rfl
  | p :: ps, vs, h, f => by
    unfold VRs at h
    obtain ⟨v, r, rfl, h1, h2⟩ := h
    simp only [List.all_cons, Bool.and_eq_true] at f ⊢
    exact ⟨h1.flat f.1, VRs.flat h2 f.2⟩
theorem VRs.inV {W : Wd} {H : Hp} {q : PV} {u : V} (h' : VR K mg W H q u) (f' : flatP q = true) : ∀ {ps : List PV} {vs : List V}, VRs K mg W H ps vs → ps.all flatP = true → L2.inV u vs = ps.any fun y => eqP y q
  | [], vs, h, f => by unfold VRs at h; rw [h]; rfl
  | p :: ps, vs, h, f => by
    unfold VRs at h
    obtain ⟨v, r, rfl, h1, h2⟩ := h
    simp only [List.all_cons, Bool.and_eq_true] at f
    have ih := VRs.inV h' f' h2 f.2
    unfold L2.inV at ih ⊢
    rw [List.any_cons, List.any_cons, ih, h1.eqP h' f.1 f']
def inB : PV → PV → Option Bool
  | x, .lst xs => if flatP x = true ∧ xs.all flatP = true then some (xs.any fun y => eqP y x) else
    match dat x, dats xs with
    | some d, some ds => if SeqAt.shaped d = true ∧ SeqAt.shaped (.list ds) = true then some (ds.any fun z => PyData.eqv z d) else none
    | _, _ => none
  | x, .tup xs => if flatP x = true ∧ xs.all flatP = true then some (xs.any fun y => eqP y x) else none
  | .str x, .str y => if x.cps.size = 1 then some (decide (x.cps.getD 0 0 ∈ y.cps.toList)) else none
  | _, _ => none
def gIn (p q : PV) : Option PV := (inB p q).map .bl
def gNotIn (p q : PV) : Option PV := (inB p q).map fun b => .bl (!b)
def rInA (K : PySem.W.Frag) : R2 := fun x y H Q => rIn K false x y H Q ∨ rInD K x y H Q ∨ ∃ (c : Nat) (z : Str), x = .str ⟨#[c]⟩ ∧ y = .str z ∧ Q (.bl (decide (c ∈ z.cps.toList))) H
def rNotInA (K : PySem.W.Frag) : R2 := fun x y H Q => rIn K true x y H Q ∨ rNotInD K x y H Q ∨ ∃ (c : Nat) (z : Str), x = .str ⟨#[c]⟩ ∧ y = .str z ∧ Q (.bl (!decide (c ∈ z.cps.toList))) H
theorem op_inA {X : Cx} (hu : X.A.units + 65 < cLine) : OpR X (compareOp .In) (rInA X.K) := op_in_seq.or ((op_inD hu).or op_in_sign)
theorem op_notInA {X : Cx} (hu : X.A.units + 65 < cLine) : OpR X (compareOp .NotIn) (rNotInA X.K) := op_notIn_seq.or ((op_notInD hu).or op_notIn_sign)
theorem inB_ok {x y : V} {H : Hp} {et : Hi} {W : Wd} {p q : PV} {b : Bool} (c : Cel K mg H et W) (hp : Pk K mg p x H et W) (hq : Pk K mg q y H et W) (h : inB (deref et p) (deref et q) = some b) :
    (∃ p xs, y = .ref p ∧ (SqL K H p xs ∨ SqT K H p xs) ∧ flatV x = true ∧ xs.all flatV = true ∧ L2.inV x xs = b) ∨ (∃ d ds, Dp K H x d ∧ Dp K H y (.list ds) ∧ SeqAt.shaped d = true ∧ SeqAt.shaped (.list ds) = true ∧ (ds.any fun z => PyData.eqv z d) = b) ∨
    ∃ (c : Nat) (z : Str), x = .str ⟨#[c]⟩ ∧ y = .str z ∧ decide (c ∈ z.cps.toList) = b := by
  have vx : flatP (deref et p) = true → VR K mg W H (deref et p) x := fun f => hp.val rfl (by cases e : deref et p <;> rw [e] at f <;> first | rfl | (cases f; done))
  unfold inB at h
  split at h
  · rename_i w xs e
    obtain ⟨a, vs, rfl, h1, h2⟩ := hq.lst c e
    split at h
    · rename_i hf
      cases h
      have hx := vx hf.1
      exact .inl ⟨a, vs, rfl, .inl (SqL.of h1), hx.flat hf.1, h2.flat hf.2, VRs.inV hx hf.1 h2 hf.2⟩
    · split at h
      · rename_i d ds hd hds
        split at h
        · rename_i hs; cases h
          exact .inr (.inl ⟨d, ds, hp.dp c hd, .lst (SqL.of h1) (VRs.dp _ _ _ h2 hds), hs.1, hs.2, rfl⟩)
        · cases h
      · cases h
  · rename_i w xs e
    obtain ⟨a, vs, rfl, h1, h2⟩ := hq.tup e
    split at h
    · rename_i hf
      cases h
      have hx := vx hf.1
      exact .inl ⟨a, vs, rfl, .inr h1, hx.flat hf.1, h2.flat hf.2, VRs.inV hx hf.1 h2 hf.2⟩
    · cases h
  · rename_i s t e1 e2
    split at h
    · rename_i hs
      cases h
      refine .inr (.inr ⟨s.cps.getD 0 0, t, ?_, hq.str e2, rfl⟩)
      rw [hp.str e1]
      obtain ⟨⟨l⟩⟩ := s
      match l, hs with
      | [c], _ => rfl
    · cases h
  · cases h
theorem o2_in : Op2 K mg (rInA K) gIn (pV K mg) := by
  intro x y H et W p q z Q c hp hq hz k
  unfold gIn at hz
  cases e : inB (deref et p) (deref et q) with
  | none => rw [e] at hz; cases hz
  | some b =>
    rw [e] at hz; cases hz
    have qd := k _ H W (Ext.refl ..) c VR.bl
    rcases inB_ok c hp hq e with ⟨a, vs, h1, h2, h3, h4, h5⟩ | ⟨d, ds, h1, h2, h3, h4, h5⟩ | ⟨n, s, h1, h2, h3⟩
    · exact .inl ⟨a, vs, h1, h2, h3, h4, by rw [h5]; exact qd⟩
    · exact .inr (.inl ⟨d, ds, h1, h2, h3, h4, by rw [h5]; exact qd⟩)
    · exact .inr (.inr ⟨n, s, h1, h2, by rw [h3]; exact qd⟩)
theorem o2_notIn : Op2 K mg (rNotInA K) gNotIn (pV K mg) := by
  intro x y H et W p q z Q c hp hq hz k
  unfold gNotIn at hz
  cases e : inB (deref et p) (deref et q) with
  | none => rw [e] at hz; cases hz
  | some b =>
    rw [e] at hz; cases hz
    have qd := k _ H W (Ext.refl ..) c VR.bl
    rcases inB_ok c hp hq e with ⟨a, vs, h1, h2, h3, h4, h5⟩ | ⟨d, ds, h1, h2, h3, h4, h5⟩ | ⟨n, s, h1, h2, h3⟩
    · exact .inl ⟨a, vs, h1, h2, h3, h4, by rw [h5]; exact qd⟩
    · exact .inr (.inl ⟨d, ds, h1, h2, h3, h4, by rw [h5]; exact qd⟩)
    · exact .inr (.inr ⟨n, s, h1, h2, by rw [h3]; exact qd⟩)
end
end Mw
namespace Mw
open PySem PySem.Spec L2
def gIx : PV → PV → Option PV
  | .lst xs, .int i => atI xs i
  | .tup xs, .int i => atI xs i
  | .scr xs, .int i => (atI xs i).map .int
  | .str x, .int i => if x.length ≤ sizeLine then (atI x.cps.toList i).map fun c => .str ⟨#[c]⟩ else none
  | _, _ => none
section
variable {K : PySem.W.Frag} {mg : Str → Option Value} {X : Cx}
theorem VRs.at {H : Hp} {W : Wd} {ps : List PV} {vs : List V} {i : Int} {p : PV} (h : VRs K mg W H ps vs) (e : atI ps i = some p) : ∃ v, atI vs i = some v ∧ VR K mg W H p v := by
  unfold atI at e ⊢
  rw [← h.len]
  cases q : ixN ps.length i with
  | none => rw [q] at e; cases e
  | some j => rw [q] at e; exact VRs.get h e
theorem o2_ix : Op2 K mg (rIx K) gIx (pV K mg) := by
  intro x y H et W p q z Q c hp hq hz k
  unfold gIx at hz
  split at hz
  · rename_i xs i e1 e2
    obtain ⟨a, vs, rfl, h1, h2⟩ := hp.lst c e1
    obtain ⟨v, h3, h4⟩ := h2.at hz
    exact .inl ⟨a, vs, i, v, rfl, hq.int e2, SqL.of h1, h3, k _ H W (Ext.refl ..) c h4⟩
  · rename_i xs i e1 e2
    obtain ⟨a, vs, rfl, h1, h2⟩ := hp.tup e1
    obtain ⟨v, h3, h4⟩ := h2.at hz
    exact .inr (.inl ⟨a, vs, i, v, rfl, hq.int e2, h1, h3, k _ H W (Ext.refl ..) c h4⟩)
  · rename_i xs i e1 e2
    obtain ⟨a, rfl, h1⟩ := hp.scr e1
    cases e3 : atI xs i with
    | none => rw [e3] at hz; cases hz
    | some n =>
      rw [e3] at hz; cases hz
      refine .inl ⟨a, _, i, .int n, rfl, hq.int e2, h1.sq, ?_, k _ H W (Ext.refl ..) c VR.int⟩
      unfold atI at e3 ⊢
      rw [List.length_map]
      cases e4 : ixN xs.length i with
      | none => rw [e4] at e3; cases e3
      | some j => rw [e4] at e3; simp only [Option.bind_some] at e3 ⊢; rw [List.getElem?_map, e3]; rfl
  · rename_i s i e1 e2
    split at hz
    · rename_i hl
      cases e3 : atI s.cps.toList i with
      | none => rw [e3] at hz; cases hz
      | some n => rw [e3] at hz; cases hz; exact .inr (.inr ⟨s, i, n, hp.str e1, hq.int e2, hl, e3, k _ H W (Ext.refl ..) c VR.str⟩)
    · cases hz
  · cases hz
theorem sE_ix {a b : Expr} {pos : Pos} {ma mb : EM PV} (ha : SimP X a ma) (hb : SimP X b mb) (hs : PlainIx b := by exact fun _ _ => rfl) : SimE X (.Subscript a b pos) (mBin gIx ma mb) :=
  bin_weak (a := a) (b := b) early_V (pe_ix ix_seq ha hb hs) o2_ix
def tO (K : PySem.W.Frag) (mg : Str → Option Value) (m : EM (Option Int)) : TO := fun sg H Q => ∃ ep et W R, Cel K mg H et W ∧ Slt K mg sg ep H et W ∧ m ep et R ∧
  ∀ b et', R b et' → ∀ H' W', Ext NoO H et W H' et' W' → Cel K mg H' et' W' → Q b H'
abbrev SimO (X : Cx) (e : Option Expr) (m : EM (Option Int)) : Prop := PO X e (tO X.K X.mg m)
theorem weakO {X : Cx} {e : Option Expr} {t u : TO} (h : PO X e t) (w : ∀ σ H Q, u σ H Q → t σ H Q) : PO X e u := ⟨fun pins s σ H Q I q => h.run pins s σ H Q I (w σ H Q q)⟩
def mO0 : EM (Option Int) := fun _ et R => R none et
def mO1 (m : EM PV) : EM (Option Int) := fun ep et R => m ep et fun p et1 => ∃ i, p = .int i ∧ R (some i) et1
theorem sO_none : SimO X none mO0 := weakO po_none fun σ H Q ⟨ep, et, W, R, c, s, e, q⟩ => q none et e H W (Ext.refl ..) c
theorem sO_some {e : Expr} {m : EM PV} (h : SimE X e m) : SimO X (some e) (mO1 m) := weakO (po_some h) fun σ H Q ⟨ep, et, W, R, c, s, e, q⟩ => by
  refine ⟨ep, et, W, _, c, s, e, fun p et1 r1 v H1 W1 x1 c1 p1 => ?_⟩
  obtain ⟨i, hi, r2⟩ := r1
  subst hi
  have p2 : VR X.K X.mg W1 H1 (.int i) v := p1
  unfold VR at p2
  exact ⟨i, p2, q _ et1 r2 H1 W1 x1 c1⟩
def cutP {α : Type} (xs : List α) (lo hi : Option Int) : List α := (xs.drop (HT.sIx xs.length 0 lo)).take (HT.sIx xs.length xs.length hi - HT.sIx xs.length 0 lo)
theorem VRs.cut {H : Hp} {W : Wd} {ps : List PV} {vs : List V} (h : VRs K mg W H ps vs) (lo hi : Option Int) : VRs K mg W H (cutP ps lo hi) (cutV vs lo hi) := by
  unfold cutP cutV
  rw [← h.len]
  exact VRs.take _ (VRs.drop _ h)
def gSl (p : PV) (lo hi : Option Int) : Option PV := match p with
  | .tup xs => some (.tup (cutP xs lo hi))
  | .str x => if x.length ≤ sizeLine then some (.str (cutS x lo hi)) else none
  | _ => none
def mSl (g : PV → Option Int → Option Int → Option PV) (m : EM PV) (l h : EM (Option Int)) : EM PV := fun ep et R => m ep et fun p et1 => l ep et1 fun lo et2 => h ep et2 fun hi et3 => ∃ z, g (deref et3 p) lo hi = some z ∧ R z et3
def OpSl (K : PySem.W.Frag) (mg : Str → Option Value) (R : V → Option Int → Option Int → Hp → VK → Prop) (g : PV → Option Int → Option Int → Option PV) (P : Post PV) : Prop :=
  ∀ (x : V) (lo hi : Option Int) (H : Hp) (et : Hi) (W : Wd) (p z : PV) (Q : VK), Cel K mg H et W → Pk K mg p x H et W → g (deref et p) lo hi = some z →
    (∀ v H' W', Ext NoO H et W H' et W' → Cel K mg H' et W' → P z v H et W H' et W' → Q v H') → R x lo hi H Q
theorem sl_weak {a : Expr} {lo hi : Option Expr} {p2 pos : Pos} {ma : EM PV} {ml mh : EM (Option Int)} {R : V → Option Int → Option Int → Hp → VK → Prop} {g : PV → Option Int → Option Int → Option PV} {P : Post PV} (he : Early P) (hr : SlR X R) (hg : OpSl X.K X.mg R g P) (ha : SimP X a ma) (hl : SimO X lo ml) (hh : SimO X hi mh) :
    PE X (.Subscript a (.Slice lo hi none p2) pos) (tI X.K X.mg P (mSl g ma ml mh)) := weakE (pe_slice hr ha hl hh) fun σ H Q ⟨ep, et, W, R0, c, s, e, q⟩ => by
  refine ⟨ep, et, W, _, c, s, e, fun p et1 r1 v H1 W1 x1 c1 p1 => ⟨ep, et1, W1, _, c1, s.ext c x1, r1, fun lo et2 r2 H2 W2 x2 c2 => ⟨ep, et2, W2, _, c2, s.ext c (x1.NoO_trans x2), r2, fun hi et3 r3 H3 W3 x3 c3 => ?_⟩⟩⟩
  obtain ⟨z, hz, r4⟩ := r3
  have x13 := (x1.NoO_trans x2).NoO_trans x3
  refine hg v lo hi H3 et3 W3 p z Q c3 (Pk.ext (x2.NoO_trans x3) c1 p1) hz fun w H4 W4 x4 c4 p4 => ?_
  exact q z et3 r4 w H4 W4 (x13.NoO_trans x4) c4 (he _ _ _ _ _ _ _ _ _ _ _ x13 p4)
def rSlX (K : PySem.W.Frag) : V → Option Int → Option Int → Hp → VK → Prop := fun x lo hi H Q => ∃ a xs, x = .ref a ∧ SqT K H a xs ∧
  (HT.sIx xs.length 0 lo = 0 ∧ HT.sIx xs.length xs.length hi = xs.length → Q (.ref a) H) ∧ (¬ (HT.sIx xs.length 0 lo = 0 ∧ HT.sIx xs.length xs.length hi = xs.length) → ∀ p o, H p = none → XTup o → Q (.ref p) (upd H p (.frz o (.tup (cutV xs lo hi)))))
theorem sl_tupX {X : Cx} : SlR X (rSlX X.K) := by
  intro pins s σ H x v vl vu lo hi sl Q I rx hs pl pu ⟨a, xs, ex, hx, q1, q2⟩
  by_cases hw : HT.sIx xs.length 0 lo = 0 ∧ HT.sIx xs.length xs.length hi = xs.length
  · exact sl_tupA pins s σ H x v vl vu lo hi sl Q I rx hs pl pu ⟨a, xs, ex, hx, q1, fun n => absurd hw n⟩
  · subst ex
    cases rx
    obtain ⟨its, r, ht, hz⟩ := I.tuple hx
    have hlen : its.toArray.size = xs.length := by rw [List.size_toArray]; exact r.length.symm
    refine ⟨"tuple", _, PyProof.Rows.slot_tuple_getitem.lookup, ht.typeIs, HT.getItem_tuple_cut ht hs pl pu (by rw [hlen]; exact hw) ?_ (by rw [hlen]; exact hz)⟩
    rw [hlen]
    obtain ⟨o, ho, hg⟩ := tup_push s.heap ((its.drop (HT.sIx xs.length 0 lo)).take (HT.sIx xs.length xs.length hi - HT.sIx xs.length 0 lo)).toArray
    refine ⟨.ref s.heap.objs.size, _, I.laid (t' := s.toks) (o := .frz o (.tup (cutV xs lo hi))) (fun b ob q => Heap.get?_push_of_some _ q) (Nat.le_refl _) ?_, rfl, q2 hw _ o (I.hok.fresh (Nat.le_refl _)) ho⟩
    exact ⟨hg, Nat.le_trans (cutV_length xs lo hi) hz, _, (r.drop (HT.sIx xs.length 0 lo)).take (HT.sIx xs.length xs.length hi - HT.sIx xs.length 0 lo), PyProof.Rows.IsTup.new _ _⟩
def rSlTS (K : PySem.W.Frag) : V → Option Int → Option Int → Hp → VK → Prop := fun x lo hi H Q => rSlX K x lo hi H Q ∨ rSlS x lo hi H Q
theorem cutP_whole {α : Type} {xs : List α} {lo hi : Option Int} (h : HT.sIx xs.length 0 lo = 0 ∧ HT.sIx xs.length xs.length hi = xs.length) : cutP xs lo hi = xs := by
  unfold cutP
  rw [h.1, h.2, List.drop_zero, Nat.sub_zero, List.take_length]
theorem oS_ts : OpSl K mg (rSlTS K) gSl (pV K mg) := by
  intro x lo hi H et W p z Q c hp hz k
  unfold gSl at hz
  split at hz
  · rename_i xs e
    cases hz
    obtain ⟨a, vs, rfl, h1, h2⟩ := hp.tup e
    refine .inl ⟨a, vs, rfl, h1, fun hw => ?_, fun _ t o ht ho => ?_⟩
    · rw [← h2.len] at hw
      refine k _ H W (Ext.refl ..) c ?_
      show VR K mg W H (.tup (cutP xs lo hi)) _
      rw [cutP_whole hw]
      unfold VR; exact ⟨a, vs, rfl, h1, h2⟩
    · obtain ⟨x1, c1, r1⟩ := new_tup c ht ho (h2.cut lo hi)
      exact k _ _ W x1 c1 r1
  · rename_i s e
    split at hz
    · rename_i hl; cases hz
      exact .inr ⟨s, hp.str e, hl, k _ H W (Ext.refl ..) c VR.str⟩
    · cases hz
  · cases hz
theorem VRs.ints {W : Wd} {H : Hp} : ∀ ns : List Int, VRs K mg W H (ns.map .int) (ns.map .int)
  | [] => VRs.nil
  | n :: ns => VRs.cons VR.int (VRs.ints ns)
theorem cutV_map (ns : List Int) (lo hi : Option Int) : cutV (ns.map V.int) lo hi = (cutP ns lo hi).map V.int := by
  unfold cutV cutP
  rw [List.length_map, List.map_take, List.map_drop]
def mTup (ms : EM (List PV)) : EM PV := fun ep et R => ms ep et fun ps et1 => ps.length ≤ sizeLine ∧ R (.tup ps) et1
def mLst (ms : EM (List PV)) : EM PV := fun ep et R => ms ep et fun ps et1 => ps.length ≤ sizeLine ∧ R (.lst ps) et1
def tTupX (t : TA) : TE := fun σ H Q => t σ H fun xs H1 => xs.length ≤ sizeLine ∧ ∀ p o, H1 p = none → XTup o → Q (.ref p) (upd H1 p (.frz o (.tup xs)))
theorem pe_tupX {X : Cx} {es : List Expr} {t : TA} {pos : Pos} {x1} (h : PA X es t) : PE X (.Tuple es x1 pos) (tTupX t) := by
  refine ⟨fun pins s σ H Q I hq => wpAny_Tuple_spliced (thn (h.run pos pins s σ H _ I hq) fun us s1 ⟨xs, H1, I1, r, z, q⟩ => ⟨by rw [← r.length]; exact z, ?_⟩)⟩
  have hf : H1 s1.heap.objs.size = none := I1.hok.fresh (Nat.le_refl _)
  obtain ⟨o, ho, hg⟩ := tup_push s1.heap us.toArray
  refine ⟨.ref s1.heap.objs.size, _, I1.laid (t' := s1.toks) (o := .frz o (.tup xs)) (fun b u e => Heap.get?_push_of_some _ e) (Nat.le_refl _) ?_, rfl, q _ o hf ho⟩
  exact ⟨hg, z, us, r, ⟨_, Heap.get?_push_size _ rfl, rfl, _, rfl⟩⟩
theorem sE_tup {es : List Expr} {ms : EM (List PV)} {x1 pos} (h : SimA X es ms) : SimE X (.Tuple es x1 pos) (mTup ms) := weakE (pe_tupX h) fun σ H Q ⟨ep, et, W, R, c, s, e, q⟩ => by
  refine ⟨ep, et, W, _, c, s, e, fun ps et1 r1 vs H1 W1 x1 c1 p1 => ⟨by rw [← p1.len]; exact r1.1, fun t o ht ho => ?_⟩⟩
  obtain ⟨x2, c2, r2⟩ := new_tup c1 ht ho p1
  exact q _ et1 r1.2 _ _ W1 (x1.NoO_trans x2) c2 r2
theorem sN_lst {es : List Expr} {ms : EM (List PV)} {pos} (h : SimA X es ms) : SimN X (.List es pos) (mLst ms) := weakE (pe_lst h) fun σ H Q ⟨ep, et, W, R, c, s, e, q⟩ => by
  refine ⟨ep, et, W, _, c, s, e, fun ps et1 r1 vs H1 W1 x1 c1 p1 => ⟨by rw [← p1.len]; exact r1.1, fun t ht => ?_⟩⟩
  obtain ⟨x2, c2, r2⟩ := new_own c1 ht p1
  exact q _ et1 r1.2 _ _ W1 (x1.NoO_trans x2) c2 (early_N _ _ _ _ _ _ _ _ _ _ _ x1 r2)
def keyP : PV → Option Key
  | .int i => some (.inl i)
  | .str x => some (.inr x)
  | _ => none
def valP (ks : List (Key × PV)) (k : Key) : Option PV := (ks.find? fun kv => decide (kv.1 = k)).map (·.2)
def putP (ks : List (Key × PV)) (k : Key) (p : PV) : List (Key × PV) :=
  if (ks.any fun kv => decide (kv.1 = k)) = true then ks.map (fun kv => if kv.1 = k then (kv.1, p) else kv) else ks ++ [(k, p)]
def mergeP (ks more : List (Key × PV)) : List (Key × PV) := more.foldl (fun acc kv => putP acc kv.1 kv.2) ks
theorem VR.key {W : Wd} {H : Hp} {p : PV} {v : V} {k : Key} (h : VR K mg W H p v) (e : keyP p = some k) : v = kV k := by
  cases p <;> first | (cases e; done) | (cases e; unfold VR at h; exact h)
theorem VRk.len {W : Wd} {H : Hp} : ∀ {ks : List (Key × PV)} {vs : List (Key × V)}, VRk K mg W H ks vs → ks.length = vs.length
  | [], vs, h => by unfold VRk at h; rw [h]; rfl
  | (k, p) :: r, vs, h => by
    unfold VRk at h
    obtain ⟨v, t, e, _, h2⟩ := h
    rw [e, List.length_cons, List.length_cons, VRk.len h2]
theorem VRk.val {W : Wd} {H : Hp} {k : Key} : ∀ {ks : List (Key × PV)} {vs : List (Key × V)}, VRk K mg W H ks vs → (∀ p, valP ks k = some p → ∃ v, valV vs k = some v ∧ VR K mg W H p v) ∧ (valP ks k = none → valV vs k = none)
  | [], vs, h => by
    unfold VRk at h; subst h
    exact ⟨fun p e => by simp [valP] at e, fun _ => rfl⟩
  | (k', p) :: r, vs, h => by
    unfold VRk at h
    obtain ⟨v, t, rfl, h1, h2⟩ := h
    obtain ⟨i1, i2⟩ := VRk.val (k := k) h2
    by_cases e : k' = k
    · refine ⟨fun q hq => ⟨v, valV_pos e, ?_⟩, fun hq => ?_⟩
      · have : valP ((k', p) :: r) k = some p := by simp [valP, List.find?_cons, e]
        rw [this] at hq; cases hq; exact h1
      · have : valP ((k', p) :: r) k = some p := by simp [valP, List.find?_cons, e]
        rw [this] at hq; cases hq
    · have e1 : valP ((k', p) :: r) k = valP r k := by simp [valP, List.find?_cons, e]
      have e2 : valV ((k', v) :: t) k = valV t k := valV_neg e
      rw [e1, e2]
      exact ⟨i1, i2⟩
theorem VRk.app {W : Wd} {H : Hp} {k : Key} {p : PV} {v : V} (hv : VR K mg W H p v) : ∀ {ks : List (Key × PV)} {vs : List (Key × V)}, VRk K mg W H ks vs → VRk K mg W H (ks ++ [(k, p)]) (vs ++ [(k, v)])
  | [], vs, h => by unfold VRk at h; subst h; show VRk K mg W H [(k, p)] [(k, v)]; unfold VRk; exact ⟨v, [], rfl, hv, by unfold VRk; rfl⟩
  | (k', q) :: r, vs, h => by
    unfold VRk at h
    obtain ⟨u, t, rfl, h1, h2⟩ := h
    show VRk K mg W H ((k', q) :: (r ++ [(k, p)])) _
    unfold VRk
    exact ⟨u, t ++ [(k, v)], rfl, h1, VRk.app hv h2⟩
theorem VRk.any {W : Wd} {H : Hp} {k : Key} : ∀ {ks : List (Key × PV)} {vs : List (Key × V)}, VRk K mg W H ks vs → (ks.any fun kv => decide (kv.1 = k)) = vs.any fun kv => decide (kv.1 = k)
  | [], vs, h => by unfold VRk at h; subst h; rfl
  | (k', q) :: r, vs, h => by
    unfold VRk at h
    obtain ⟨u, t, rfl, h1, h2⟩ := h
    rw [List.any_cons, List.any_cons, VRk.any h2]
theorem VRk.over {W : Wd} {H : Hp} {k : Key} {p : PV} {v : V} (hv : VR K mg W H p v) : ∀ {ks : List (Key × PV)} {vs : List (Key × V)}, VRk K mg W H ks vs →
    VRk K mg W H (ks.map fun kv => if kv.1 = k then (kv.1, p) else kv) (vs.map fun kv => if kv.1 = k then (kv.1, v) else kv)
  | [], vs, h => by unfold VRk at h; subst h; show VRk K mg W H [] []; unfold VRk; rfl
  | (k', q) :: r, vs, h => by
    unfold VRk at h
    obtain ⟨u, t, rfl, h1, h2⟩ := h
    have ih := VRk.over (k := k) hv h2
    rw [List.map_cons, List.map_cons]
    by_cases e : k' = k
    · simp only [e, if_true]; unfold VRk; exact ⟨v, _, rfl, hv, ih⟩
    · simp only [e, if_false]; unfold VRk; exact ⟨u, _, rfl, h1, ih⟩
theorem VRk.put {W : Wd} {H : Hp} {k : Key} {p : PV} {v : V} (hv : VR K mg W H p v) {ks : List (Key × PV)} {vs : List (Key × V)} (h : VRk K mg W H ks vs) : VRk K mg W H (putP ks k p) (putK vs k v) := by
  unfold putP putK
  rw [h.any]
  split
  · exact VRk.over hv h
  · exact VRk.app hv h
theorem VRk.merge {W : Wd} {H : Hp} : ∀ {more : List (Key × PV)} {ws : List (Key × V)} {ks : List (Key × PV)} {vs : List (Key × V)}, VRk K mg W H more ws → VRk K mg W H ks vs → VRk K mg W H (mergeP ks more) (mergeK vs ws)
  | [], ws, ks, vs, h, h' => by unfold VRk at h; subst h; exact h'
  | (k, p) :: r, ws, ks, vs, h, h' => by
    unfold VRk at h
    obtain ⟨u, t, rfl, h1, h2⟩ := h
    show VRk K mg W H (mergeP (putP ks k p) r) (mergeK (putK vs k u) t)
    exact VRk.merge h2 (VRk.put h1 h')
theorem new_ownD {H : Hp} {et : Hi} {W : Wd} (c : Cel K mg H et W) {p : Addr} (hp : H p = none) {ps : List (Key × PV)} {vs : List (Key × V)} (h : VRk K mg W H ps vs) :
    Ext NoO H et W (upd H p (.dK vs)) et W ∧ Cel K mg (upd H p (.dK vs)) et W ∧ pN K mg (.dic ps) (.ref p) H et W (upd H p (.dK vs)) et W := by
  have x : Ext NoO H et W (upd H p (.dK vs)) et W := Ext.new hp W rfl (fun _ h => h) fun _ h => .inl h
  refine ⟨x, c.new hp W rfl (fun _ h => h) fun _ h => .inl h, p, rfl, hp, fun z => c.fzh p z hp, ?_, ?_⟩
  · exact c.not_live hp
  · exact ⟨vs, upd_same, VRk.ext x c.stays0 _ _ h⟩
def mDic0 : EM PV := fun _ et R => R (.dic []) et
theorem sN_dic0 {pos} : SimN X (.Dict [] [] pos) mDic0 := weakE pe_dnewK fun σ H Q ⟨ep, et, W, R, c, s, e, q⟩ => fun p hp => by
  obtain ⟨x1, c1, r1⟩ := new_ownD c hp (show VRk X.K X.mg W H [] [] by unfold VRk; rfl)
  exact q _ et e _ _ W x1 c1 r1
theorem plain_key {p : PV} {k : Key} (e : keyP p = some k) : Plain p = true := by cases p <;> first | (cases e; done) | rfl
section
variable {a b : Expr} {pos : Pos} {ma mb : EM PV}
end
def gDGet2 : PV → PV → PV → Option PV
  | .dic ks, k, x => (keyP k).map fun k => (valP ks k).getD x
  | _, _, _ => none
def mDGet2 (ma mb mc : EM PV) : EM PV := fun ep et R => ma ep et fun a et1 => (∃ ks, deref et1 a = .dic ks) ∧ mb ep et1 fun b et2 => mc ep et2 fun d et3 => ∃ z, gDGet2 (deref et3 a) (deref et3 b) d = some z ∧ R z et3
theorem sE_dget2 {o k x : Expr} {apos cpos : Pos} {ma mb mc : EM PV} (hu : X.A.units + 1 < cLine) (ho : SimP X o ma) (hk : SimP X k mb) (hx : SimE X x mc) (m : M2 X o "get" apos k x cpos) : SimE X (.Call (.Attribute o "get" apos) [k, x] [] cpos) (mDGet2 ma mb mc) :=
  weakE (pe_dget2 hu ho hk hx m) fun σ H Q ⟨ep, et, W, R0, c, s, e, q⟩ => by
  refine ⟨ep, et, W, _, c, s, e, fun p et1 r1 v H1 W1 x1 c1 p1 => ?_⟩
  obtain ⟨⟨ks, hks⟩, r1⟩ := r1
  have p1' : Pk X.K X.mg p v H1 et1 W1 := p1
  obtain ⟨a, vs, rfl, h1, h2⟩ := p1'.dic c1 hks
  refine ⟨a, rfl, .inl ⟨vs, .inl h1⟩, ep, et1, W1, _, c1, s.ext c x1, r1, fun p' et2 r2 u H2 W2 x2 c2 p2 => ⟨ep, et2, W2, _, c2, s.ext c (x1.NoO_trans x2), r2, fun p3 et3 r3 w H3 W3 x3 c3 p4 => ?_⟩⟩
  obtain ⟨z, hz, r4⟩ := r3
  have q1 : Pk X.K X.mg p _ H3 et3 W3 := Pk.ext (x2.NoO_trans x3) c1 p1
  have q2 : Pk X.K X.mg p' u H3 et3 W3 := Pk.ext x3 c2 p2
  unfold gDGet2 at hz
  split at hz
  · rename_i ks' e1
    cases e2 : keyP (deref et3 p') with
    | none => rw [e2] at hz; cases hz
    | some k =>
      rw [e2] at hz; cases hz
      obtain ⟨a', vs', e4, h3, h4⟩ := q1.dic c3 e1
      cases e4
      have hk := (q2.val rfl (plain_key e2)).key e2
      subst hk
      refine ⟨_, DGet.k h3, ?_⟩
      have x13 := (x1.NoO_trans x2).NoO_trans x3
      obtain ⟨i1, i2⟩ := VRk.val (k := k) h4
      cases e3 : valP ks' k with
      | none => rw [i2 e3]; simp only [e3, Option.getD_none] at r4; exact q _ et3 r4 _ H3 W3 x13 c3 p4
      | some z => obtain ⟨v', e5, e6⟩ := i1 z e3; rw [e5]; simp only [e3, Option.getD_some] at r4; exact q _ et3 r4 _ H3 W3 x13 c3 e6
  · cases hz
end
end Mw
namespace Mw
open PySem PySem.Spec L2
section
variable {K : PySem.W.Frag} {mg : Str → Option Value} {H H1 : Hp} {et et1 : Hi} {W W1 : Wd} {sg : L2.St} {ep : En}
theorem getset {α : Type} {l : List α} {i j : Nat} {a b : α} (h : (l.set i a)[j]? = some b) : (j = i ∧ b = a ∧ i < l.length) ∨ (j ≠ i ∧ l[j]? = some b) := by
  by_cases e : j = i
  · subst e
    have hl : j < l.length := by
      have := (List.getElem?_eq_some_iff.mp h).1
      rwa [List.length_set] at this
    rw [List.getElem?_set_self hl] at h
    cases h
    exact .inl ⟨rfl, rfl, hl⟩
  · rw [List.getElem?_set_ne (Ne.symm e)] at h
    exact .inr ⟨e, h⟩
theorem own_set_sub {i : Nat} {p : PV} {v : V} {a : Addr} (h : Own (ep.set i (.val p)) (sg.set i (some v)) a) : Own ep sg a := by
  obtain ⟨j, q, h1, h2⟩ := h
  rcases getset h1 with ⟨_, e, _⟩ | ⟨hj, h1⟩
  · cases e
  · rcases getset h2 with ⟨e, _⟩ | ⟨_, h2⟩
    · exact absurd e hj
    · exact ⟨j, q, h1, h2⟩
theorem Slt.set_val (s : Slt K mg sg ep H et W) {i : Nat} {p : PV} {v : V} (hv : VR K mg W H p v) : Slt K mg (sg.set i (some v)) (ep.set i (.val p)) H et W where
  len := by rw [List.length_set, List.length_set, s.len]
  ok := fun j t o h1 h2 => by
    rcases getset h1 with ⟨rfl, rfl, _⟩ | ⟨hj, h1⟩
    · rcases getset h2 with ⟨_, rfl, _⟩ | ⟨e, _⟩
      · exact ⟨v, rfl, hv⟩
      · exact absurd rfl e
    · rcases getset h2 with ⟨e, _⟩ | ⟨_, h2⟩
      · exact absurd e hj
      · exact s.ok j t o h1 h2
  inj := fun a b p q x h1 h2 h3 h4 => by
    rcases getset h1 with ⟨_, e, _⟩ | ⟨ha, h1⟩
    · cases e
    · rcases getset h2 with ⟨_, e, _⟩ | ⟨hb, h2⟩
      · cases e
      · rcases getset h3 with ⟨e, _⟩ | ⟨_, h3⟩
        · exact absurd e ha
        · rcases getset h4 with ⟨e, _⟩ | ⟨_, h4⟩
          · exact absurd e hb
          · exact s.inj a b p q x h1 h2 h3 h4
  ofz := fun a h => s.ofz a (own_set_sub h)
  oli := fun a h => s.oli a (own_set_sub h)
theorem own_set_own {i : Nat} {p : PV} {b a : Addr} (h : Own (ep.set i (.own p)) (sg.set i (some (.ref b))) a) : Own ep sg a ∨ a = b := by
  obtain ⟨j, q, h1, h2⟩ := h
  rcases getset h1 with ⟨e, _, _⟩ | ⟨hj, h1⟩
  · subst e
    rcases getset h2 with ⟨_, e, _⟩ | ⟨e, _⟩
    · cases e; exact .inr rfl
    · exact absurd rfl e
  · rcases getset h2 with ⟨e, _⟩ | ⟨_, h2⟩
    · exact absurd e hj
    · exact .inl ⟨j, q, h1, h2⟩
theorem Slt.set_own (s : Slt K mg sg ep H et W) {i : Nat} {p : PV} {b : Addr} (hn : ¬ Own ep sg b) (hf : ¬ W.fz b) (hl : ¬ Live et W b) (ho : OwnAt K mg W H p b) : Slt K mg (sg.set i (some (.ref b))) (ep.set i (.own p)) H et W where
  len := by rw [List.length_set, List.length_set, s.len]
  ok := fun j t o h1 h2 => by
    rcases getset h1 with ⟨rfl, rfl, _⟩ | ⟨hj, h1⟩
    · rcases getset h2 with ⟨_, rfl, _⟩ | ⟨e, _⟩
      · exact ⟨b, rfl, ho⟩
      · exact absurd rfl e
    · rcases getset h2 with ⟨e, _⟩ | ⟨_, h2⟩
      · exact absurd e hj
      · exact s.ok j t o h1 h2
  inj := fun a c p' q x h1 h2 h3 h4 => by
    rcases getset h1 with ⟨ea, _, _⟩ | ⟨ha, g1⟩
    · rcases getset h3 with ⟨_, e, _⟩ | ⟨e, _⟩
      · rcases getset h2 with ⟨ec, _, _⟩ | ⟨hc, g2⟩
        · exact ea.trans ec.symm
        · rcases getset h4 with ⟨e, _⟩ | ⟨_, g4⟩
          · exact absurd e hc
          · cases e; exact absurd ⟨c, q, g2, g4⟩ hn
      · exact absurd ea e
    · rcases getset h3 with ⟨e, _⟩ | ⟨_, g3⟩
      · exact absurd e ha
      · rcases getset h2 with ⟨ec, _, _⟩ | ⟨hc, g2⟩
        · rcases getset h4 with ⟨_, e, _⟩ | ⟨e, _⟩
          · cases e; exact absurd ⟨a, p', g1, g3⟩ hn
          · exact absurd ec e
        · rcases getset h4 with ⟨e, _⟩ | ⟨_, g4⟩
          · exact absurd e hc
          · exact s.inj a c p' q x g1 g2 g3 g4
  ofz := fun a h => by
    rcases own_set_own h with h | rfl
    · exact s.ofz a h
    · exact hf
  oli := fun a h => by
    rcases own_set_own h with h | rfl
    · exact s.oli a h
    · exact hl
theorem Slt.set_no (s : Slt K mg sg ep H et W) {i : Nat} {o : Option V} : Slt K mg (sg.set i o) (ep.set i .no) H et W := by
  have sub : ∀ {a}, Own (ep.set i .no) (sg.set i o) a → Own ep sg a := fun {a} h => by
    obtain ⟨j, q, h1, h2⟩ := h
    rcases getset h1 with ⟨_, e, _⟩ | ⟨hj, h1⟩
    · cases e
    · rcases getset h2 with ⟨e, _⟩ | ⟨_, h2⟩
      · exact absurd e hj
      · exact ⟨j, q, h1, h2⟩
  refine ⟨by rw [List.length_set, List.length_set, s.len], fun j t o' h1 h2 => ?_, fun a b p q x h1 h2 h3 h4 => ?_, fun a h => s.ofz a (sub h), fun a h => s.oli a (sub h)⟩
  · rcases getset h1 with ⟨rfl, rfl, _⟩ | ⟨hj, h1⟩
    · trivial
    · rcases getset h2 with ⟨e, _⟩ | ⟨_, h2⟩
      · exact absurd e hj
      · exact s.ok j t o' h1 h2
  · rcases getset h1 with ⟨_, e, _⟩ | ⟨ha, h1⟩
    · cases e
    · rcases getset h2 with ⟨_, e, _⟩ | ⟨hb, h2⟩
      · cases e
      · rcases getset h3 with ⟨e, _⟩ | ⟨_, h3⟩
        · exact absurd e ha
        · rcases getset h4 with ⟨e, _⟩ | ⟨_, h4⟩
          · exact absurd e hb
          · exact s.inj a b p q x h1 h2 h3 h4
def frzS (ep : En) (i : Nat) : En := match ep[i]? with
  | some (.own p) => ep.set i (.val p)
  | _ => ep
theorem Slt.frz (s : Slt K mg sg ep H et W) (c : Cel K mg H et W) (i : Nat) : ∃ W', Ext (Own ep sg) H et W H et W' ∧ Cel K mg H et W' ∧ Slt K mg sg (frzS ep i) H et W' ∧ ∀ a, Own (frzS ep i) sg a → Own ep sg a := by
  unfold frzS
  split
  · rename_i p hp
    have hl : i < sg.length := by rw [← s.len]; exact (List.getElem?_eq_some_iff.mp hp).1
    obtain ⟨a, ev, hv⟩ := s.ok i _ _ hp (List.getElem?_eq_getElem hl)
    have hσ : sg[i]? = some (some (.ref a)) := by rw [List.getElem?_eq_getElem hl, ev]
    have ow : Own ep sg a := ⟨i, p, hp, hσ⟩
    obtain ⟨c2, st, vr⟩ := c.freeze (s.oli a ow) (s.ofz a ow) hv
    have sub : ∀ {b}, Own (ep.set i (.val p)) sg b → Own ep sg b ∧ b ≠ a := fun {b} h => by
      obtain ⟨j, q, h1, h2⟩ := h
      rcases getset h1 with ⟨_, e, _⟩ | ⟨hj, h1⟩
      · cases e
      · refine ⟨⟨j, q, h1, h2⟩, fun e => ?_⟩
        subst e
        exact hj (s.inj j i q p b h1 hp h2 hσ)
    refine ⟨W.add a, ⟨fun b h => .inl h, fun b h => h.imp_right fun e => .inr (by rw [e]; exact ow), ⟨[], by simp⟩, fun b h => .inl h, fun b o h _ _ => h, fun b h => h⟩, c2, ⟨by rw [List.length_set]; exact s.len, fun j t o h1 h2 => ?_, fun x y q r z h1 h2 h3 h4 => ?_, fun b h z => ?_, fun b h => s.oli b (sub h).1⟩, fun b h => (sub h).1⟩
    · rcases getset h1 with ⟨rfl, rfl, _⟩ | ⟨hj, h1⟩
      · rw [hσ] at h2; cases h2; exact ⟨_, rfl, vr⟩
      · have k := s.ok j t o h1 h2
        cases t with
        | no => trivial
        | val q => obtain ⟨v, e, h⟩ := k; exact ⟨v, e, st q v h⟩
        | own q =>
          obtain ⟨b, e, h⟩ := k
          refine ⟨b, e, ?_⟩
          have x : Ext (fun b => b = a) H et W H et (W.add a) := ⟨fun _ h => .inl h, fun b h => h.imp_right fun h => .inr h, ⟨[], by simp⟩, fun _ h => .inl h, fun _ _ h _ _ => h, fun _ h => h⟩
          have sy : Stays (fun b => b = a) H et W := ⟨fun b h => ⟨c.fzl b h, fun e => s.ofz a ow (e ▸ h)⟩, fun b xs h => ⟨(c.stays0.tup b xs h).1, fun e => by
            rcases hv.kind with ⟨_, k⟩ | ⟨_, k⟩ <;> (rw [← e, h] at k; cases k)⟩, fun b o u h => ⟨(c.stays0.frz b o u h).1, fun e => by
            rcases hv.kind with ⟨_, k⟩ | ⟨_, k⟩ <;> (rw [← e, h] at k; cases k)⟩, fun b fs h => ⟨(c.stays0.xd b fs h).1, fun e => by
            rcases hv.kind with ⟨_, k⟩ | ⟨_, k⟩ <;> (rw [← e, h] at k; cases k)⟩⟩
          unfold OwnAt at h ⊢
          split at h
          · obtain ⟨vs, h1, h2⟩ := h; exact ⟨vs, h1, VRs.ext x sy _ _ h2⟩
          · obtain ⟨vs, h1, h2⟩ := h; exact ⟨vs, h1, VRk.ext x sy _ _ h2⟩
          · cases h
    · rcases getset h1 with ⟨_, e, _⟩ | ⟨_, h1⟩
      · cases e
      · rcases getset h2 with ⟨_, e, _⟩ | ⟨_, h2⟩
        · cases e
        · exact s.inj x y q r z h1 h2 h3 h4
    · obtain ⟨o1, o2⟩ := sub h
      rcases z with z | z
      · exact s.ofz b o1 z
      · exact o2 z
  · exact ⟨W, Ext.refl .., c, s, fun a h => h⟩
theorem own_write (c : Cel K mg H et W) (s : Slt K mg sg ep H et W) {i : Nat} {p p' : PV} {a : Addr} {o : HO} (hi : ep[i]? = some (.own p)) (hσ : sg[i]? = some (some (.ref a))) (ho : Cont K mg W H p' o) :
    Ext (Own ep sg) H et W (upd H a o) et W ∧ Cel K mg (upd H a o) et W ∧ Slt K mg sg (ep.set i (.own p')) (upd H a o) et W ∧ (∀ b, Own (ep.set i (.own p')) sg b → Own ep sg b) ∧ (∀ q v, VR K mg W H q v → VR K mg W (upd H a o) q v) := by
  have ow : Own ep sg a := ⟨i, p, hi, hσ⟩
  have x : Ext (Own ep sg) H et W (upd H a o) et W := ⟨fun _ h => h, fun _ h => .inl h, ⟨[], by simp⟩, fun _ h => .inl h, fun b u h _ hO => by
    have ne : b ≠ a := fun e => hO (by rw [e]; exact ow)
    rw [upd_ne ne]; exact h, fun b h => by
      by_cases e : b = a
      · rw [e, upd_same]; simp
      · rw [upd_ne e]; exact h⟩
  have sy : Stays (Own ep sg) H et W := Slt.stays c s
  have hat : OwnAt K mg W (upd H a o) p' a := by
    unfold Cont at ho
    split at ho
    · exact ⟨_, upd_same, VRs.ext x sy _ _ ho⟩
    · exact ⟨_, upd_same, VRk.ext x sy _ _ ho⟩
    · cases ho
  have sub : ∀ b, Own (ep.set i (.own p')) sg b → Own ep sg b := fun b ⟨j, q, h1, h2⟩ => by
    rcases getset h1 with ⟨e, _, _⟩ | ⟨_, h1⟩
    · subst e; rw [hσ] at h2; cases h2; exact ow
    · exact ⟨j, q, h1, h2⟩
  refine ⟨x, ⟨c.len, fun j d b h1 h2 => ?_, c.inj, c.fzl, fun b h => x.there b (c.fzh b h)⟩, ⟨by rw [List.length_set]; exact s.len, fun j t u h1 h2 => ?_, fun j l q r b h1 h2 h3 h4 => ?_, fun b h => s.ofz b (sub b h), fun b h => s.oli b (sub b h)⟩, sub, fun q v h => VR.ext x sy q v h⟩
  · have k := c.ok j d b h1 h2
    have keep : d ≠ .dead → upd H a o b = H b := fun hd => upd_ne fun e => s.oli a ow ⟨j, d, h1, hd, e ▸ h2⟩
    cases d with
    | dead => trivial
    | lst xs => obtain ⟨vs, k1, k2⟩ := k; exact ⟨vs, by rw [keep (by simp)]; exact k1, VRs.ext x sy _ _ k2⟩
    | dic xs => obtain ⟨vs, k1, k2⟩ := k; exact ⟨vs, by rw [keep (by simp)]; exact k1, VRk.ext x sy _ _ k2⟩
    | potO t n => obtain ⟨b', sd, ct, k0, k1, k2⟩ := k; exact ⟨b', sd, ct, k0, by rw [keep (by simp)]; exact k1, k2⟩
    | potI => obtain ⟨is, k1, k2⟩ := k; exact ⟨is, by rw [keep (by simp)]; exact k1, k2⟩
    | inv P => obtain ⟨is, k1, k2⟩ := k; exact ⟨is, by rw [keep (by simp)]; exact k1, k2⟩
    | exc c fs => obtain ⟨C, d', k0, k1, k2⟩ := k; exact ⟨C, d', k0, by rw [keep (by simp)]; exact k1, k2.imp_right fun ⟨dd, e, q⟩ => ⟨dd, e, x.keep dd _ q (sy.xd dd _ q).1 (sy.xd dd _ q).2⟩⟩
    | nd kvs => rcases k with ⟨k0, k1⟩ | ⟨es, k1, k2⟩; exact .inl ⟨k0, by rw [keep (by simp)]; exact k1⟩; exact .inr ⟨es, by rw [keep (by simp)]; exact k1, VRn.ext x sy _ _ k2⟩
    | ins t fs => obtain ⟨C, dx, gs, k0, k1, k2⟩ := k; exact ⟨C, dx, gs, k0, by rw [keep (by simp)]; exact k1, VRf.ext x sy _ _ k2⟩
  · rcases getset h1 with ⟨rfl, rfl, _⟩ | ⟨hj, h1⟩
    · rw [hσ] at h2; cases h2; exact ⟨a, rfl, hat⟩
    · have k := s.ok j t u h1 h2
      cases t with
      | no => trivial
      | val q => obtain ⟨v, e, h⟩ := k; exact ⟨v, e, VR.ext x sy q v h⟩
      | own q =>
        obtain ⟨b, e, h⟩ := k
        subst e
        have ne : b ≠ a := fun e => hj (s.inj j i q p a h1 hi (e ▸ h2) hσ)
        refine ⟨b, rfl, ?_⟩
        unfold OwnAt at h ⊢
        split at h
        · obtain ⟨vs, k1, k2⟩ := h; exact ⟨vs, by rw [upd_ne ne]; exact k1, VRs.ext x sy _ _ k2⟩
        · obtain ⟨vs, k1, k2⟩ := h; exact ⟨vs, by rw [upd_ne ne]; exact k1, VRk.ext x sy _ _ k2⟩
        · cases h
  · rcases getset h1 with ⟨ej, eq, _⟩ | ⟨hj, g1⟩
    · have h3' : sg[i]? = some (some (.ref b)) := by rw [← ej]; exact h3
      rcases getset h2 with ⟨el, _, _⟩ | ⟨hl, g2⟩
      · exact ej.trans el.symm
      · exact ej.trans (s.inj i l p r b hi g2 h3' h4)
    · rcases getset h2 with ⟨el, _, _⟩ | ⟨hl, g2⟩
      · have h4' : sg[i]? = some (some (.ref b)) := by rw [← el]; exact h4
        exact (s.inj j i q p b g1 hi h3 h4').trans el.symm
      · exact s.inj j l q r b g1 g2 h3 h4
def cellP : PV → Option Cell
  | .lst xs => some (.lst xs)
  | .dic ks => some (.dic ks)
  | _ => none
theorem cell_write (c : Cel K mg H et W) {n : Nat} {d d' : Cell} {a : Addr} {o : HO} (hn : et[n]? = some d) (hd : d ≠ .dead) (hd' : d' ≠ .dead) (hm : W.mu[n]? = some a)
    (ho : ∀ H1 et1, Ext NoO H et W H1 et1 W → H1 a = some o → CellOk K mg W H1 d' a) :
    Ext NoO H et W (upd H a o) (et.set n d') W ∧ Cel K mg (upd H a o) (et.set n d') W ∧ (∀ q v, VR K mg W H q v → VR K mg W (upd H a o) q v) := by
  have lv : Live et W a := ⟨n, d, hn, hd, hm⟩
  have hl : ∀ b, Live (et.set n d') W b → Live et W b := fun b ⟨j, u, h1, h2, h3⟩ => by
    rcases getset h1 with ⟨e, _, _⟩ | ⟨_, h1⟩
    · subst e; exact ⟨j, d, hn, hd, h3⟩
    · exact ⟨j, u, h1, h2, h3⟩
  have x : Ext NoO H et W (upd H a o) (et.set n d') W := ⟨fun _ h => h, fun _ h => .inl h, ⟨[], by simp⟩, fun b h => .inl (hl b h), fun b u h hb _ => by
    have ne : b ≠ a := fun e => hb (by rw [e]; exact lv)
    rw [upd_ne ne]; exact h, fun b h => by
      by_cases e : b = a
      · rw [e, upd_same]; simp
      · rw [upd_ne e]; exact h⟩
  refine ⟨x, ⟨by rw [List.length_set]; exact c.len, fun j u b h1 h2 => ?_, fun i j u w b h1 h2 h3 h4 h5 h6 => ?_, fun b h z => c.fzl b h (hl b z), fun b h => x.there b (c.fzh b h)⟩, fun q v h => VR.ext x c.stays0 q v h⟩
  · rcases getset h1 with ⟨rfl, rfl, _⟩ | ⟨hj, h1⟩
    · rw [hm] at h2; cases h2; exact ho _ _ x upd_same
    · refine CellOk.ext x c.stays0 (c.ok j u b h1 h2) fun hu => upd_ne fun e => ?_
      subst e
      exact hj (c.inj j n u d b h1 hn hu hd h2 hm)
  · have g : ∀ {k : Nat} {u : Cell}, (et.set n d')[k]? = some u → u ≠ .dead → ∃ u', et[k]? = some u' ∧ u' ≠ .dead := fun {k u} h hu => by
      rcases getset h with ⟨e, _, _⟩ | ⟨_, h⟩
      · exact ⟨d, e ▸ hn, hd⟩
      · exact ⟨u, h, hu⟩
    obtain ⟨u1, g1, g2⟩ := g h1 h3
    obtain ⟨u2, g3, g4⟩ := g h2 h4
    exact c.inj i j u1 u2 b g1 g3 g2 g4 h5 h6
end
end Mw
namespace Mw
open PySem PySem.Spec L2
section
variable {X : Cx} {st : Stmt} {rest : List Stmt} {m n : SM} {e : Expr} {me : EM PV} {pos : Pos}
theorem Ext.to {O : Addr → Prop} {H H1 : Hp} {et et1 : Hi} {W W1 : Wd} (x : Ext NoO H et W H1 et1 W1) : Ext O H et W H1 et1 W1 := x.mono fun _ h => h.elim
theorem Ext.pre {O : Addr → Prop} {H H1 H2 : Hp} {et et1 et2 : Hi} {W W1 W2 : Wd} (x : Ext NoO H et W H1 et1 W1) (y : Ext O H1 et1 W1 H2 et2 W2) : Ext O H et W H2 et2 W2 := (Ext.to x).trans y fun _ h => .inl h
theorem Ext.back {O : Addr → Prop} {H H1 : Hp} {et et1 : Hi} {W W1 : Wd} (x : Ext O H et W H1 et1 W1) {a : Addr} (h : H1 a = none) : H a = none := by
  cases q : H a with
  | none => rfl
  | some o => exact absurd h (x.there a (by rw [q]; simp))
def mNext : SM := fun ep et R => R .nx ep et
def mSeq (m n : SM) : SM := fun ep et R => m ep et fun f ep1 et1 => match f with
  | .nx => n ep1 et1 R
  | f => R f ep1 et1
theorem FlEnd.pre {K : PySem.W.Frag} {mg : Str → Option Value} {D : Ends} {ep ep0 : En} {sg sg0 : L2.St} {H H0 : Hp} {f : Fl} {ep' : En} {sg' : L2.St} {H' : Hp} {et' : Hi} {W' : Wd} (h : FlEnd K mg D ep0 sg0 H0 f ep' sg' H' et' W')
    (g : ∀ a, Own ep sg a ∨ H a = none → Own ep0 sg0 a ∨ H0 a = none) : FlEnd K mg D ep sg H f ep' sg' H' et' W' := by
  cases f with
  | nx => exact fun s o => h s fun a z => g a (o a z)
  | bk => exact fun s o => h s fun a z => g a (o a z)
  | ct => exact fun s o => h s fun a z => g a (o a z)
  | rt p => exact h
theorem ss_nil : SimSs X [] mNext := weakSs pss_nil fun D σ H ⟨ep, et, W, R, c, s, e, q⟩ => q .nx ep et e σ H W (Ext.refl ..) c s fun a h => .inl h
theorem ss_one (h : SimS X st m) : SimSs X [st] m := pss_one h
theorem ss_cons (h : SimS X st m) (g : SimSs X rest n) : SimSs X (st :: rest) (mSeq m n) := weakSs (pss_cons h g) fun D σ H ⟨ep, et, W, R, c, s, e, q⟩ => by
  refine ⟨ep, et, W, _, c, s, e, fun f ep1 et1 r1 σ1 H1 W1 x1 c1 => ?_⟩
  cases f with
  | nx =>
    intro s1 o1
    refine ⟨ep1, et1, W1, R, c1, s1, r1, fun f2 ep2 et2 r2 σ2 H2 W2 x2 c2 => ?_⟩
    have k := q f2 ep2 et2 r2 σ2 H2 W2 (x1.trans x2 o1) c2
    exact k.pre fun a h => h.elim (o1 a) fun z => .inr (x1.back z)
  | bk => exact q .bk ep1 et1 r1 σ1 H1 W1 x1 c1
  | ct => exact q .ct ep1 et1 r1 σ1 H1 W1 x1 c1
  | rt p => exact q (.rt p) ep1 et1 r1 σ1 H1 W1 x1 c1
def mExpr (me : EM PV) : SM := fun ep et R => me ep et fun _ et1 => R .nx ep et1
theorem s_expr (h : SimE X e me) (hs : swapsWith e none pos.line X.env = pure false := by rfl) : SimS X (.Expr e pos) (mExpr me) := weakS (ps_expr h hs) fun D σ H ⟨ep, et, W, R, c, s, e, q⟩ =>
  ⟨ep, et, W, _, c, s, e, fun p et1 r1 v H1 W1 x1 c1 p1 => q .nx ep et1 r1 σ H1 W1 (Ext.to x1) c1 (s.ext c x1) fun a h => .inl h⟩
def mRet (me : EM PV) : SM := fun ep et R => me ep et fun p et1 => R (.rt p) ep et1
theorem s_ret (h : SimE X e me) : SimS X (.Return (some e) pos) (mRet me) := weakS (ps_ret h) fun D σ H ⟨ep, et, W, R, c, s, e, q⟩ =>
  ⟨ep, et, W, _, c, s, e, fun p et1 r1 v H1 W1 x1 c1 p1 => q (.rt p) ep et1 r1 σ H1 W1 (Ext.to x1) c1 v p1⟩
def mIf (t : EM Bool) (m n : SM) : SM := fun ep et R => t ep et fun b et1 => if b = true then m ep et1 R else n ep et1 R
theorem s_if {a b : List Stmt} {t : EM Bool} (h : SimT X e t) (ha : SimSs X a m) (hb : SimSs X b n) : SimS X (.If e a b pos) (mIf t m n) := weakS (ps_if h ha hb) fun D σ H ⟨ep, et, W, R, c, s, e, q⟩ => by
  refine ⟨ep, et, W, _, c, s, e, fun b et1 r1 H1 W1 x1 c1 => ?_⟩
  have fin : ∀ {m : SM}, m ep et1 R → tS X.K X.mg m D σ H1 := fun {m} r => ⟨ep, et1, W1, R, c1, s.ext c x1, r, fun f ep2 et2 r2 σ2 H2 W2 x2 c2 => by
    have k := q f ep2 et2 r2 σ2 H2 W2 (x1.pre x2) c2
    exact k.pre fun a h => h.imp_right fun z => x1.back z⟩
  cases b with
  | true => exact fin (by simpa using r1)
  | false => exact fin (by simpa using r1)
def mFrz (is : List Nat) (m : SM) : SM := fun ep et R => m (is.foldl frzS ep) et R
theorem s_frz1 {t : TS} {i : Nat} {D : Ends} {σ : L2.St} {H : Hp} {m : SM} (h : tS X.K X.mg (fun ep et R => m (frzS ep i) et R) D σ H) : tS X.K X.mg m D σ H := by
  obtain ⟨ep, et, W, R, c, s, e, q⟩ := h
  obtain ⟨W', x1, c1, s1, o1⟩ := s.frz c i
  exact ⟨frzS ep i, et, W', R, c1, s1, e, fun f ep2 et2 r2 σ2 H2 W2 x2 c2 => by
    have k := q f ep2 et2 r2 σ2 H2 W2 (x1.trans x2 fun a h => .inl (o1 a h)) c2
    exact k.pre fun a h => h.imp_left (o1 a)⟩
theorem frz_all {D : Ends} {σ : L2.St} {H : Hp} : ∀ (is : List Nat) (m : SM), tS X.K X.mg (mFrz is m) D σ H → tS X.K X.mg m D σ H
  | [], _, h => h
  | i :: is, m, h => frz_all is m (s_frz1 (t := fun _ _ _ => True) (i := i) (m := mFrz is m) h)
theorem s_frz (is : List Nat) (h : SimS X st m) : SimS X st (mFrz is m) := weakS h fun D σ H => frz_all is m
def mSet (i : Nat) (me : EM PV) : SM := fun ep et R => me ep et fun p et1 => R .nx (ep.set i (.val p)) et1
def mSetN (i : Nat) (me : EM PV) : SM := fun ep et R => me ep et fun p et1 => R .nx (ep.set i (.own p)) et1
def GOk (K : PySem.W.Frag) (mg : Str → Option Value) (is : List Nat) (g : TG) (tg : PV → En → Option En) : Prop :=
  ∀ (v : V) (p : PV) (σ : L2.St) (H : Hp) (ep ep' : En) (et : Hi) (W : Wd) (Q : L2.St → Hp → Prop), Cel K mg H et W → Slt K mg σ ep H et W → VR K mg W H p v → tg p ep = some ep' →
    (∀ σ', Slt K mg σ' ep' H et W → (∀ a, Own ep' σ' a → Own ep σ a) → (σ'.length = σ.length ∧ ∀ j, j ∉ is → σ'[j]? = σ[j]?) → Q σ' H) → g v σ H Q
def tgN (i : Nat) (p : PV) (ep : En) : Option En := some (ep.set i (.val p))
theorem g_name {K : PySem.W.Frag} {mg : Str → Option Value} (i : Nat) : GOk K mg [i] (gName i) (tgN i) := fun v p σ H ep ep' et W Q c s hv e q => by
  cases e
  exact q _ (s.set_val hv) (fun a h => own_set_sub h) ⟨List.length_set, fun j hj => List.getElem?_set_ne (fun e => hj (by rw [e]; exact List.mem_singleton.mpr rfl))⟩
theorem set_weak {i : Nat} : ∀ D σ H, tS X.K X.mg (mSet i me) D σ H → tAsg (tI X.K X.mg (pV X.K X.mg) me) (gName i) D σ H := fun D σ H ⟨ep, et, W, R, c, s, e, q⟩ =>
  ⟨ep, et, W, _, c, s, e, fun p et1 r1 v H1 W1 x1 c1 p1 => q .nx _ et1 r1 _ H1 W1 (Ext.to x1) c1 ((s.ext c x1).set_val p1) fun a h => .inl (own_set_sub h)⟩
theorem setN_weak {i : Nat} : ∀ D σ H, tS X.K X.mg (mSetN i me) D σ H → tAsg (tI X.K X.mg (pN X.K X.mg) me) (gName i) D σ H := fun D σ H ⟨ep, et, W, R, c, s, e, q⟩ => by
  refine ⟨ep, et, W, _, c, s, e, fun p et1 r1 v H1 W1 x1 c1 p1 => ?_⟩
  obtain ⟨b, rfl, h0, hf, hl, ho⟩ := p1
  refine q .nx _ et1 r1 _ H1 W1 (Ext.to x1) c1 ((s.ext c x1).set_own (fun z => s.own_there z h0) hf hl ho) fun a h => ?_
  rcases own_set_own h with h | rfl
  · exact .inl h
  · exact .inr h0
section
variable {i : Nat} {x : Str} {pos' : Pos}
theorem s_set (hN : X.N.Nodup) (hi : X.N[i]? = some x) (hx : Loc X.env.scope x) (he : SimE X e me) (hs : swapsWith e (some (.Name x pos')) pos.line X.env = pure false := by rfl) (hf : X.fn x = true ∨ X.env.scope.names.lookup x = some .local := by first | exact .inl rfl | exact .inr rfl | assumption) :
    SimS X (.Assign [.Name x pos'] e pos) (mSet i me) := weakS (ps_set hN hi hx he hs hf) set_weak
theorem s_setN (hN : X.N.Nodup) (hi : X.N[i]? = some x) (hx : Loc X.env.scope x) (he : SimN X e me) (hs : swapsWith e (some (.Name x pos')) pos.line X.env = pure false := by rfl) (hf : X.fn x = true ∨ X.env.scope.names.lookup x = some .local := by first | exact .inl rfl | exact .inr rfl | assumption) :
    SimS X (.Assign [.Name x pos'] e pos) (mSetN i me) := weakS (ps_set hN hi hx he hs hf) setN_weak
end
def mPar (i j : Nat) (ms : EM (List PV)) : SM := fun ep et R => ms ep et fun ps et1 => ∃ p q, ps = [p, q] ∧ R .nx ((ep.set i (.val p)).set j (.val q)) et1
theorem s_par {i j : Nat} {x y : Str} {a b : Expr} {ms : EM (List PV)} {px py pt : Pos} {kt k2 pt2} (hc : X.calm = true) (hN : X.N.Nodup) (hi : X.N[i]? = some x) (hj : X.N[j]? = some y) (hij : i ≠ j)
    (h : PA X [a, b] (tL X.K X.mg ms)) (hp : ∀ {ta : TA}, PA X [a, b] ta → PS X (.Assign [.Tuple [.Name x px, .Name y py] kt pt] (.Tuple [a, b] k2 pt2) pos) (tPar i j ta)) :
    SimS X (.Assign [.Tuple [.Name x px, .Name y py] kt pt] (.Tuple [a, b] k2 pt2) pos) (mPar i j ms) := weakS (hp h) fun D σ H ⟨ep, et, W, R, c, s, e, q⟩ => by
  refine ⟨ep, et, W, _, c, s, e, fun ps et1 r1 vs H1 W1 x1 c1 p1 => ?_⟩
  obtain ⟨p, r, rfl, r2⟩ := r1
  unfold VRs at p1
  obtain ⟨v, t, rfl, h1, p1⟩ := p1
  unfold VRs at p1
  obtain ⟨w, t', rfl, h2, p1⟩ := p1
  unfold VRs at p1
  subst p1
  exact ⟨v, w, rfl, q .nx _ et1 r2 _ H1 W1 (Ext.to x1) c1 (((s.ext c x1).set_val h1).set_val h2) fun a h => .inl (own_set_sub (own_set_sub h))⟩
def mWhile (t : EM Bool) (m : SM) : SM := fun ep et R => ∃ W : Nat → En → Hi → Prop, (∃ k, W k ep et) ∧ ∀ k ep et, W k ep et → t ep et fun b et1 => if b = true then m ep et1 fun f ep2 et2 => match f with
      | .nx => ∃ j, j < k ∧ W j ep2 et2
      | .ct => ∃ j, j < k ∧ W j ep2 et2
      | .bk => R .nx ep2 et2
      | .rt p => R (.rt p) ep2 et2
    else R .nx ep et1
theorem s_while {body : List Stmt} {t : EM Bool} (hp : PassesOwn (model X.prog X.w) X.A X.env X.xe) (h : SimT X e t) (hb : SimSs X body m) : SimS X (.While e body [] pos) (mWhile t m) := weakS (ps_while hp h hb) fun D σ0 H0 ⟨ep0, et0, W0, R, c0, s0, ⟨V, ⟨k, hk⟩, hV⟩, q⟩ => by
  refine ⟨fun k σ H => ∃ ep et W, Cel X.K X.mg H et W ∧ Slt X.K X.mg σ ep H et W ∧ Ext (Own ep0 σ0) H0 et0 W0 H et W ∧ (∀ a, Own ep σ a → Own ep0 σ0 a ∨ H0 a = none) ∧ V k ep et, ⟨k, ep0, et0, W0, c0, s0, Ext.refl .., fun a h => .inl h, hk⟩, ?_⟩
  rintro k σ H ⟨ep, et, W, c, s, x, o, hk⟩
  refine ⟨ep, et, W, _, c, s, hV k ep et hk, fun b et1 r1 H1 W1 x1 c1 => ?_⟩
  have x01 : Ext (Own ep0 σ0) H0 et0 W0 H1 et1 W1 := x.trans x1 fun _ h => h.elim
  have s1 := s.ext c x1
  cases b with
  | false =>
    have r1 : R .nx ep et1 := by simpa using r1
    exact q .nx ep et1 r1 σ H1 W1 x01 c1 s1 o
  | true =>
    rw [if_pos rfl] at r1
    refine ⟨fun σ' H' => ∃ ep et W, Cel X.K X.mg H' et W ∧ Slt X.K X.mg σ' ep H' et W ∧ Ext (Own ep0 σ0) H0 et0 W0 H' et W ∧ (∀ a, Own ep σ' a → Own ep0 σ0 a ∨ H0 a = none) ∧ ∃ j, j < k ∧ V j ep et, fun σ' H' ⟨ep', et', W', i1, i2, i3, i4, j, hj, i5⟩ => ⟨j, hj, ep', et', W', i1, i2, i3, i4, i5⟩, ?_⟩
    refine ⟨ep, et1, W1, _, c1, s1, r1, fun f ep2 et2 r2 σ2 H2 W2 x2 c2 => ?_⟩
    have x02 : Ext (Own ep0 σ0) H0 et0 W0 H2 et2 W2 := x01.trans x2 fun a h => o a h
    have oo : ∀ a, (Own ep σ a ∨ H1 a = none) → Own ep0 σ0 a ∨ H0 a = none := fun a h => h.elim (o a) fun z => .inr (x01.back z)
    cases f with
    | nx => exact fun s2 o2 => ⟨ep2, et2, W2, c2, s2, x02, fun a h => oo a (o2 a h), r2⟩
    | ct => exact fun s2 o2 => ⟨ep2, et2, W2, c2, s2, x02, fun a h => oo a (o2 a h), r2⟩
    | bk => exact fun s2 o2 => q .nx ep2 et2 r2 σ2 H2 W2 x02 c2 s2 fun a h => oo a (o2 a h)
    | rt p => exact fun v hv => q (.rt p) ep2 et2 r2 σ2 H2 W2 x02 c2 v hv
def Walks (K : PySem.W.Frag) (mg : Str → Option Value) (J : It) (ps src : List PV) (et0 : Hi) (H0 : Hp) (W0 : Wd) : Prop :=
  ∀ (O : Addr → Prop) (H1 : Hp) (et1 : Hi) (W1 : Wd), Ext O H0 et0 W0 H1 et1 W1 → Stays O H0 et0 W0 → Cel K mg H1 et1 W1 → src.map (deref et1) = src.map (deref et0) → ∀ i : Nat,
    (i = ps.length → J.stop i H1) ∧ ∀ p, ps[i]? = some p → J.go i H1 ∧ ∀ v H2, J.yld i H1 v H2 → ∃ W2, Ext NoO H1 et1 W1 H2 et1 W2 ∧ Cel K mg H2 et1 W2 ∧ VR K mg W2 H2 p v
abbrev IM := En → Hi → (List PV → List PV → Hi → Prop) → Prop
def tIt (K : PySem.W.Frag) (mg : Str → Option Value) (m : IM) : TI := fun sg H Q => ∃ ep et W R, Cel K mg H et W ∧ Slt K mg sg ep H et W ∧ m ep et R ∧
  ∀ ps src et', R ps src et' → ∀ J H' W', Ext NoO H et W H' et' W' → Cel K mg H' et' W' → Walks K mg J ps src et' H' W' → Q J H'
abbrev SimI (X : Cx) (tg iter : Expr) (m : IM) : Prop := PI X tg iter (tIt X.K X.mg m)
theorem weakI {X : Cx} {tg iter : Expr} {t u : TI} (h : PI X tg iter t) (w : ∀ σ H Q, u σ H Q → t σ H Q) : PI X tg iter u := ⟨fun pins s σ H Q I q => h.run pins s σ H Q I (w σ H Q q)⟩
def forGo (src : List PV) (want : List PV) (tg : PV → En → Option En) (m : SM) (ps : List PV) : SM := fun ep et R => ∃ V : Nat → En → Hi → Prop, V 0 ep et ∧ ∀ i ep et, V i ep et → src.map (deref et) = want ∧
  (∀ p, ps[i]? = some p → ∃ ep1, tg p ep = some ep1 ∧ m ep1 et fun f ep2 et2 => match f with
      | .nx => V (i + 1) ep2 et2
      | .ct => V (i + 1) ep2 et2
      | .bk => R .nx ep2 et2
      | .rt q => R (.rt q) ep2 et2) ∧ (i = ps.length → R .nx ep et)
def mFor (mi : IM) (tg : PV → En → Option En) (m : SM) : SM := fun ep et R => mi ep et fun ps src et1 => forGo src (src.map (deref et1)) tg m ps ep et1 R
theorem s_for {t iter : Expr} {body : List Stmt} {mi : IM} {g : TG} {is : List Nat} {tg : PV → En → Option En} (hp : PassesOwn (model X.prog X.w) X.A X.env X.xe) (hc : X.calm = true) (hi : SimI X t iter mi) (hg : PG X t g) (gk : GOk X.K X.mg is g tg) (hb : SimSs X body m)
    (hs : ∀ x, foldedSetIterable iter X.env x = pure x := by intro _; rfl) : SimS X (.For t iter body [] pos) (mFor mi tg m) := weakS (ps_for hp hc hi hg hb hs) fun D σ H ⟨ep, et, W, R, c, s, e, q⟩ => by
  refine ⟨ep, et, W, _, c, s, e, fun ps src et0 r0 J H0 W0 x0 c0 wk => ?_⟩
  obtain ⟨V, hV0, hV⟩ := r0
  have s0 := s.ext c x0
  have sy : Stays (Own ep σ) H0 et0 W0 := Slt.stays c0 s0
  refine ⟨fun i k σ' H' => k = ps.length - i ∧ i ≤ ps.length ∧ ∃ ep' et' W', Cel X.K X.mg H' et' W' ∧ Slt X.K X.mg σ' ep' H' et' W' ∧ Ext (Own ep σ) H0 et0 W0 H' et' W' ∧ (∀ a, Own ep' σ' a → Own ep σ a ∨ H0 a = none) ∧ V i ep' et',
    ⟨ps.length, by simp, Nat.zero_le _, ep, et0, W0, c0, s0, Ext.refl .., fun a h => .inl h, hV0⟩, ?_⟩
  rintro i k σ' H' ⟨rfl, hi, ep', et', W', c', s', x', o', r'⟩
  have back : ∀ {f : Fl} {ep2 : En} {et2 : Hi}, R f ep2 et2 → ∀ {σ2 : L2.St} {H2 : Hp} {W2 : Wd}, Ext (Own ep σ) H0 et0 W0 H2 et2 W2 → Cel X.K X.mg H2 et2 W2 → FlEnd X.K X.mg D ep σ H0 f ep2 σ2 H2 et2 W2 := fun {f ep2 et2} r {σ2 H2 W2} x cc => by
    have k := q f ep2 et2 r σ2 H2 W2 (x0.pre x) cc
    exact k.pre fun a h => h.imp_right fun z => x0.back z
  by_cases hlt : i < ps.length
  · obtain ⟨hsrc, r2, _⟩ := hV i ep' et' r'
    obtain ⟨ep1, ht, r1⟩ := r2 ps[i] (List.getElem?_eq_getElem hlt)
    obtain ⟨go, yl⟩ := (wk _ H' et' W' x' sy c' hsrc i).2 ps[i] (List.getElem?_eq_getElem hlt)
    refine .inr ⟨go, fun σ' H' => ∃ ep' et' W', Cel X.K X.mg H' et' W' ∧ Slt X.K X.mg σ' ep' H' et' W' ∧ Ext (Own ep σ) H0 et0 W0 H' et' W' ∧ (∀ a, Own ep' σ' a → Own ep σ a ∨ H0 a = none) ∧ V (i + 1) ep' et',
      fun σ1 H1 h => ⟨ps.length - (i + 1), by omega, rfl, hlt, h⟩, fun v H2 hy => ?_⟩
    obtain ⟨W2, x2, c2, v2⟩ := yl v H2 hy
    refine gk v ps[i] σ' H2 ep' ep1 et' W2 _ c2 (s'.ext c' x2) v2 ht fun σ1 s1 o1 _ => ?_
    have x02 : Ext (Own ep σ) H0 et0 W0 H2 et' W2 := x'.trans x2 fun _ h => h.elim
    refine ⟨ep1, et', W2, _, c2, s1, r1, fun f ep3 et3 r3 σ3 H3 W3 x3 c3 => ?_⟩
    have oo1 : ∀ a, Own ep1 σ1 a → Own ep σ a ∨ H0 a = none := fun a h => o' a (o1 a h)
    have x03 : Ext (Own ep σ) H0 et0 W0 H3 et3 W3 := x02.trans x3 oo1
    have oo : ∀ a, (Own ep1 σ1 a ∨ H2 a = none) → Own ep σ a ∨ H0 a = none := fun a h => h.elim (oo1 a) fun z => .inr (x02.back z)
    cases f with
    | nx => exact fun s3 o3 => ⟨ep3, et3, W3, c3, s3, x03, fun a h => oo a (o3 a h), r3⟩
    | ct => exact fun s3 o3 => ⟨ep3, et3, W3, c3, s3, x03, fun a h => oo a (o3 a h), r3⟩
    | bk => exact fun s3 o3 => back (f := .nx) r3 x03 c3 s3 fun a h => oo a (o3 a h)
    | rt p => exact fun v hv => back (f := .rt p) r3 (σ2 := σ3) x03 c3 v hv
  · obtain ⟨hsrc, _, r1⟩ := hV i ep' et' r'
    exact .inl ⟨(wk _ H' et' W' x' sy c' hsrc i).1 (by omega), back (f := .nx) (r1 (by omega)) x' c' s' o'⟩
end
end Mw
namespace Mw
open PySem PySem.Spec L2
section
variable {X : Cx} {tg e : Expr} {me : EM PV} {ms : EM (List PV)} {pos : Pos}
def signs (x : Str) : List PV := x.cps.toList.map fun c => .str ⟨#[c]⟩
def itemsP : PV → Option (List PV)
  | .lst xs => some xs
  | .tup xs => some xs
  | .scr xs => some (xs.map .int)
  | .str x => some (signs x)
  | _ => none
def mIter (m : EM PV) : IM := fun ep et R => m ep et fun p et1 => ∃ ps, itemsP (deref et1 p) = some ps ∧ R ps [p] et1
theorem pi_any {t : TE} (hl : PE X e t) : PI X tg e (fun σ H R => t σ H fun x H1 => (∃ a, x = .ref a ∧ (∃ xs, SqL X.K H1 a xs) ∧ R (Itl X.K a) H1) ∨ (∃ a, x = .ref a ∧ (∃ xs, SqT X.K H1 a xs) ∧ R (Itt X.K a) H1) ∨ ∃ z, x = .str z ∧ R (Its z) H1) := by
  refine ⟨fun pins s σ H R I h => ?_⟩
  refine thn (hl.run pins s σ H _ I h) fun v s1 ⟨x, H1, I1, r1, q1⟩ => ?_
  rcases q1 with ⟨a, e, ⟨xs, hq⟩, q⟩ | ⟨a, e, ⟨xs, hq⟩, q⟩ | ⟨x, ex, q⟩
  · subst e
    cases r1
    obtain ⟨its, rv, p, hz⟩ := I1.list hq
    refine wpAny_pyIter_list p.isList ?_
    refine ⟨s1.heap.objs.size, [s1.heap.objs.size], _, _, H1, rfl, I1.kept (t' := s1.toks) fun b o e => Heap.get?_push_of_some _ e, turn_list a _, ⟨_, Heap.get?_push_size _ rfl, rfl, rfl⟩, fun b hb => ?_, q⟩
    have e : b = s1.heap.objs.size := by simpa using hb
    subst e
    exact I1.fpOk (Nat.le_refl _) (I1.hok.fresh (Nat.le_refl _))
  · subst e
    cases r1
    obtain ⟨its, rv, p, hz⟩ := I1.tuple hq
    refine wpAny_pyIter_tuple (show s1.heap.IsTuple a its.toArray from p) ?_
    refine ⟨s1.heap.objs.size, [s1.heap.objs.size], _, _, H1, rfl, I1.kept (t' := s1.toks) fun b o e => Heap.get?_push_of_some _ e, turn_tuple a _, ⟨_, Heap.get?_push_size _ rfl, rfl, rfl⟩, fun b hb => ?_, q⟩
    have e : b = s1.heap.objs.size := by simpa using hb
    subst e
    exact I1.fpOk (Nat.le_refl _) (I1.hok.fresh (Nat.le_refl _))
  · subst ex
    obtain ⟨t, rfl⟩ := r1
    cases ha : x.cps.all (· < 128)
    · exact wpAny_pyIter_wide ha (pi_one (tk := s1.toks) I1 _ (turn_str _ x t "str_iterator" (.inr rfl)) ⟨_, Heap.get?_push_size _ rfl, rfl, rfl⟩ q)
    · exact wpAny_pyIter_ascii ha (pi_one (tk := s1.toks) I1 _ (turn_str _ x t "str_ascii_iterator" (.inl rfl)) ⟨_, Heap.get?_push_size _ rfl, rfl, rfl⟩ q)
theorem walks_list {H : Hp} {et : Hi} {W : Wd} {p : PV} {a : Addr} {ps : List PV} (h : VR X.K X.mg W H p (.ref a)) (e : deref et p = .lst ps) : Walks X.K X.mg (Itl X.K a) ps [p] et H W := by
  intro O H1 et1 W1 x sy c hsrc i
  have h1 : VR X.K X.mg W1 H1 p (.ref a) := VR.ext x sy _ _ h
  have e1 : deref et1 p = .lst ps := by
    have := hsrc
    simp only [List.map_cons, List.map_nil, List.cons.injEq, and_true] at this
    rw [this, e]
  obtain ⟨b, vs, eb, k1, k2⟩ := Pk.lst c (.inl h1) e1
  cases eb
  refine ⟨fun hl => ⟨vs, SqL.of k1, by rw [← k2.len]; omega⟩, fun q hq => ?_⟩
  obtain ⟨v, k3, k4⟩ := VRs.get k2 hq
  refine ⟨⟨vs, v, SqL.of k1, k3⟩, fun u H2 hy => ?_⟩
  obtain ⟨rfl, hy⟩ := hy
  have := hy vs (SqL.of k1)
  rw [k3] at this; cases this
  exact ⟨W1, Ext.refl .., c, k4⟩
theorem walks_scr {H : Hp} {et : Hi} {W : Wd} {ns : List Int} {a : Addr} (h : VR X.K X.mg W H (.scr ns) (.ref a)) : Walks X.K X.mg (Itl X.K a) (ns.map .int) [.scr ns] et H W := by
  intro O H1 et1 W1 x sy c hsrc i
  have h1 : VR X.K X.mg W1 H1 (.scr ns) (.ref a) := VR.ext x sy _ _ h
  unfold VR at h1
  obtain ⟨b, eb, k1⟩ := h1
  cases eb
  have k1 := k1.sq
  refine ⟨fun hl => ⟨_, k1, by simp at hl ⊢; omega⟩, fun q hq => ?_⟩
  rw [List.getElem?_map] at hq
  cases hn : ns[i]? with
  | none => rw [hn] at hq; cases hq
  | some n =>
    rw [hn] at hq; cases hq
    have k3 : (ns.map V.int)[i]? = some (.int n) := by rw [List.getElem?_map, hn]; rfl
    refine ⟨⟨_, _, k1, k3⟩, fun u H2 hy => ?_⟩
    obtain ⟨rfl, hy⟩ := hy
    have := hy _ k1
    rw [k3] at this; cases this
    exact ⟨W1, Ext.refl .., c, VR.int⟩
theorem walks_tup {H : Hp} {et : Hi} {W : Wd} {ps : List PV} {a : Addr} (h : VR X.K X.mg W H (.tup ps) (.ref a)) : Walks X.K X.mg (Itt X.K a) ps [.tup ps] et H W := by
  intro O H1 et1 W1 x sy c hsrc i
  have h1 : VR X.K X.mg W1 H1 (.tup ps) (.ref a) := VR.ext x sy _ _ h
  unfold VR at h1
  obtain ⟨b, vs, eb, k1, k2⟩ := h1
  cases eb
  refine ⟨fun hl => ⟨vs, k1, by rw [← k2.len]; omega⟩, fun q hq => ?_⟩
  obtain ⟨v, k3, k4⟩ := VRs.get k2 hq
  refine ⟨⟨vs, v, k1, k3⟩, fun u H2 hy => ?_⟩
  obtain ⟨rfl, hy⟩ := hy
  have := hy vs k1
  rw [k3] at this; cases this
  exact ⟨W1, Ext.refl .., c, k4⟩
theorem walks_str {H : Hp} {et : Hi} {W : Wd} {src : List PV} (x : Str) : Walks X.K X.mg (Its x) (signs x) src et H W := by
  intro O H1 et1 W1 _ sy c hsrc i
  refine ⟨fun hl => ?_, fun q hq => ?_⟩
  · unfold signs at hl; rw [List.length_map, Array.length_toList] at hl; exact Nat.le_of_eq hl.symm
  · unfold signs at hq
    rw [List.getElem?_map] at hq
    cases hn : x.cps.toList[i]? with
    | none => rw [hn] at hq; cases hq
    | some n =>
      rw [hn] at hq; cases hq
      have hi : i < x.cps.size := by
        have := (List.getElem?_eq_some_iff.mp hn).1
        rwa [Array.length_toList] at this
      refine ⟨hi, fun u H2 hy => ?_⟩
      obtain ⟨rfl, d, hd, rfl⟩ := hy
      have : d = n := by
        rw [← Array.getElem?_toList, hn] at hd
        exact (Option.some.inj hd).symm
      subst this
      exact ⟨W1, Ext.refl .., c, VR.str⟩
theorem sI_any (h : SimE X e me) : SimI X tg e (mIter me) := weakI (pi_any h) fun σ H Q ⟨ep, et, W, R, c, s, hm, q⟩ => by
  refine ⟨ep, et, W, _, c, s, hm, fun p et1 r0 v H1 W1 x1 c1 p1 => ?_⟩
  have p1 : VR X.K X.mg W1 H1 p v := p1
  obtain ⟨ps, hp, r1⟩ := r0
  unfold itemsP at hp
  split at hp
  · rename_i xs e1
    cases hp
    obtain ⟨a, vs, rfl, k1, k2⟩ := Pk.lst c1 (.inl p1) e1
    exact .inl ⟨a, rfl, ⟨vs, SqL.of k1⟩, q _ _ et1 r1 _ H1 W1 x1 c1 (walks_list p1 e1)⟩
  · rename_i xs e1
    cases hp
    have e2 := deref_plain e1 rfl
    subst e2
    have p2 := p1
    unfold VR at p2
    obtain ⟨a, vs, rfl, k1, k2⟩ := p2
    exact .inr (.inl ⟨a, rfl, ⟨vs, k1⟩, q _ _ et1 r1 _ H1 W1 x1 c1 (walks_tup p1)⟩)
  · rename_i xs e1
    cases hp
    have e2 := deref_plain e1 rfl
    subst e2
    have p2 := p1
    unfold VR at p2
    obtain ⟨a, rfl, k1⟩ := p2
    exact .inl ⟨a, rfl, ⟨_, k1.sq⟩, q _ _ et1 r1 _ H1 W1 x1 c1 (walks_scr p1)⟩
  · rename_i x e1
    cases hp
    have e2 := deref_plain e1 rfl
    subst e2
    unfold VR at p1
    exact .inr (.inr ⟨x, p1, q _ _ et1 r1 _ H1 W1 x1 c1 (walks_str x)⟩)
  · cases hp
def rng (i : Int) (n : Nat) : List PV := (List.range n).map fun (k : Nat) => .int (i + k)
def mRng1 (ms : EM (List PV)) : IM := fun ep et R => ms ep et fun ps et1 => ∃ j : Int, ps = [.int j] ∧ -(2 ^ 62) ≤ j ∧ j < 2 ^ 62 ∧ R (rng 0 j.toNat) [] et1
theorem walks_rng {H : Hp} {et : Hi} {W : Wd} (i : Int) (n : Nat) : Walks X.K X.mg (Itr i n) (rng i n) [] et H W := by
  intro O H1 et1 W1 _ sy c hsrc j
  refine ⟨fun hl => ?_, fun q hq => ?_⟩
  · unfold rng at hl; rw [List.length_map, List.length_range] at hl; exact Nat.le_of_eq hl.symm
  · unfold rng at hq
    rw [List.getElem?_map] at hq
    by_cases hj : j < n
    · rw [List.getElem?_range hj] at hq
      cases hq
      refine ⟨hj, fun v H2 hy => ?_⟩
      obtain ⟨rfl, rfl⟩ := hy
      exact ⟨W1, Ext.refl .., c, VR.int⟩
    · rw [List.getElem?_eq_none (by simpa using hj)] at hq; cases hq
theorem sI_rng1 {a : Expr} {p : Pos} (hg : Gl X "range") (hm : X.mg "range" = none) (ha : SimA X [a] ms) (hs : starEach [a] X.env = [(false, eval a X.env)] := by rfl) : SimI X tg (.Call (.Name "range" p) [a] [] pos) (mRng1 ms) :=
  weakI (pi_range1 hg hm ha hs) fun σ H Q ⟨ep, et, W, R, c, s, hm, q⟩ => by
  refine ⟨ep, et, W, _, c, s, hm, fun ps et1 r0 vs H1 W1 x1 c1 p1 => ?_⟩
  obtain ⟨j, rfl, h1, h2, r1⟩ := r0
  unfold VRs at p1
  obtain ⟨v, r, rfl, p2, p3⟩ := p1
  unfold VRs at p3; subst p3
  unfold VR at p2; subst p2
  exact ⟨j, rfl, h1, h2, q _ _ et1 r1 _ H1 W1 x1 c1 (walks_rng 0 _)⟩
def itK (b : Bool) (h : Heap) (it a : Addr) (i : Nat) : Prop := (b = true ∧ h.IsListIter it a i) ∨ (b = false ∧ h.IsTupleIter it a i)
def srcK (b : Bool) (h : Heap) (a : Addr) (its : Array Value) : Prop := (b = true ∧ h.IsList a its) ∨ (b = false ∧ h.IsTuple a its)
def objK (b : Bool) (a : Addr) : Obj := { cls := .type (if b = true then "list_iterator" else "tuple_iterator"), data := .fields #[.ref a, .int 0 0] }
theorem itK.at {b : Bool} {h h' : Heap} {it a : Addr} {i : Nat} (x : itK b h it a i) (k : ∀ o, h.get? it = some o → h'.get? it = some o) : itK b h' it a i := by
  rcases x with ⟨e, x⟩ | ⟨e, x⟩
  · exact .inl ⟨e, x.at k⟩
  · exact .inr ⟨e, x.at k⟩
theorem itK.new {b : Bool} {h : Heap} {it a : Addr} (e : h.get? it = some (objK b a)) : itK b h it a 0 := by
  cases b
  · exact .inr ⟨rfl, _, e, rfl, rfl⟩
  · exact .inl ⟨rfl, _, e, rfl, rfl⟩
theorem srcK.lt {b : Bool} {h : Heap} {a : Addr} {its : Array Value} (x : srcK b h a its) : a < h.objs.size := by
  rcases x with ⟨_, o, ho, _⟩ | ⟨_, o, ho, _⟩ <;> exact Heap.lt_size ho
section
variable {X : Cx} {pins : List (Addr × Obj)} {σ : L2.St} {H : Hp} {s : Shared} {a : Addr} {xs ys : List V} {b : Bool}
end
def SrcP (b : Bool) (et : Hi) (p : PV) (xs : List PV) : Prop := (b = true ∧ deref et p = .lst xs) ∨ (b = false ∧ p = .tup xs)
theorem SrcP.at {b : Bool} {et et' : Hi} {p : PV} {xs : List PV} (h : SrcP b et p xs) (e : deref et' p = deref et p) : SrcP b et' p xs := by
  rcases h with ⟨e1, h⟩ | ⟨e1, h⟩
  · exact .inl ⟨e1, e.trans h⟩
  · exact .inr ⟨e1, h⟩
theorem priv_write {K : PySem.W.Frag} {mg : Str → Option Value} {H : Hp} {et : Hi} {W : Wd} (c : Cel K mg H et W) {D : Addr} {vs vs' : List V} (hD : H D = some (.lst vs)) (hf : ¬ W.fz D) (hl : ¬ Live et W D) :
    Cel K mg (upd H D (.lst vs')) et W ∧ (∀ q v, VR K mg W H q v → VR K mg W (upd H D (.lst vs')) q v) ∧ (∀ ps us, VRs K mg W H ps us → VRs K mg W (upd H D (.lst vs')) ps us) := by
  have x : Ext (fun a => a = D) H et W (upd H D (.lst vs')) et W := ⟨fun _ h => h, fun _ h => .inl h, ⟨[], by simp⟩, fun _ h => .inl h, fun b u h _ hO => by rw [upd_ne hO]; exact h, fun b h => by
    by_cases e : b = D
    · rw [e, upd_same]; simp
    · rw [upd_ne e]; exact h⟩
  have sy : Stays (fun a => a = D) H et W := ⟨fun a h => ⟨c.fzl a h, fun e => hf (e ▸ h)⟩, fun a xs h => ⟨(c.stays0.tup a xs h).1, fun e => by rw [e, hD] at h; cases h⟩, fun a o u h => ⟨(c.stays0.frz a o u h).1, fun e => by rw [e, hD] at h; cases h⟩, fun a fs h => ⟨(c.stays0.xd a fs h).1, fun e => by rw [e, hD] at h; cases h⟩⟩
  refine ⟨⟨c.len, fun j d b h1 h2 => ?_, c.inj, c.fzl, fun b h => x.there b (c.fzh b h)⟩, fun q v h => VR.ext x sy q v h, fun q v h => VRs.ext x sy q v h⟩
  have k := c.ok j d b h1 h2
  have keep : d ≠ .dead → upd H D (.lst vs') b = H b := fun hd => upd_ne fun e => hl ⟨j, d, h1, hd, e ▸ h2⟩
  cases d with
  | dead => trivial
  | lst xs => obtain ⟨vs, k1, k2⟩ := k; exact ⟨vs, by rw [keep (by simp)]; exact k1, VRs.ext x sy _ _ k2⟩
  | dic xs => obtain ⟨vs, k1, k2⟩ := k; exact ⟨vs, by rw [keep (by simp)]; exact k1, VRk.ext x sy _ _ k2⟩
  | potO t n => obtain ⟨b', sd, ct, k0, k1, k2⟩ := k; exact ⟨b', sd, ct, k0, by rw [keep (by simp)]; exact k1, k2⟩
  | potI => obtain ⟨is, k1, k2⟩ := k; exact ⟨is, by rw [keep (by simp)]; exact k1, k2⟩
  | inv P => obtain ⟨is, k1, k2⟩ := k; exact ⟨is, by rw [keep (by simp)]; exact k1, k2⟩
  | exc c fs => obtain ⟨C, d', k0, k1, k2⟩ := k; exact ⟨C, d', k0, by rw [keep (by simp)]; exact k1, k2.imp_right fun ⟨dd, e, q⟩ => ⟨dd, e, x.keep dd _ q (sy.xd dd _ q).1 (sy.xd dd _ q).2⟩⟩
  | nd kvs => rcases k with ⟨k0, k1⟩ | ⟨es, k1, k2⟩; exact .inl ⟨k0, by rw [keep (by simp)]; exact k1⟩; exact .inr ⟨es, by rw [keep (by simp)]; exact k1, VRn.ext x sy _ _ k2⟩
  | ins t fs => obtain ⟨C, dx, gs, k0, k1, k2⟩ := k; exact ⟨C, dx, gs, k0, by rw [keep (by simp)]; exact k1, VRf.ext x sy _ _ k2⟩
def wipeE (ep : En) : List Nat → En
  | [] => ep
  | v :: vs => (wipeE ep vs).set v .no
theorem Slt.wipe {K : PySem.W.Frag} {mg : Str → Option Value} {H : Hp} {et : Hi} {W : Wd} {σ : L2.St} {ep : En} (s : Slt K mg σ ep H et W) : ∀ vs : List Nat, Slt K mg (L2.wipe σ vs) (wipeE ep vs) H et W
  | [] => s
  | v :: vs => by
    unfold L2.wipe wipeE
    exact (Slt.wipe s vs).set_no
theorem wipe_get (σ : L2.St) : ∀ (vs : List Nat) (j : Nat), (L2.wipe σ vs)[j]? = if j ∈ vs then (if j < σ.length then some none else none) else σ[j]?
  | [], j => by simp [L2.wipe]
  | v :: vs, j => by
    unfold L2.wipe
    by_cases e : j = v
    · subst e
      by_cases hl : j < σ.length
      · rw [List.getElem?_set_self (by rw [wipe_length]; exact hl)]; simp [hl]
      · rw [List.getElem?_eq_none (by rw [List.length_set, wipe_length]; omega)]; simp [hl]
    · rw [List.getElem?_set_ne (Ne.symm e), wipe_get σ vs j]; simp [e]
theorem wipe_same {σ σ' : L2.St} {vs : List Nat} (hl : σ'.length = σ.length) (h : ∀ j, j ∉ vs → σ'[j]? = σ[j]?) : L2.wipe σ' vs = L2.wipe σ vs := by
  apply List.ext_getElem?
  intro j
  rw [wipe_get, wipe_get, hl]
  by_cases e : j ∈ vs
  · simp [e]
  · simp [e, h j e]
theorem wipe_wipe (σ : L2.St) (vs : List Nat) : L2.wipe (L2.wipe σ vs) vs = L2.wipe σ vs := wipe_same (wipe_length σ vs) fun j hj => by rw [wipe_get]; simp [hj]
def mYes : EM Bool := fun _ et R => R true et
def lcGo (src want : List PV) (tg : PV → En → Option En) (mt : EM Bool) (me : EM PV) (epw : En) (ps : List PV) (et : Hi) (R : PV → Hi → Prop) : Prop := ∃ V : Nat → List PV → Hi → Prop, V 0 [] et ∧ ∀ i acc et, V i acc et → src.map (deref et) = want ∧
  (∀ p, ps[i]? = some p → ∃ ep1, tg p epw = some ep1 ∧ mt ep1 et fun b et1 => if b = true then me ep1 et1 fun y et2 => acc.length < sizeLine ∧ V (i + 1) (acc ++ [y]) et2 else V (i + 1) acc et1) ∧ (i = ps.length → R (.lst acc) et)
def mLc (mi : IM) (vs : List Nat) (tg : PV → En → Option En) (mt : EM Bool) (me : EM PV) : EM PV := fun ep et R => mi ep et fun ps src et1 => lcGo src (src.map (deref et1)) tg mt me (wipeE ep vs) ps et1 R
theorem lc_weak {mi : IM} {g : TG} {is vs : List Nat} {tgP : PV → En → Option En} {mt : EM Bool} {me : EM PV} (gk : GOk X.K X.mg is g tgP) (hsub : ∀ i ∈ is, i ∈ vs) :
    ∀ σ H Q, tI X.K X.mg (pN X.K X.mg) (mLc mi vs tgP mt me) σ H Q → tLc (tIt X.K X.mg mi) g (tT X.K X.mg mt) (tI X.K X.mg (pV X.K X.mg) me) vs σ H Q := fun σ H Q ⟨ep, et, W, R, c, s, e, q⟩ => by
  refine ⟨ep, et, W, _, c, s, e, fun ps src et0 r0 J H0 W0 x0 c0 wk => fun D hD => ?_⟩
  obtain ⟨Vi, hV0, hV⟩ := r0
  have s0 := s.ext c x0
  have sw := Slt.wipe s0 vs
  obtain ⟨x1, c1, r1⟩ := new_own c0 hD (VRs.nil (K := X.K) (mg := X.mg) (W := W0) (H := H0))
  refine ⟨fun i k H' => k = ps.length - i ∧ i ≤ ps.length ∧ ∃ acc us et' W', Cel X.K X.mg H' et' W' ∧ Ext NoO H0 et0 W0 H' et' W' ∧ H' D = some (.lst us) ∧ VRs X.K X.mg W' H' acc us ∧ ¬ W'.fz D ∧ ¬ Live et' W' D ∧ Vi i acc et',
    ⟨ps.length, by simp, Nat.zero_le _, [], [], et0, W0, c1, x1, upd_same, VRs.nil, fun z => c0.fzh D z hD, c0.not_live hD, hV0⟩, ?_⟩
  rintro i k H' ⟨rfl, hi, acc, us, et', W', c', x', hD', va, hf, hl, r'⟩
  have st0 : Stays NoO H0 et0 W0 := c0.stays0
  by_cases hlt : i < ps.length
  · obtain ⟨hsrc, r2, _⟩ := hV i acc et' r'
    obtain ⟨ep1, ht, r2⟩ := r2 ps[i] (List.getElem?_eq_getElem hlt)
    obtain ⟨go, yl⟩ := (wk _ H' et' W' x' st0 c' hsrc i).2 ps[i] (List.getElem?_eq_getElem hlt)
    refine .inr ⟨go, fun H' => ∃ acc us et' W', Cel X.K X.mg H' et' W' ∧ Ext NoO H0 et0 W0 H' et' W' ∧ H' D = some (.lst us) ∧ VRs X.K X.mg W' H' acc us ∧ ¬ W'.fz D ∧ ¬ Live et' W' D ∧ Vi (i + 1) acc et',
      fun H1 h => ⟨ps.length - (i + 1), by omega, rfl, hlt, h⟩, fun v H2 hy => ?_⟩
    obtain ⟨W2, x2, c2, v2⟩ := yl v H2 hy
    have x02 := x'.NoO_trans x2
    have swx : Slt X.K X.mg (L2.wipe σ vs) (wipeE ep vs) H2 et' W2 := sw.ext c0 x02
    -- the new list stands through a step
    have step : ∀ {Ha Hb : Hp} {ea eb : Hi} {Wa Wb : Wd} {us : List V} {acc : List PV}, Cel X.K X.mg Ha ea Wa → Ext NoO Ha ea Wa Hb eb Wb → Ha D = some (.lst us) → VRs X.K X.mg Wa Ha acc us → ¬ Wa.fz D → ¬ Live ea Wa D → Hb D = some (.lst us) ∧ VRs X.K X.mg Wb Hb acc us ∧ ¬ Wb.fz D ∧ ¬ Live eb Wb D :=
      fun {Ha Hb ea eb Wa Wb us acc} cc xx h1 h2 h3 h4 => ⟨xx.keep D _ h1 h4 id, VRs.ext xx cc.stays0 _ _ h2, fun z => by
        rcases xx.nfz D z with z | z | z
        · exact h3 z
        · rw [h1] at z; cases z
        · exact z, fun z => by
        rcases xx.live D z with z | z
        · exact h4 z
        · rw [h1] at z; cases z⟩
    obtain ⟨d2, va2, f2, l2⟩ := step c' x2 hD' va hf hl
    refine gk v ps[i] (L2.wipe σ vs) H2 (wipeE ep vs) ep1 et' W2 _ c2 swx v2 ht fun σ1 s1 _ k1 => ⟨?_, ?_⟩
    · rw [wipe_same (σ := L2.wipe σ vs) k1.1 fun j hj => k1.2 j fun z => hj (hsub j z), wipe_wipe]
    · refine ⟨ep1, et', W2, _, c2, s1, r2, fun b et3 r3 H3 W3 x3 c3 => ?_⟩
      obtain ⟨d3, va3, f3, l3⟩ := step c2 x3 d2 va2 f2 l2
      have x03 := x02.NoO_trans x3
      cases b with
      | false => exact ⟨acc, us, et3, W3, c3, x03, d3, va3, f3, l3, by simpa using r3⟩
      | true =>
        refine ⟨ep1, et3, W3, _, c3, s1.ext c2 x3, (by simpa using r3), fun y et4 r4 u H4 W4 x4 c4 p4 => ?_⟩
        obtain ⟨d4, va4, f4, l4⟩ := step c3 x4 d3 va3 f3 l3
        have x04 := x03.NoO_trans x4
        obtain ⟨c5, vr5, vrs5⟩ := priv_write (vs' := us ++ [u]) c4 d4 f4 l4
        refine ⟨us, d4, by rw [← va4.len]; exact r4.1, acc ++ [y], us ++ [u], et4, W4, c5, ⟨x04.fz, x04.nfz, x04.mu, x04.live, fun a o h h2 h3 => ?_, fun a h => ?_⟩, upd_same, VRs.append (vrs5 _ _ va4) (VRs.cons (vr5 _ _ p4) VRs.nil), f4, l4, r4.2⟩
        · rw [upd_ne (ne_of_none h hD)]; exact x04.keep a o h h2 h3
        · by_cases e : a = D
          · rw [e, upd_same]; simp
          · rw [upd_ne e]; exact x04.there a h
  · obtain ⟨hsrc, _, r2⟩ := hV i acc et' r'
    have r2 := r2 (by omega)
    refine .inl ⟨(wk _ H' et' W' x' st0 c' hsrc i).1 (by omega), ?_⟩
    exact q _ et' r2 _ H' W' (x0.NoO_trans x') c' ⟨D, rfl, x0.back hD, hf, hl, us, hD', va⟩
theorem sN_lc {elt iter : Expr} {ifs : List Expr} {scope : Scope} {own : List (Str × Nat)} {mi : IM} {g : TG} {is : List Nat} {tgP : PV → En → Option En} {mt : EM Bool} (gk : GOk X.K X.mg is g tgP) (hsub : ∀ i ∈ is, i ∈ own.map (·.2))
    (hc : X.calm = true) (hN : X.N.Nodup) (hi : SimI X tg iter mi) (ok : BlkOk X.N X.env.scope scope own)
    (hg : ∀ (s : Shared) (H : Hp) (C : Addr) (cl : List (Str × Addr)) (fp : List Addr), PG (X.blk s H scope (compEnvC scope cl C X.env) fp) tg g) (ht : ∀ (s : Shared) (H : Hp) (C : Addr) (cl : List (Str × Addr)) (fp : List Addr), PTs (X.blk s H scope (compEnvC scope cl C X.env) fp) ifs (tT X.K X.mg mt))
    (he : ∀ (s : Shared) (H : Hp) (C : Addr) (cl : List (Str × Addr)) (fp : List Addr), SimE (X.blk s H scope (compEnvC scope cl C X.env) fp) elt me) (hs : ∀ x, foldedSetIterable iter X.env x = pure x := by intro _; rfl) :
    SimN X (.ListComp elt [⟨tg, iter, ifs, 0⟩] scope pos) (mLc mi (own.map (·.2)) tgP mt me) := weakE (pe_lc hc hN hi ok hg ht he hs) (lc_weak gk hsub)
theorem pts_yes {Y : Cx} : PTs Y [] (tT Y.K Y.mg mYes) := ⟨fun pins s σ H Q I ⟨ep, et, W, R, c, s', e, q⟩ => pts_nil.run pins s σ H Q I (q true et e H W (Ext.refl ..) c)⟩
end
end Mw
namespace Mw
open PySem PySem.Spec L2
abbrev XM := En → Hi → (PV → En → Hi → Prop) → Prop
section
variable (K : PySem.W.Frag) (mg : Str → Option Value)
def tX (m : XM) : TE := fun sg H Q => ∃ ep et W R, Cel K mg H et W ∧ Slt K mg sg ep H et W ∧ m ep et R ∧
  ∀ a ep' et', R a ep' et' → ∀ v H' W', Ext (Own ep sg) H et W H' et' W' → Cel K mg H' et' W' → Slt K mg sg ep' H' et' W' → (∀ b, Own ep' sg b → Own ep sg b) → VR K mg W' H' a v → Q v H'
end
abbrev SimX (X : Cx) (e : Expr) (m : XM) : Prop := PE X e (tX X.K X.mg m)
section
variable {X : Cx} {e : Expr} {m : XM} {pos : Pos}
def mExprX (m : XM) : SM := fun ep et R => m ep et fun _ ep1 et1 => R .nx ep1 et1
theorem s_exprX (h : SimX X e m) (hs : swapsWith e none pos.line X.env = pure false := by rfl) : SimS X (.Expr e pos) (mExprX m) := weakS (ps_expr h hs) fun D σ H ⟨ep, et, W, R, c, s, e, q⟩ =>
  ⟨ep, et, W, _, c, s, e, fun p ep1 et1 r1 v H1 W1 x1 c1 s1 o1 p1 => q .nx ep1 et1 r1 σ H1 W1 x1 c1 s1 fun a h => .inl (o1 a h)⟩
end
def MutOk (K : PySem.W.Frag) (mg : Str → Option Value) (r : V → List V → Hp → VK → Prop) (g : (PV → PV) → PV → List PV → Option (PV × PV)) : Prop :=
  ∀ (a : Addr) (p p' z : PV) (o : HO) (args : List PV) (xs : List V) (H : Hp) (et : Hi) (W : Wd) (Q : VK), Cel K mg H et W → H a = some o → Cont K mg W H p o → VRs K mg W H args xs → g (deref et) p args = some (p', z) →
    (∀ o' v, Cont K mg W H p' o' → VR K mg W H z v → Q v (upd H a o')) → r (.ref a) xs H Q
def isLst : PV → Bool
  | .lst _ => true
  | _ => false
theorem Cont.lst {K : PySem.W.Frag} {mg : Str → Option Value} {W : Wd} {H : Hp} {p : PV} {o : HO} (h : Cont K mg W H p o) (e : isLst p = true) : ∃ xs vs, p = .lst xs ∧ o = .lst vs ∧ VRs K mg W H xs vs := by
  unfold Cont at h
  split at h
  · exact ⟨_, _, rfl, rfl, h⟩
  · cases e
  · cases h
def mMut (i : Nat) (g : (PV → PV) → PV → List PV → Option (PV × PV)) (ms : EM (List PV)) : XM := fun ep et R => match ep[i]? with
  | some (.own p) => isLst p = true ∧ ms ep et fun as et1 => ∃ p' z, g (deref et1) p as = some (p', z) ∧ R z (ep.set i (.own p')) et1
  | some (.val (.ref n)) => isLst (deref et (.ref n)) = true ∧ ms ep et fun as et1 => ∃ p' z c, g (deref et1) (deref et1 (.ref n)) as = some (p', z) ∧ isLst (deref et1 (.ref n)) = true ∧ cellP p' = some c ∧ R z ep (et1.set n c)
  | _ => False
section
variable {X : Cx} {x name : Str} {apos cpos p0 : Pos} {e : Expr} {es : List Expr} {ms : EM (List PV)} {id : String} {r : V → List V → Hp → VK → Prop} {g : (PV → PV) → PV → List PV → Option (PV × PV)} {i : Nat}
theorem Cont.cell {K : PySem.W.Frag} {mg : Str → Option Value} {W : Wd} {H H1 : Hp} {p : PV} {o : HO} {c : Cell} {a : Addr} (h : Cont K mg W H p o) (e : cellP p = some c) (k : ∀ ps vs, VRs K mg W H ps vs → VRs K mg W H1 ps vs) (k' : ∀ ps vs, VRk K mg W H ps vs → VRk K mg W H1 ps vs) (ha : H1 a = some o) : CellOk K mg W H1 c a := by
  unfold Cont at h
  split at h
  · cases e; exact ⟨_, ha, k _ _ h⟩
  · cases e; exact ⟨_, ha, k' _ _ h⟩
  · cases h
theorem deref_cell {et : Hi} {n : Nat} (h : isLst (deref et (.ref n)) = true) : ∃ xs, et[n]? = some (.lst xs) ∧ deref et (.ref n) = .lst xs := by
  unfold deref at h ⊢
  cases q : et[n]? with
  | none => simp only [q] at h; cases h
  | some d =>
    cases d with
    | lst xs => exact ⟨xs, rfl, by simp only [q]⟩
    | dic xs => simp only [q] at h; cases h
    | dead => simp only [q] at h; cases h
    | potO _ _ => simp only [q] at h; cases h
    | potI => simp only [q] at h; cases h
    | inv _ => simp only [q] at h; cases h
    | nd _ => simp only [q] at h; cases h
    | exc _ _ => simp only [q] at h; cases h
    | ins _ _ => simp only [q] at h; cases h
theorem mut_fin (hg : MutOk X.K X.mg r g) {σ : L2.St} {H : Hp} {Q : VK} {ep : En} {et : Hi} {W : Wd} {R : PV → En → Hi → Prop} (c : Cel X.K X.mg H et W) (s : Slt X.K X.mg σ ep H et W)
    (hm : mMut i g ms ep et R) (q : ∀ a ep' et', R a ep' et' → ∀ v H' W', Ext (Own ep σ) H et W H' et' W' → Cel X.K X.mg H' et' W' → Slt X.K X.mg σ ep' H' et' W' → (∀ b, Own ep' σ b → Own ep σ b) → VR X.K X.mg W' H' a v → Q v H') :
    ∃ v, σ[i]? = some (some v) ∧ tyV X.K "list" v H ∧ ∃ R', ms ep et R' ∧ ∀ as et1, R' as et1 → ∀ vs H1 W1, Ext NoO H et W H1 et1 W1 → Cel X.K X.mg H1 et1 W1 → VRs X.K X.mg W1 H1 as vs → r v vs H1 Q := by
  unfold mMut at hm
  split at hm
  · rename_i p hp
    obtain ⟨hl, hm⟩ := hm
    have hlt : i < σ.length := by rw [← s.len]; exact (List.getElem?_eq_some_iff.mp hp).1
    obtain ⟨a, ev, hv⟩ := s.ok i _ _ hp (List.getElem?_eq_getElem hlt)
    have hσ : σ[i]? = some (some (.ref a)) := by rw [List.getElem?_eq_getElem hlt, ev]
    refine ⟨.ref a, hσ, ?_, _, hm, fun as et1 r1 vs H1 W1 x1 c1 p1 => ?_⟩
    · unfold OwnAt at hv
      split at hv
      · obtain ⟨ws, h1, _⟩ := hv; exact .inl ⟨rfl, ws, SqL.of h1⟩
      · cases hl
      · cases hv
    · obtain ⟨p', z, h1, r2⟩ := r1
      have s1 := s.ext c x1
      obtain ⟨a', ev', hv1⟩ := s1.ok i _ _ hp hσ
      cases ev'
      obtain ⟨o, ho, hc⟩ : ∃ o, H1 a = some o ∧ Cont X.K X.mg W1 H1 p o := by
        unfold OwnAt at hv1
        split at hv1
        · obtain ⟨ws, h1, h2⟩ := hv1; exact ⟨_, h1, h2⟩
        · obtain ⟨ws, h1, h2⟩ := hv1; exact ⟨_, h1, h2⟩
        · cases hv1
      refine hg a p p' z o as vs H1 et1 W1 Q c1 ho hc p1 h1 fun o' v hc' hv' => ?_
      obtain ⟨x2, c2, s2, o2, vr2⟩ := own_write c1 s1 hp hσ hc'
      exact q z _ et1 r2 v _ W1 (x1.pre x2) c2 s2 o2 (vr2 _ _ hv')
  · rename_i n hp
    obtain ⟨hl, hm⟩ := hm
    have hlt : i < σ.length := by rw [← s.len]; exact (List.getElem?_eq_some_iff.mp hp).1
    obtain ⟨v, ev, hv⟩ := s.ok i _ _ hp (List.getElem?_eq_getElem hlt)
    have hσ : σ[i]? = some (some v) := by rw [List.getElem?_eq_getElem hlt, ev]
    obtain ⟨xs, hn, hd⟩ := deref_cell hl
    obtain ⟨a, ws, rfl, k1, k2⟩ := Pk.lst c (.inl hv) hd
    have hma : W.mu[n]? = some a := by unfold VR at hv; obtain ⟨b, e, h⟩ := hv; cases e; exact h
    refine ⟨.ref a, hσ, .inl ⟨rfl, ws, SqL.of k1⟩, _, hm, fun as et1 r1 vs H1 W1 x1 c1 p1 => ?_⟩
    obtain ⟨p', z, cc, h1, h2, h3, r2⟩ := r1
    obtain ⟨xs1, hn1, hd1⟩ := deref_cell h2
    have hv1 := VR.ext x1 c.stays0 _ _ hv
    obtain ⟨a', ws1, ea, k3, k4⟩ := Pk.lst c1 (.inl hv1) hd1
    cases ea
    rw [hd1] at h1
    refine hg a _ p' z _ as vs H1 et1 W1 Q c1 k3 (show Cont X.K X.mg W1 H1 (.lst xs1) (.lst ws1) from k4) p1 h1 fun o' v hc' hv' => ?_
    obtain ⟨x2, c2, vr2⟩ := cell_write (d' := cc) (o := o') c1 hn1 (by simp) (by
      cases p' <;> first | (cases h3; done) | (cases h3; simp)) (x1.mu_get hma) fun H2 et2 xx ha => hc'.cell h3 (fun ps vs h => VRs.ext xx c1.stays0 _ _ h) (fun ps vs h => VRk.ext xx c1.stays0 _ _ h) ha
    exact q z ep _ r2 v _ W1 (Ext.to (x1.NoO_trans x2)) c2 ((s.ext c x1).ext c1 x2) (fun _ h => h) (vr2 _ _ hv')
  · cases hm
theorem sX_mut (slot : PySem.Slot "list" name id) (hty : typeOf (.builtin id) = pure (.type "method_descriptor")) (hm : MtR X id r) (hg : MutOk X.K X.mg r g) (ho : PE X (.Name x p0) (tVar i)) (ha : SimA X (e :: es) ms)
    (h : ∀ {to : TE} {t : TA}, PE X (.Name x p0) to → PA X (e :: es) t → PE X (.Call (.Attribute (.Name x p0) name apos) (e :: es) [] cpos) (tBM X.K "list" r to t)) :
    SimX X (.Call (.Attribute (.Name x p0) name apos) (e :: es) [] cpos) (mMut i g ms) := weakE (h ho ha) fun σ H Q ⟨ep, et, W, R, c, s, e, q⟩ => by
  obtain ⟨v, h1, h2, R', h3, h4⟩ := mut_fin hg c s e q
  exact ⟨v, h1, h2, ep, et, W, R', c, s, h3, h4⟩
end
section
variable {K : PySem.W.Frag} {mg : Str → Option Value}
def gmAppend (_ : PV → PV) : PV → List PV → Option (PV × PV)
  | .lst xs, [y] => if xs.length < sizeLine then some (.lst (xs ++ [y]), .non) else none
  | _, _ => none
def gmPopAt (_ : PV → PV) : PV → List PV → Option (PV × PV)
  | .lst xs, [.int i] => if -(2 ^ 63) ≤ i ∧ i < 2 ^ 63 then (ixN xs.length i).bind fun k => xs[k]?.map fun y => (.lst (xs.eraseIdx k), y) else none
  | _, _ => none
theorem mo_append : MutOk K mg rAppend gmAppend := by
  intro a p p' z o args xs H et W Q c ho hc va h k
  unfold gmAppend at h
  split at h
  · rename_i ys y
    split at h
    · rename_i hl
      cases h
      obtain ⟨_, vs, e, rfl, h2⟩ := hc.lst rfl
      cases e
      unfold VRs at va
      obtain ⟨v, r, rfl, h3, h4⟩ := va
      unfold VRs at h4; subst h4
      exact ⟨a, vs, v, rfl, rfl, ho, by rw [← h2.len]; exact hl, k (.lst (vs ++ [v])) .non (VRs.append h2 (VRs.cons h3 VRs.nil)) VR.non⟩
    · cases h
  · cases h
theorem mo_popAt : MutOk K mg rPopAt gmPopAt := by
  intro a p p' z o args xs H et W Q c ho hc va h k
  unfold gmPopAt at h
  split at h
  · rename_i ys i
    split at h
    · rename_i hi
      cases e1 : ixN ys.length i with
      | none => rw [e1] at h; cases h
      | some j =>
        rw [e1] at h
        simp only [Option.bind_some] at h
        cases e2 : ys[j]? with
        | none => rw [e2] at h; cases h
        | some y =>
          rw [e2] at h; cases h
          obtain ⟨_, vs, e, rfl, h2⟩ := hc.lst rfl
          cases e
          unfold VRs at va
          obtain ⟨v, r, rfl, h3, h4⟩ := va
          unfold VRs at h4; subst h4
          unfold VR at h3; subst h3
          obtain ⟨v, h5, h6⟩ := VRs.get h2 e2
          exact ⟨a, vs, i, j, v, rfl, rfl, ho, hi.1, hi.2, by rw [← h2.len]; exact (ixN_seq e1).1, h5, k (.lst (vs.eraseIdx j)) v (VRs.erase j h2) h6⟩
    · cases h
  · cases h
end
abbrev FSpec := List PV → Hi → (PV → Hi → Prop) → Prop
def FS (K : PySem.W.Frag) (mg : Str → Option Value) (n : Nat) (sp : FSpec) : Sp := fun vs H Q _ => vs.length = n ∧ ∃ et W args R, Cel K mg H et W ∧ VRs K mg W H args vs ∧ sp args et R ∧
  ∀ p et', R p et' → ∀ v H' W', Ext NoO H et W H' et' W' → Cel K mg H' et' W' → VR K mg W' H' p v → Q v H'
def mCall (n : Nat) (sp : FSpec) (ms : EM (List PV)) : EM PV := fun ep et R => ms ep et fun as et1 => as.length = n ∧ sp as et1 R
section
variable {X : Cx} {k n : Nat} {f : Addr} {fd : FuncData} {ps : List Str} {sp : FSpec} {x : Str} {p pos : Pos} {e : Expr} {es : List Expr} {ms : EM (List PV)}
theorem sE_call (F : FnOk X.prog X.w X.K X.mg X.base CX0 k f fd ps (FS X.K X.mg n sp)) (hr : Room k X.A) (hg : Gl X x) (hm : X.mg x = some (.ref f)) (hk : PySem.W.keepIn X.K (.ref f) = true) (hb : Binds X.K fd ps [])
    (ha : SimA X (e :: es) ms) (hdb : (x == ("__debug__" : Str)) = false := by decide) (he : starEach (e :: es) X.env = (false, eval e X.env) :: starEach es X.env := by rfl) (hpl : (backTo pos (starEach es X.env)).any (·.1) = false := by rfl) :
    SimE X (.Call (.Name x p) (e :: es) [] pos) (mCall n sp ms) := weakE (pe_call F hr hg hm hk hb .nil pass0 ha hdb he hpl) fun σ H Q ⟨ep, et, W, R, c, s, e, q⟩ => by
  refine ⟨ep, et, W, _, c, s, e, fun as et1 r1 vs H1 W1 x1 c1 p1 => ?_⟩
  refine ⟨by rw [List.append_nil, ← p1.len]; exact r1.1, et1, W1, as, _, c1, by rw [List.append_nil]; exact p1, r1.2, fun p et2 r2 v H2 W2 x2 c2 p2 => ?_⟩
  exact q p et2 r2 v H2 W2 (x1.NoO_trans x2) c2 p2
def retK (R : PV → Hi → Prop) : Fl → En → Hi → Prop
  | .rt p, _, et => R p et
  | .nx, _, et => R .non et
  | _, _, _ => False
def env0 (N : List Str) (args : List PV) : En := args.map Slot.val ++ List.replicate (N.length - args.length) Slot.no
theorem slt0 {K : PySem.W.Frag} {mg : Str → Option Value} {H : Hp} {et : Hi} {W : Wd} {N : List Str} {args : List PV} {vs : List V} (h : VRs K mg W H args vs) : Slt K mg (L2.start N vs) (env0 N args) H et W := by
  have hl := h.len
  have noOwn : ∀ (i : Nat) (p : PV), (env0 N args)[i]? ≠ some (.own p) := fun i p e => by
    unfold env0 at e
    by_cases hi : i < args.length
    · rw [List.getElem?_append_left (by simpa using hi), List.getElem?_map, List.getElem?_eq_getElem hi] at e; cases e
    · rw [List.getElem?_append_right (by simpa using hi), List.getElem?_replicate] at e
      split at e <;> cases e
  refine ⟨?_, fun i s o e1 e2 => ?_, fun i j p q a e1 => absurd e1 (noOwn i p), fun a ⟨i, p, e, _⟩ => absurd e (noOwn i p), fun a ⟨i, p, e, _⟩ => absurd e (noOwn i p)⟩
  · unfold env0 L2.start
    simp only [List.length_append, List.length_map, List.length_replicate, hl]
  · unfold env0 at e1
    unfold L2.start at e2
    by_cases hi : i < args.length
    · rw [List.getElem?_append_left (by simpa using hi), List.getElem?_map, List.getElem?_eq_getElem hi] at e1
      cases e1
      obtain ⟨v, h1, h2⟩ := VRs.get h (List.getElem?_eq_getElem hi)
      rw [List.getElem?_append_left (by rw [List.length_map, ← hl]; exact hi), List.getElem?_map, h1] at e2
      cases e2
      exact ⟨v, rfl, h2⟩
    · rw [List.getElem?_append_right (by simpa using hi), List.getElem?_replicate] at e1
      split at e1
      · cases e1; trivial
      · cases e1
theorem fn_ok {P : Program} {w : World} {K : PySem.W.Frag} {mg : Str → Option Value} {base : Heap} {x qual : Str} {st : Stmt} {f : Addr} {fd : FuncData} {N ps : List Str} {k : Nat} {sp : FSpec} {m : SM} (F : Fun K x qual st f fd) (S : FnScope N ps (defScope st))
    (body : ∀ (cdv : Value) (A : Around) (outer : List Env) (s : Shared) (H : Hp) (E : XK), Room k (A.deeper (PyProof.Rows.envOfC qual (defScope st) s.heap.objs.size f cdv)) → SimSs (cxOf CX0 P w K mg base N qual (defScope st) f cdv A outer s H E).nox (defBody st) m)
    (h : ∀ args et R, sp args et R → m (env0 N args) et (retK R)) : FnOk P w K mg base CX0 (k + 1) f fd ps (FS K mg ps.length sp) := by
  refine F.ok S (fun vs H Q E q => q.1) fun cdv A outer s H vs Q E hr q => ⟨_, body cdv A outer s H E hr, ?_⟩
  obtain ⟨_, et, W, args, R, c, va, hs, q⟩ := q
  refine ⟨env0 N args, et, W, retK R, c, slt0 va, h args et R hs, fun fl ep' et' r σ' H' W' x' c' => ?_⟩
  have noOwn : ∀ a, ¬ Own (env0 N args) (L2.start N vs) a := fun a ⟨i, p, e, _⟩ => by
    unfold env0 at e
    by_cases hi : i < args.length
    · rw [List.getElem?_append_left (by simpa using hi), List.getElem?_map, List.getElem?_eq_getElem hi] at e; cases e
    · rw [List.getElem?_append_right (by simpa using hi), List.getElem?_replicate] at e
      split at e <;> cases e
  have x1 : Ext NoO H et W H' et' W' := x'.mono fun a h => absurd h (noOwn a)
  cases fl with
  | nx => exact fun _ _ => q .non et' r .non H' W' x1 c' VR.non
  | bk => exact r.elim
  | ct => exact r.elim
  | rt p => exact fun v hv => q p et' r v H' W' x1 c' hv
end
end Mw
namespace Mw
open PySem PySem.Spec L2
section
variable {K : PySem.W.Frag} {mg : Str → Option Value} {H : Hp} {et : Hi} {W : Wd}
def mShare (m : EM PV) : EM PV := fun ep et R => m ep et fun p et1 => ∃ c, cellP p = some c ∧ R (.ref et1.length) (et1 ++ [c])
abbrev Wd.shr (W : Wd) (a : Addr) : Wd := ⟨W.fz, W.mu ++ [a]⟩
theorem Cel.share (c : Cel K mg H et W) {a : Addr} {p : PV} {d : Cell} (hf : ¬ W.fz a) (hl : ¬ Live et W a) (ho : OwnAt K mg W H p a) (hd : cellP p = some d) :
    Cel K mg H (et ++ [d]) (W.shr a) ∧ (∀ b, Live (et ++ [d]) (W.shr a) b → Live et W b ∨ b = a) ∧ VR K mg (W.shr a) H (.ref et.length) (.ref a) ∧ (∀ q v, VR K mg W H q v → VR K mg (W.shr a) H q v) := by
  have hlen := c.len
  have x0 : Ext NoO H et W H et (W.shr a) := ⟨fun _ h => h, fun _ h => .inl h, ⟨[a], rfl⟩, fun b ⟨i, e, g1, g2, g3⟩ => by
    have g3' : (W.mu ++ [a])[i]? = some b := g3
    have : i < et.length := (List.getElem?_eq_some_iff.mp g1).1
    rw [List.getElem?_append_left (by omega)] at g3'
    exact .inl ⟨i, e, g1, g2, g3'⟩, fun _ _ h _ _ => h, fun _ h => h⟩
  have low : ∀ {k : Nat} {u : Cell} {b : Addr}, (et ++ [d])[k]? = some u → (W.mu ++ [a])[k]? = some b → (k < et.length ∧ et[k]? = some u ∧ W.mu[k]? = some b) ∨ (k = et.length ∧ u = d ∧ b = a) := fun {k u b} g1 g3 => by
    by_cases hk : k < et.length
    · rw [List.getElem?_append_left hk] at g1
      rw [List.getElem?_append_left (by omega)] at g3
      exact .inl ⟨hk, g1, g3⟩
    · have hk2 : k = et.length := by
        have := (List.getElem?_eq_some_iff.mp g1).1
        rw [List.length_append, List.length_singleton] at this
        omega
      subst hk2
      rw [List.getElem?_append_right (Nat.le_refl _)] at g1
      rw [hlen, List.getElem?_append_right (Nat.le_refl _)] at g3
      simp at g1 g3
      exact .inr ⟨rfl, g1.symm, g3.symm⟩
  have hlv : ∀ b, Live (et ++ [d]) (W.shr a) b → Live et W b ∨ b = a := fun b ⟨j, u, h1, h2, h3⟩ => by
    rcases low h1 h3 with ⟨_, a2, a3⟩ | ⟨_, _, e⟩
    · exact .inl ⟨j, u, a2, h2, a3⟩
    · exact .inr e
  refine ⟨⟨by show (et ++ [d]).length = (W.mu ++ [a]).length; simp [hlen], fun j u b h1 h2 => ?_, fun i j u w b h1 h2 h3 h4 h5 h6 => ?_, fun b h z => ?_, c.fzh⟩, hlv, ?_, fun q v h => VR.ext x0 c.stays0 q v h⟩
  · rcases low h1 h2 with ⟨_, a2, a3⟩ | ⟨_, rfl, rfl⟩
    · exact CellOk.ext x0 c.stays0 (c.ok j u b a2 a3) fun _ => rfl
    · unfold OwnAt at ho
      split at ho
      · cases hd; obtain ⟨vs, k1, k2⟩ := ho; exact ⟨vs, k1, VRs.ext x0 c.stays0 _ _ k2⟩
      · cases hd; obtain ⟨vs, k1, k2⟩ := ho; exact ⟨vs, k1, VRk.ext x0 c.stays0 _ _ k2⟩
      · cases ho
  · rcases low h1 h5 with ⟨a1, a2, a3⟩ | ⟨a1, _, a4⟩
    · rcases low h2 h6 with ⟨b1, b2, b3⟩ | ⟨b1, _, b4⟩
      · exact c.inj i j u w b a2 b2 h3 h4 a3 b3
      · subst b4; exact absurd ⟨i, u, a2, h3, a3⟩ hl
    · rcases low h2 h6 with ⟨b1, b2, b3⟩ | ⟨b1, _, b4⟩
      · subst a4; exact absurd ⟨j, w, b2, h4, b3⟩ hl
      · omega
  · rcases hlv b z with z | rfl
    · exact c.fzl b h z
    · exact hf h
  · unfold VR
    exact ⟨a, rfl, by show (W.mu ++ [a])[et.length]? = some a; rw [hlen]; simp⟩
end
section
variable {X : Cx} {e o i : Expr} {es : List Expr} {me mo mi : EM PV} {ms : EM (List PV)} {pos : Pos}
theorem sE_share (h : SimN X e me) : SimE X e (mShare me) := weakE h fun σ H Q ⟨ep, et, W, R, c, s, e, q⟩ => ⟨ep, et, W, _, c, s, e, fun p et1 r1 v H1 W1 x1 c1 p1 => by
  obtain ⟨d, hd, r2⟩ := r1
  obtain ⟨a, rfl, h0, hf, hl, ho⟩ := p1
  obtain ⟨c2, hlv, vr, _⟩ := c1.share hf hl ho hd
  refine q _ _ r2 _ H1 (W1.shr a) ⟨x1.fz, x1.nfz, ?_, fun b hb => ?_, x1.keep, x1.there⟩ c2 vr
  · obtain ⟨m, hm⟩ := x1.mu
    exact ⟨m ++ [a], by show W1.mu ++ [a] = _; rw [hm, List.append_assoc]⟩
  · rcases hlv b hb with z | rfl
    · exact x1.live b z
    · exact .inr h0⟩
def mMutR (g : (PV → PV) → PV → List PV → Option (PV × PV)) (mo : EM PV) (ms : EM (List PV)) : EM PV := fun ep et R => mo ep et fun q et1 => ∃ n, q = .ref n ∧ isLst (deref et1 (.ref n)) = true ∧ ms ep et1 fun as et2 =>
  ∃ p' z c, g (deref et2) (deref et2 (.ref n)) as = some (p', z) ∧ isLst (deref et2 (.ref n)) = true ∧ cellP p' = some c ∧ R z (et2.set n c)
section
variable {name : Str} {apos cpos : Pos} {id : String} {r : V → List V → Hp → VK → Prop} {g : (PV → PV) → PV → List PV → Option (PV × PV)}
theorem mutR_fin (hg : MutOk X.K X.mg r g) {σ : L2.St} {H : Hp} {Q : VK} {ep : En} {et : Hi} {W : Wd} {R : PV → Hi → Prop} (c : Cel X.K X.mg H et W) (s : Slt X.K X.mg σ ep H et W) {q0 : PV} {v : V} (hv : VR X.K X.mg W H q0 v)
    (hm : ∃ n, q0 = .ref n ∧ isLst (deref et (.ref n)) = true ∧ ms ep et fun as et2 => ∃ p' z c, g (deref et2) (deref et2 (.ref n)) as = some (p', z) ∧ isLst (deref et2 (.ref n)) = true ∧ cellP p' = some c ∧ R z (et2.set n c))
    (q : ∀ a et', R a et' → ∀ v H' W', Ext NoO H et W H' et' W' → Cel X.K X.mg H' et' W' → VR X.K X.mg W' H' a v → Q v H') :
    tyV X.K "list" v H ∧ ∃ R', ms ep et R' ∧ ∀ as et1, R' as et1 → ∀ vs H1 W1, Ext NoO H et W H1 et1 W1 → Cel X.K X.mg H1 et1 W1 → VRs X.K X.mg W1 H1 as vs → r v vs H1 Q := by
  obtain ⟨n, rfl, hl, hm⟩ := hm
  obtain ⟨xs, hn, hd⟩ := deref_cell hl
  obtain ⟨a, ws, rfl, k1, k2⟩ := Pk.lst c (.inl hv) hd
  have hma : W.mu[n]? = some a := by unfold VR at hv; obtain ⟨b, e, h⟩ := hv; cases e; exact h
  refine ⟨.inl ⟨rfl, ws, SqL.of k1⟩, _, hm, fun as et1 r1 vs H1 W1 x1 c1 p1 => ?_⟩
  obtain ⟨p', z, cc, h1, h2, h3, r2⟩ := r1
  obtain ⟨xs1, hn1, hd1⟩ := deref_cell h2
  have hv1 := VR.ext x1 c.stays0 _ _ hv
  obtain ⟨a', ws1, ea, k3, k4⟩ := Pk.lst c1 (.inl hv1) hd1
  cases ea
  rw [hd1] at h1
  refine hg a _ p' z _ as vs H1 et1 W1 Q c1 k3 (show Cont X.K X.mg W1 H1 (.lst xs1) (.lst ws1) from k4) p1 h1 fun o' v hc' hv' => ?_
  obtain ⟨x2, c2, vr2⟩ := cell_write (d' := cc) (o := o') c1 hn1 (by simp) (by
    cases p' <;> first | (cases h3; done) | (cases h3; simp)) (x1.mu_get hma) fun H2 et2 xx ha => hc'.cell h3 (fun ps vs h => VRs.ext xx c1.stays0 _ _ h) (fun ps vs h => VRk.ext xx c1.stays0 _ _ h) ha
  exact q z _ r2 v _ W1 (x1.NoO_trans x2) c2 (vr2 _ _ hv')
theorem sE_mutR (hg : MutOk X.K X.mg r g) (ho : SimE X o mo) (ha : SimA X (e :: es) ms)
    (h : ∀ {to : TE} {t : TA}, PE X o to → PA X (e :: es) t → PE X (.Call (.Attribute o name apos) (e :: es) [] cpos) (tBM X.K "list" r to t)) :
    SimE X (.Call (.Attribute o name apos) (e :: es) [] cpos) (mMutR g mo ms) := weakE (h ho ha) fun σ H Q ⟨ep, et, W, R, c, s, e, q⟩ => by
  refine ⟨ep, et, W, _, c, s, e, fun p et1 r1 v H1 W1 x1 c1 p1 => ?_⟩
  have s1 := s.ext c x1
  obtain ⟨h2, R', h3, h4⟩ := mutR_fin hg (Q := Q) c1 s1 p1 r1 fun a et' r v H' W' x' c' p' => q a et' r v H' W' (x1.NoO_trans x') c' p'
  exact ⟨h2, ep, et1, W1, R', c1, s1, h3, h4⟩
end
def mSubSet (me mo mi : EM PV) : SM := fun ep et R => me ep et fun v et1 => mo ep et1 fun q et2 => mi ep et2 fun k et3 => ∃ n xs i j, q = .ref n ∧ et3[n]? = some (.lst xs) ∧ k = .int i ∧ ixN xs.length i = some j ∧ R .nx ep (et3.set n (.lst (xs.set j v)))
theorem s_subSet {p2 : Pos} (he : SimE X e me) (ho : SimE X o mo) (hi : SimE X i mi)
    (h : ∀ {te to ti : TE}, PE X e te → PE X o to → PE X i ti → PS X (.Assign [.Subscript o i p2] e pos) (tAsg te (L2.gSub to ti rSetL))) : SimS X (.Assign [.Subscript o i p2] e pos) (mSubSet me mo mi) :=
  weakS (h he ho hi) fun D σ H ⟨ep, et, W, R, c, s, e, q⟩ => by
  refine ⟨ep, et, W, _, c, s, e, fun p et1 r1 v H1 W1 x1 c1 p1 => ⟨ep, et1, W1, _, c1, s.ext c x1, r1, fun p' et2 r2 u H2 W2 x2 c2 p2 => ⟨ep, et2, W2, _, c2, s.ext c (x1.NoO_trans x2), r2, fun p3 et3 r3 w H3 W3 x3 c3 p4 => ?_⟩⟩⟩
  obtain ⟨n, xs, i, j, rfl, hn, rfl, hj, r4⟩ := r3
  have v3 : VR X.K X.mg W3 H3 p v := VR.ext (x2.NoO_trans x3) c1.stays0 _ _ p1
  have u3 : VR X.K X.mg W3 H3 (.ref n) u := VR.ext x3 c2.stays0 _ _ p2
  have w3 : VR X.K X.mg W3 H3 (.int i) w := p4
  unfold VR at u3 w3
  subst w3
  obtain ⟨a, rfl, hm⟩ := u3
  obtain ⟨ws, k1, k2⟩ := c3.ok n _ a hn hm
  refine ⟨a, ws, i, j, rfl, rfl, k1, by rw [← k2.len]; exact hj, ?_⟩
  have x13 := (x1.NoO_trans x2).NoO_trans x3
  obtain ⟨x4, c4, vr4⟩ := cell_write (d' := .lst (xs.set j p)) (o := .lst (ws.set j v)) c3 hn (by simp) (by simp) hm fun H4 et4 xx ha => ⟨_, ha, VRs.ext xx c3.stays0 _ _ (VRs.set j k2 v3)⟩
  exact q .nx ep _ r4 σ _ W3 (Ext.to (x13.NoO_trans x4)) c4 ((s.ext c x13).ext c3 x4) fun a h => .inl h
end
end Mw
namespace Mw
open PySem PySem.Spec L2
section
variable {X : Cx} {m : EM PV} {e : Expr} {pos : Pos}
theorem pts_if {Y : Cx} {c : Expr} {t : EM Bool} (h : SimT Y c t) : PTs Y [c] (tT Y.K Y.mg t) := pts_one h
def gSlA (p : PV) (lo hi : Option Int) : Option PV := match p with
  | .tup xs => some (.tup (cutP xs lo hi))
  | .str x => if x.length ≤ sizeLine then some (.str (cutS x lo hi)) else none
  | .lst xs => some (.lst (cutP xs lo hi))
  | .scr xs => some (.lst ((cutP xs lo hi).map .int))
  | _ => none
def rSlAll (K : PySem.W.Frag) : V → Option Int → Option Int → Hp → VK → Prop := fun x lo hi H Q => rSlTS K x lo hi H Q ∨ rSlL K x lo hi H Q
theorem oS_all {K : PySem.W.Frag} {mg : Str → Option Value} : OpSl K mg (rSlAll K) gSlA (pV K mg) := by
  intro x lo hi H et W p z Q c hp hz k
  cases q : deref et p with
  | lst xs =>
    rw [q] at hz; cases hz
    obtain ⟨a, vs, rfl, h1, h2⟩ := hp.lst c q
    refine .inr ⟨a, vs, rfl, SqL.of h1, fun t ht => ?_⟩
    obtain ⟨x1, c1, r1⟩ := new_lst c ht (h2.cut lo hi)
    exact k _ _ _ x1 c1 r1
  | scr xs =>
    rw [q] at hz; cases hz
    obtain ⟨a, rfl, h1⟩ := hp.scr q
    refine .inr ⟨a, _, rfl, h1.sq, fun t ht => ?_⟩
    rw [cutV_map]
    obtain ⟨x1, c1, r1⟩ := new_lst c ht (VRs.ints (cutP xs lo hi))
    exact k _ _ _ x1 c1 r1
  | tup xs => exact .inl (oS_ts x lo hi H et W p z Q c hp (by rw [q] at hz ⊢; exact hz) k)
  | str xs => exact .inl (oS_ts x lo hi H et W p z Q c hp (by rw [q] at hz ⊢; exact hz) k)
  | _ => rw [q] at hz; cases hz
theorem sE_slA {a : Expr} {lo hi : Option Expr} {p2 pos : Pos} {ma : EM PV} {ml mh : EM (Option Int)} (ha : SimP X a ma) (hl : SimO X lo ml) (hh : SimO X hi mh) : SimE X (.Subscript a (.Slice lo hi none p2) pos) (mSl gSlA ma ml mh) :=
  sl_weak early_V ((sl_tupX.or sl_str).or sl_list) oS_all ha hl hh
end
theorem _root_.L2.Room.h64 {k : Nat} {A : Around} (r : Room k A) : A.units + 64 < cLine := by have := r.un; omega
theorem _root_.L2.Room.h65 {k : Nat} {A : Around} (r : Room k A) : A.units + 65 < cLine := by have := r.un; omega
theorem _root_.L2.Room.h1 {k : Nat} {A : Around} (r : Room k A) : A.units + 1 < cLine := by have := r.un; omega
def mChainT (g g' : PV → PV → Option PV) (ma mb mc : EM PV) : EM Bool := fun ep et R => ma ep et fun a et1 => mb ep et1 fun b et2 => ∃ z, g (deref et2 a) (deref et2 b) = some (.bl z) ∧
  if z = true then mc ep et2 fun d et3 => ∃ y, g' (deref et3 b) (deref et3 d) = some (.bl y) ∧ R y et3 else R false et2
theorem sT_chain {X : Cx} {a b d : Expr} {op op' : CmpOp} {pos : Pos} {ma mb mc : EM PV} {R R' : R2} {g g' : PV → PV → Option PV} (ho : OpR X (compareOp op) R) (ho' : OpR X (compareOp op') R') (hg : Op2 X.K X.mg R g (pV X.K X.mg)) (hg' : Op2 X.K X.mg R' g' (pV X.K X.mg))
    (ha : SimP X a ma) (hb : SimP X b mb) (hc : SimP X d mc) (h : ∀ {ta tb tc : TE}, PE X a ta → PE X b tb → PE X d tc → PT X (.Compare a [op, op'] [b, d] pos) (tTest (tChain R R' ta tb tc))) : SimT X (.Compare a [op, op'] [b, d] pos) (mChainT g g' ma mb mc) := weakT (h ha hb hc) fun σ H Q ⟨ep, et, W, R0, c, s, e, q⟩ => by
  refine ⟨ep, et, W, _, c, s, e, fun p et1 r1 v H1 W1 x1 c1 p1 => ⟨ep, et1, W1, _, c1, s.ext c x1, r1, fun p' et2 r2 u H2 W2 x2 c2 p2 => ?_⟩⟩
  obtain ⟨z, hz, r3⟩ := r2
  refine hg v u H2 et2 W2 p p' _ _ c2 (Pk.ext x2 c1 p1) p2 hz fun w H3 W3 x3 c3 p3 => ?_
  have p4 : VR X.K X.mg W3 H3 (.bl z) w := p3
  unfold VR at p4
  refine ⟨z, p4, ?_⟩
  have x13 := (x1.NoO_trans x2).NoO_trans x3
  cases z with
  | false => exact ⟨_, rfl, q _ et2 (by simpa using r3) H3 W3 x13 c3⟩
  | true =>
    rw [if_pos rfl] at r3
    refine ⟨ep, et2, W3, _, c3, s.ext c x13, r3, fun p5 et4 r4 v4 H4 W4 x4 c4 p6 => ?_⟩
    obtain ⟨y, hy, r5⟩ := r4
    refine hg' u v4 H4 et4 W4 p' p5 _ _ c4 (Pk.ext (x3.NoO_trans x4) c2 p2) p6 hy fun w5 H5 W5 x5 c5 p7 => ?_
    have p8 : VR X.K X.mg W5 H5 (.bl y) w5 := p7
    unfold VR at p8
    exact ⟨y, p8, q y et4 r5 H5 W5 ((x13.NoO_trans x4).NoO_trans x5) c5⟩
theorem two_par {X : Cx} {i j : Nat} {x y : Str} {a b : Expr} {px py pt pos : Pos} {kt k2 pt2} (hc : X.calm = true) (hN : X.N.Nodup) (hi : X.N[i]? = some x) (hj : X.N[j]? = some y) (hij : i ≠ j)
    (h : ∀ {ta : TA}, PA X [a, b] ta → PS X (.Assign [.Tuple [.Name x px, .Name y py] kt pt] (.Tuple [a, b] k2 pt2) pos) (tPar i j ta)) {ms : EM (List PV)} (ha : SimA X [a, b] ms) :
    SimS X (.Assign [.Tuple [.Name x px, .Name y py] kt pt] (.Tuple [a, b] k2 pt2) pos) (mPar i j ms) := s_par hc hN hi hj hij ha h
end Mw
namespace Mw
open PySem PySem.Spec L2
structure Glob (K : PySem.W.Frag) (mg : Str → Option Value) (x : Str) (p : PV) : Prop where
  at_ : ∃ u v, mg x = some u ∧ RelV v u ∧ ∀ W H, VR K mg W H p v
theorem Glob.e {X : Cx} {x : Str} {p : PV} {pos : Pos} (g : Glob X.K X.mg x p) (hg : Gl X x) (hd : (x == ("__debug__" : Str)) = false := by decide) : SimE X (.Name x pos) (mC p) := by
  obtain ⟨u, v, h1, h2, h3⟩ := g.at_
  exact sE_glob hg h1 h2 h3 hd
section
variable {K : PySem.W.Frag} {mg : Str → Option Value}
theorem Glob.int {x : Str} {i : Int} {t : Tok} (h : mg x = some (.int i t)) : Glob K mg x (.int i) := ⟨_, .int i, h, ⟨t, rfl⟩, fun _ _ => VR.int⟩
theorem Glob.str {x : Str} {i : Str} {t : Tok} (h : mg x = some (.str i t)) : Glob K mg x (.str i) := ⟨_, .str i, h, ⟨t, rfl⟩, fun _ _ => VR.str⟩
def flatC : PV → Option V
  | .non => some .non
  | .bl b => some (.bl b)
  | .int i => some (.int i)
  | .str x => some (.str x)
  | _ => none
def flatCs : List PV → Option (List V)
  | [] => some []
  | p :: ps => (flatC p).bind fun v => (flatCs ps).map fun vs => v :: vs
theorem flatC_ok {p : PV} {v : V} (h : flatC p = some v) (W : Wd) (H : Hp) : VR K mg W H p v := by
  cases p <;> first | (cases h; done) | (cases h; unfold VR; rfl)
theorem flatCs_ok (W : Wd) (H : Hp) : ∀ {ps : List PV} {vs : List V}, flatCs ps = some vs → VRs K mg W H ps vs
  | [], vs, h => by cases h; exact VRs.nil
  | p :: ps, vs, h => by
    unfold flatCs at h
    cases e : flatC p with
    | none => rw [e] at h; cases h
    | some v =>
      rw [e] at h
      simp only [Option.bind_some] at h
      cases e2 : flatCs ps with
      | none => rw [e2] at h; cases h
      | some r => rw [e2] at h; cases h; exact VRs.cons (flatC_ok e W H) (flatCs_ok W H e2)
theorem Glob.tup {x : Str} {ps : List PV} {vs : List V} {a : Addr} {us : List Value} {n : Nat} {sl : Array (Option Value)} (h : mg x = some (.ref a)) (hk : K.lookup a = some ⟨.type "tuple", none, .seq us.toArray n, sl⟩)
    (hz : us.length ≤ 1000) (hf : flatCs ps = some vs) (hv : us.map absV = vs.map some) (hr : Vals vs us) : Glob K mg x (.tup ps) := ⟨_, .ref a, h, rfl, fun W H => by
  unfold VR
  refine ⟨a, vs, rfl, .inr ⟨_, us.toArray, n, hk, rfl, rfl, rfl, ?_, hr⟩, flatCs_ok W H hf⟩
  have : us.length ≤ sizeLine := Nat.le_of_lt (small1000 hz)
  simpa using this⟩
def gNeg : PV → Option PV
  | .int i => some (.int (-i))
  | _ => none
theorem oU_neg : Op1 K mg (rU fun i => .int (-i)) gNeg (pV K mg) := by
  intro x H et W p z Q c hp hz k
  unfold gNeg at hz
  split at hz
  · rename_i i e; cases hz; exact ⟨i, hp.int e, k _ H W (Ext.refl ..) c VR.int⟩
  · cases hz
def OpM (K : PySem.W.Frag) (mg : Str → Option Value) (R : V → List V → Hp → VK → Prop) (g : PV → List PV → Option PV) (P : Post PV) : Prop :=
  ∀ (x : V) (xs : List V) (H : Hp) (et : Hi) (W : Wd) (p : PV) (ps : List PV) (z : PV) (Q : VK), Cel K mg H et W → Pk K mg p x H et W → Pks K mg ps xs H et W → g (deref et p) (ps.map (deref et)) = some z →
    (∀ v H' W', Ext NoO H et W H' et W' → Cel K mg H' et W' → P z v H et W H' et W' → Q v H') → R x xs H Q
def tyM : Ty → PV → Bool
  | .str, .str _ => true
  | .lst, .lst _ => true
  | .dic, .dic _ => true
  | .tup, .tup _ => true
  | _, _ => false
theorem tyM_ok {t : Ty} {p : PV} {v : V} {H : Hp} {et : Hi} {W : Wd} (ht : t ≠ .tup) (c : Cel K mg H et W) (hp : Pk K mg p v H et W) (h : tyM t (deref et p) = true) : tyV K t.name v H := by
  unfold tyM at h
  split at h
  · rename_i s e; rw [hp.str e]; rfl
  · rename_i s e; obtain ⟨a, vs, rfl, h1, _⟩ := hp.lst c e; exact .inl ⟨rfl, vs, SqL.of h1⟩
  · rename_i s e; obtain ⟨a, vs, rfl, h1, _⟩ := hp.dic c e; exact .inr (.inr (.inl ⟨rfl, .inl ⟨vs, h1⟩⟩))
  · exact absurd rfl ht
  · cases h
def mMeth (t : Ty) (g : PV → List PV → Option PV) (mo : EM PV) (ms : EM (List PV)) : EM PV := fun ep et R => mo ep et fun p et1 => tyM t (deref et1 p) = true ∧ ms ep et1 fun ps et2 => ∃ z, g (deref et2 p) (ps.map (deref et2)) = some z ∧ R z et2
section
variable {X : Cx} {o e : Expr} {es : List Expr} {mo : EM PV} {ms : EM (List PV)} {name : Str} {apos cpos : Pos} {t : Ty} {R : V → List V → Hp → VK → Prop} {g : PV → List PV → Option PV}
theorem sE_bm (hg : OpM X.K X.mg R g (pV X.K X.mg)) (ho : SimP X o mo) (ha : SimAP X (e :: es) ms) (h : ∀ {to : TE} {ta : TA}, PE X o to → PA X (e :: es) ta → PE X (.Call (.Attribute o name apos) (e :: es) [] cpos) (tBM X.K t.name R to ta)) (ht : t ≠ .tup := by decide) :
    SimE X (.Call (.Attribute o name apos) (e :: es) [] cpos) (mMeth t g mo ms) := weakE (h ho ha) fun σ H Q ⟨ep, et, W, R0, c, s, e, q⟩ => by
  refine ⟨ep, et, W, _, c, s, e, fun p et1 r1 v H1 W1 x1 c1 p1 => ?_⟩
  refine ⟨tyM_ok ht c1 p1 r1.1, ep, et1, W1, _, c1, s.ext c x1, r1.2, fun ps et2 r2 vs H2 W2 x2 c2 p2 => ?_⟩
  obtain ⟨z, hz, r3⟩ := r2
  refine hg v vs H2 et2 W2 p ps z Q c2 (Pk.ext x2 c1 p1) p2 hz fun w H3 W3 x3 c3 p3 => ?_
  exact q z et2 r3 w H3 W3 ((x1.NoO_trans x2).NoO_trans x3) c3 p3
end
def strsP : List PV → Option (List Str)
  | [] => some []
  | .str x :: r => (strsP r).map (x :: ·)
  | _ => none
theorem VRs.strsP {H : Hp} {W : Wd} : ∀ {ps : List PV} {vs : List V} {bs : List Str}, VRs K mg W H ps vs → strsP ps = some bs → vs = bs.map V.str
  | [], vs, bs, h, e => by unfold VRs at h; cases e; exact h
  | p :: ps, vs, bs, h, e => by
    unfold VRs at h
    obtain ⟨v, r, rfl, h1, h2⟩ := h
    cases p <;> first | (cases e; done) | (
      unfold Mw.strsP at e
      cases q : Mw.strsP ps with
      | none => rw [q] at e; cases e
      | some bs' =>
        rw [q] at e; cases e
        unfold VR at h1
        rw [h1, VRs.strsP h2 q]; rfl)
def gJoin : PV → List PV → Option PV
  | .str a, [.lst xs] => (strsP xs).bind fun ys => if (ys.map (·.length)).sum + ys.length * a.length ≤ 16777216 then some (.str (Txt.join a ys)) else none
  | .str a, [.tup xs] => (strsP xs).bind fun ys => if (ys.map (·.length)).sum + ys.length * a.length ≤ 16777216 then some (.str (Txt.join a ys)) else none
  | _, _ => none
def gStripChars : PV → List PV → Option PV
  | .str a, [.str b] => if a.length ≤ sizeLine then some (.str (Txt.stripChars a b)) else none
  | _, _ => none
theorem oM_stripChars : OpM K mg (fun x xs H Q => ∃ a b, x = .str a ∧ xs = [.str b] ∧ a.length ≤ sizeLine ∧ Q (.str (Txt.stripChars a b)) H) gStripChars (pV K mg) := by
  intro x xs H et W p ps z Q c hp hps hz k
  unfold gStripChars at hz
  split at hz
  · rename_i a b e1 e2
    split at hz
    · rename_i hl
      cases hz
      obtain ⟨p', rfl, e4⟩ := map1 e2
      obtain ⟨v, rfl, h1⟩ := hps.one
      exact ⟨a, b, hp.str e1, by rw [h1.str e4], hl, k _ H W (Ext.refl ..) c VR.str⟩
    · cases hz
  · cases hz
end
section
variable {X : Cx} {e a b : Expr} {me ma mb mi : EM PV} {pos : Pos}
end
end Mw
namespace Mw
open PySem PySem.Spec L2
mutual
def dok : PV → Bool
  | .non => true
  | .bl _ => true
  | .int _ => true
  | .str x => PyData.strOk x
  | .tup xs => doks xs
  | .lst xs => doks xs
  | _ => false
def doks : List PV → Bool
  | [] => true
  | x :: xs => dok x && doks xs
end
mutual
def dpt : PV → Nat
  | .tup xs => dpts xs + 1
  | .lst xs => dpts xs + 1
  | _ => 0
def dpts : List PV → Nat
  | [] => 0
  | x :: xs => max (dpt x) (dpts xs)
end
mutual
def peq : PV → PV → Bool
  | .non, .non => true
  | .bl a, .bl b => a == b
  | .bl a, .int j => (if a then 1 else 0) == j
  | .int i, .bl b => i == (if b then 1 else 0)
  | .int i, .int j => i == j
  | .str x, .str y => x == y
  | .lst xs, .lst ys => peqs xs ys
  | .tup xs, .tup ys => peqs xs ys
  | _, _ => false
def peqs : List PV → List PV → Bool
  | [], [] => true
  | x :: xs, y :: ys => peq x y && peqs xs ys
  | _, _ => false
end
mutual
theorem dok_dat : ∀ (p : PV), dok p = true → ∃ d, dat p = some d ∧ PyData.canLay0 d = true ∧ PyData.depth d = dpt p
  | .non, h => ⟨_, rfl, rfl, rfl⟩
  | .bl b, h => ⟨_, rfl, rfl, rfl⟩
  | .int i, h => ⟨_, rfl, rfl, rfl⟩
  | .str x, h => ⟨_, rfl, by simpa [dok, PyData.canLay0] using h, rfl⟩
  | .tup xs, h => by
    obtain ⟨ds, h1, h2, h3⟩ := doks_dats xs (by simpa [dok] using h)
    exact ⟨.tuple ds, by simp [dat, h1], by simpa [PyData.canLay0] using h2, by simp [PyData.depth, dpt, h3]⟩
  | .lst xs, h => by
    obtain ⟨ds, h1, h2, h3⟩ := doks_dats xs (by simpa [dok] using h)
    exact ⟨.list ds, by simp [dat, h1], by simpa [PyData.canLay0] using h2, by simp [PyData.depth, dpt, h3]⟩
  | .dic _, h => by simp [dok] at h
  | .scr _, h => by simp [dok] at h
  | .ref _, h => by simp [dok] at h
  | .glo _, h => by simp [dok] at h
  | .ty _, h => by simp [dok] at h
  | .dik _, h => by simp [dok] at h
theorem doks_dats : ∀ (ps : List PV), doks ps = true → ∃ ds, dats ps = some ds ∧ PyData.canLayAll0 ds = true ∧ PyData.depthAll ds = dpts ps
  | [], h => ⟨[], rfl, rfl, rfl⟩
  | p :: ps, h => by
    simp only [doks, Bool.and_eq_true] at h
    obtain ⟨d, h1, h2, h3⟩ := dok_dat p h.1
    obtain ⟨ds, h4, h5, h6⟩ := doks_dats ps h.2
    exact ⟨d :: ds, by simp [dats, h1, h4], by simp [PyData.canLayAll0, h2, h5], by simp [PyData.depthAll, dpts, h3, h6]⟩
end
mutual
theorem peq_dat : ∀ (p q : PV) (d e : PyData), dat p = some d → dat q = some e → PyData.eqv d e = peq p q
  | p, q, d, e, h, h' => by
    cases p <;> simp only [dat, Option.some.injEq, Option.map_eq_some_iff, reduceCtorEq] at h
    all_goals (cases q <;> simp only [dat, Option.some.injEq, Option.map_eq_some_iff, reduceCtorEq] at h')
    all_goals first
      | (subst h; subst h'; simp [PyData.eqv, peq]; done)
      | (obtain ⟨ds, h1, rfl⟩ := h; subst h'; simp [PyData.eqv, peq]; done)
      | (subst h; obtain ⟨es, h2, rfl⟩ := h'; simp [PyData.eqv, peq]; done)
      | (obtain ⟨ds, h1, rfl⟩ := h; obtain ⟨es, h2, rfl⟩ := h'; first | (simp [PyData.eqv, peq]; done) | (simp only [PyData.eqv, peq]; exact peqs_dats _ _ _ _ h1 h2))
theorem peqs_dats : ∀ (ps qs : List PV) (ds es : List PyData), dats ps = some ds → dats qs = some es → PyData.eqvAll ds es = peqs ps qs
  | [], [], ds, es, h, h' => by simp only [dats, Option.some.injEq] at h h'; subst h; subst h'; simp [PyData.eqvAll, peqs]
  | [], q :: qs, ds, es, h, h' => by
    simp only [dats, Option.some.injEq] at h; subst h
    simp only [dats, Option.bind_eq_some_iff, Option.map_eq_some_iff] at h'
    obtain ⟨d, h1, ds', h2, rfl⟩ := h'
    simp [PyData.eqvAll, peqs]
  | p :: ps, [], ds, es, h, h' => by
    simp only [dats, Option.some.injEq] at h'; subst h'
    simp only [dats, Option.bind_eq_some_iff, Option.map_eq_some_iff] at h
    obtain ⟨d, h1, ds', h2, rfl⟩ := h
    simp [PyData.eqvAll, peqs]
  | p :: ps, q :: qs, ds, es, h, h' => by
    simp only [dats, Option.bind_eq_some_iff, Option.map_eq_some_iff] at h h'
    obtain ⟨d, h1, ds', h2, rfl⟩ := h
    obtain ⟨e, h3, es', h4, rfl⟩ := h'
    simp only [PyData.eqvAll, peqs]
    rw [peq_dat p q d e h1 h3, peqs_dats ps qs ds' es' h2 h4]
end
theorem eqB_peq {p q : PV} (hp : dok p = true) (hq : dok q = true) (h1 : dpt p ≤ 64) (h2 : dpt q ≤ 64) : eqB p q = some (peq p q) := by
  obtain ⟨d, e1, e2, e3⟩ := dok_dat p hp
  obtain ⟨e, f1, f2, f3⟩ := dok_dat q hq
  have sd : SeqAt.shaped d = true := by simp [SeqAt.shaped, e2, e3, h1]
  have se : SeqAt.shaped e = true := by simp [SeqAt.shaped, f2, f3, h2]
  have hv := peq_dat p q d e e1 f1
  unfold eqB
  split <;> first | (simp [peq, Bool.beq_eq_decide_eq]; done) | (rw [e1, f1]; simp only [sd, se, and_self, if_true, hv])
theorem peqs_nil (xs : List PV) : peqs xs [] = xs.isEmpty := by cases xs <;> simp [peqs]
theorem gNe_nil {xs : List PV} (h : doks xs = true) (h1 : dpts xs ≤ 63) : gNe (.lst xs) (.lst []) = some (.bl (!xs.isEmpty)) := by
  unfold gNe
  rw [eqB_peq (by simpa [dok] using h) (by simp [dok, doks]) (by simp [dpt]; omega) (by simp [dpt, dpts])]
  simp [peq, peqs_nil]
theorem doks_ints (is : List Int) : doks (is.map .int) = true ∧ dpts (is.map .int) = 0 := by
  induction is with
  | nil => simp [doks, dpts]
  | cons i is ih => simp [doks, dpts, dok, dpt, ih]
theorem Live.set {et : Hi} {W : Wd} {i : Nat} {c d : Cell} (h : et[i]? = some c) (hc : c ≠ .dead) (hd : d ≠ .dead) (a : Addr) : Live (et.set i d) W a ↔ Live et W a := by
  constructor
  · rintro ⟨j, u, h1, h2, h3⟩
    rcases getset h1 with ⟨e, _, _⟩ | ⟨_, h1⟩
    · exact ⟨i, c, h, hc, e ▸ h3⟩
    · exact ⟨j, u, h1, h2, h3⟩
  · rintro ⟨j, u, h1, h2, h3⟩
    by_cases e : j = i
    · subst e
      exact ⟨j, d, by rw [List.getElem?_set_self (List.getElem?_eq_some_iff.mp h).1], hd, h3⟩
    · exact ⟨j, u, by rw [List.getElem?_set_ne (Ne.symm e)]; exact h1, h2, h3⟩
theorem Cel.recell {K : PySem.W.Frag} {mg : Str → Option Value} {H : Hp} {et : Hi} {W : Wd} (c : Cel K mg H et W) {i : Nat} {d d' : Cell} (h : et[i]? = some d) (hd : d ≠ .dead) (hd' : d' ≠ .dead) (ho : ∀ a, W.mu[i]? = some a → CellOk K mg W H d a → CellOk K mg W H d' a) : Cel K mg H (et.set i d') W := by
  refine ⟨by rw [List.length_set]; exact c.len, fun j u b h1 h2 => ?_, fun j k u w b h1 h2 h3 h4 h5 h6 => ?_, fun b hb z => c.fzl b hb ((Live.set h hd hd' b).mp z), c.fzh⟩
  · rcases getset h1 with ⟨rfl, rfl, _⟩ | ⟨_, h1⟩
    · exact ho b h2 (c.ok _ d b h h2)
    · exact c.ok j u b h1 h2
  · have g : ∀ {k : Nat} {u : Cell}, (et.set i d')[k]? = some u → u ≠ .dead → ∃ u', et[k]? = some u' ∧ u' ≠ .dead := fun {k u} h0 hu => by
      rcases getset h0 with ⟨e, _, _⟩ | ⟨_, h0⟩
      · exact ⟨d, e ▸ h, hd⟩
      · exact ⟨u, h0, hu⟩
    obtain ⟨u1, g1, g2⟩ := g h1 h3
    obtain ⟨u2, g3, g4⟩ := g h2 h4
    exact c.inj j k u1 u2 b g1 g3 g2 g4 h5 h6
theorem Ext.live_iff {O : Addr → Prop} {H H' : Hp} {et et' e2 e2' : Hi} {W W' : Wd} (x : Ext O H et W H' et' W') (h : ∀ a, Live e2 W a ↔ Live et W a) (h' : ∀ a, Live e2' W' a ↔ Live et' W' a) : Ext O H e2 W H' e2' W' :=
  ⟨x.fz, x.nfz, x.mu, fun a z => (x.live a ((h' a).mp z)).imp_left (h a).mpr, fun a o e hl hO => x.keep a o e (fun z => hl ((h a).mpr z)) hO, x.there⟩
section
variable {K : PySem.W.Frag} {mg : Str → Option Value}
def spTakeC : FSpec := fun args et R => ∃ (r k : Nat) (m sd ct : Int) (is : List Int), args = [.ref r, .int m] ∧ r ≠ k ∧ et[r]? = some (.lst [.ref k, .int sd, .int ct]) ∧ et[k]? = some (.lst (is.map .int)) ∧ (∀ i ∈ is, 0 ≤ i) ∧
  0 ≤ sd ∧ sd < 2305843009213693951 ∧ 0 ≤ ct ∧ ct < 1099511627776 ∧ 0 < m ∧ m < 1073741824 ∧
  ∀ (d ct' : Int) (is' : List Int), 0 ≤ d → d < m → 0 ≤ ct' → ct' ≤ ct + 1 → (∀ i ∈ is', 0 ≤ i) → R (.int d) ((et.set k (.lst (is'.map .int))).set r (.lst [.ref k, .int sd, .int ct']))
def spTake : FSpec := fun args et R => ∃ (r k n : Nat) (m : Int), args = [.ref r, .int m] ∧ r ≠ k ∧ et[r]? = some (.potO k (n + 1)) ∧ et[k]? = some .potI ∧ 0 < m ∧ m < 1073741824 ∧
  ∀ d : Int, 0 ≤ d → d < m → R (.int d) (et.set r (.potO k n))
theorem VRs.ints_eq {W : Wd} {H : Hp} : ∀ {is : List Int} {vs : List V}, VRs K mg W H (is.map .int) vs → vs = is.map V.int
  | [], vs, h => by unfold List.map at h; unfold VRs at h; exact h
  | i :: is, vs, h => by
    rw [List.map_cons] at h
    unfold VRs at h
    obtain ⟨v, t, rfl, h1, h2⟩ := h
    unfold VR at h1
    subst h1
    rw [List.map_cons, VRs.ints_eq h2]
theorem take_imp {vs : List V} {H : Hp} {Q : VK} {E : XK} (h : FS K mg 2 spTake vs H Q E) : FS K mg 2 spTakeC vs H Q E := by
  obtain ⟨hl, et, W, args, R, c, va, ⟨r, k, n, m, rfl, hrk, hr, hk, hm, hm2, hR⟩, q⟩ := h
  have hlr : r < W.mu.length := by rw [← c.len]; exact (List.getElem?_eq_some_iff.mp hr).1
  have hlk : k < W.mu.length := by rw [← c.len]; exact (List.getElem?_eq_some_iff.mp hk).1
  obtain ⟨b, sd, ct, k1, k2, k3, k4, k5, k6⟩ := c.ok r _ _ hr (List.getElem?_eq_getElem hlr)
  obtain ⟨is, k7, k8⟩ := c.ok k _ _ hk (List.getElem?_eq_getElem hlk)
  have bk : W.mu[k] = b := by rw [List.getElem?_eq_getElem hlk] at k1; exact Option.some.inj k1
  have c1 : Cel K mg H (et.set k (.lst (is.map .int))) W := c.recell hk (by simp) (by simp) fun a ha _ => by
    rw [List.getElem?_eq_getElem hlk] at ha; cases ha
    exact ⟨_, k7, VRs.ints is⟩
  have hr1 : (et.set k (.lst (is.map .int)))[r]? = some (.potO k (n + 1)) := by rw [List.getElem?_set_ne (Ne.symm hrk)]; exact hr
  have c2 : Cel K mg H ((et.set k (.lst (is.map .int))).set r (.lst [.ref k, .int sd, .int ct])) W := c1.recell hr1 (by simp) (by simp) fun a ha _ => by
    rw [List.getElem?_eq_getElem hlr] at ha; cases ha
    exact ⟨_, k2, VRs.cons (by unfold VR; exact ⟨b, rfl, k1⟩) (VRs.cons VR.int (VRs.cons VR.int VRs.nil))⟩
  refine ⟨hl, _, W, [.ref r, .int m], fun p et2 => ∃ (d ct' : Int) (is' : List Int), p = .int d ∧ 0 ≤ d ∧ d < m ∧ 0 ≤ ct' ∧ ct' ≤ ct + 1 ∧ (∀ i ∈ is', 0 ≤ i) ∧ et2 = ((((et.set k (.lst (is.map .int))).set r (.lst [.ref k, .int sd, .int ct])).set k (.lst (is'.map .int))).set r (.lst [.ref k, .int sd, .int ct'])), c2, va, ?_, ?_⟩
  · refine ⟨r, k, m, sd, ct, is, rfl, hrk, ?_, ?_, k8, k3, k4, k5, by omega, hm, hm2, fun d ct' is' d1 d2 d3 d4 d5 => ⟨d, ct', is', rfl, d1, d2, d3, d4, d5, rfl⟩⟩
    · rw [List.getElem?_set_self (by rw [List.length_set]; exact (List.getElem?_eq_some_iff.mp hr).1)]
    · rw [List.getElem?_set_ne hrk, List.getElem?_set_self (List.getElem?_eq_some_iff.mp hk).1]
  · rintro p et2 ⟨d, ct', is', rfl, d1, d2, d3, d4, d5, he2⟩ v H' W' x' c' v'
    have hrl := (List.getElem?_eq_some_iff.mp hr).1
    have hkl := (List.getElem?_eq_some_iff.mp hk).1
    have er : et2[r]? = some (.lst [.ref k, .int sd, .int ct']) := by rw [he2, List.getElem?_set_self (by simpa using hrl)]
    have ek : et2[k]? = some (.lst (is'.map .int)) := by rw [he2, List.getElem?_set_ne hrk, List.getElem?_set_self (by simpa using hkl)]
    have eo : ∀ j, j ≠ r → j ≠ k → et2[j]? = et[j]? := fun j h1 h2 => by
      rw [he2, List.getElem?_set_ne (Ne.symm h1), List.getElem?_set_ne (Ne.symm h2), List.getElem?_set_ne (Ne.symm h1), List.getElem?_set_ne (Ne.symm h2)]
    have c3 := c'.recell ek (d' := .potI) (by simp) (by simp) fun a ha ho => by
      obtain ⟨vs, g1, g2⟩ := ho
      rw [VRs.ints_eq g2] at g1
      exact ⟨is', g1, d5⟩
    have er2 : (et2.set k .potI)[r]? = some (.lst [.ref k, .int sd, .int ct']) := by rw [List.getElem?_set_ne (Ne.symm hrk)]; exact er
    have c4 := c3.recell er2 (d' := .potO k n) (by simp) (by simp) fun a ha ho => by
      obtain ⟨vs, g1, g2⟩ := ho
      unfold VRs at g2
      obtain ⟨v1, t1, rfl, g3, g4⟩ := g2
      unfold VRs at g4
      obtain ⟨v2, t2, rfl, g5, g6⟩ := g4
      unfold VRs at g6
      obtain ⟨v3, t3, rfl, g7, g8⟩ := g6
      unfold VRs at g8
      subst g8
      unfold VR at g3 g5 g7
      obtain ⟨b', rfl, g9⟩ := g3
      subst g5 g7
      exact ⟨b', sd, ct', g9, g1, k3, k4, d3, by omega⟩
    have e3 : (et2.set k .potI).set r (.potO k n) = et.set r (.potO k n) := by
      apply List.ext_getElem?
      intro j
      by_cases h1 : j = r
      · subst h1
        rw [List.getElem?_set_self (by rw [List.length_set]; exact (List.getElem?_eq_some_iff.mp er).1), List.getElem?_set_self hrl]
      · rw [List.getElem?_set_ne (Ne.symm h1), List.getElem?_set_ne (Ne.symm h1)]
        by_cases h2 : j = k
        · subst h2
          rw [List.getElem?_set_self (List.getElem?_eq_some_iff.mp ek).1, hk]
        · rw [List.getElem?_set_ne (Ne.symm h2), eo j h1 h2]
    refine q (.int d) _ (hR d d1 d2) v H' W' ?_ (e3 ▸ c4) v'
    refine x'.live_iff (fun a => ?_) fun a => ?_
    · rw [Live.set hr1 (by simp) (by simp), Live.set hk (by simp) (by simp)]
    · rw [← e3, Live.set er2 (by simp) (by simp), Live.set ek (by simp) (by simp)]
def spPotC : FSpec := fun args et R => ∃ ns : List Int, args = [.scr ns] ∧ ns.length ≤ 63 ∧
  ∀ (sd : Int) (is : List Int), 0 ≤ sd → sd < 2305843009213693951 → (∀ i ∈ is, 0 ≤ i) → R (.ref (et.length + 1)) (et ++ [.lst (is.map .int), .lst [.ref et.length, .int sd, .int 0]])
def spPot : FSpec := fun args et R => ∃ ns : List Int, args = [.scr ns] ∧ ns.length ≤ 63 ∧ R (.ref (et.length + 1)) (et ++ [.potI, .potO et.length 1099511627776])
theorem pot_imp {vs : List V} {H : Hp} {Q : VK} {E : XK} (h : FS K mg 1 spPot vs H Q E) : FS K mg 1 spPotC vs H Q E := by
  obtain ⟨hl, et, W, args, R, c, va, ⟨ns, rfl, hns, hR⟩, q⟩ := h
  refine ⟨hl, et, W, [.scr ns], fun p et2 => ∃ (sd : Int) (is : List Int), p = .ref (et.length + 1) ∧ 0 ≤ sd ∧ sd < 2305843009213693951 ∧ (∀ i ∈ is, 0 ≤ i) ∧ et2 = et ++ [.lst (is.map .int), .lst [.ref et.length, .int sd, .int 0]], c, va, ⟨ns, rfl, hns, fun sd is h1 h2 h3 => ⟨sd, is, rfl, h1, h2, h3, rfl⟩⟩, ?_⟩
  rintro p et2 ⟨sd, is, rfl, h1, h2, h3, he⟩ v H' W' x' c' v'
  have er : et2[et.length + 1]? = some (.lst [.ref et.length, .int sd, .int 0]) := by rw [he, List.getElem?_append_right (by omega)]; simp
  have ek : et2[et.length]? = some (.lst (is.map .int)) := by rw [he, List.getElem?_append_right (by omega)]; simp
  have c3 := c'.recell ek (d' := .potI) (by simp) (by simp) fun a ha ho => by
    obtain ⟨vs, g1, g2⟩ := ho
    rw [VRs.ints_eq g2] at g1
    exact ⟨is, g1, h3⟩
  have er2 : (et2.set et.length .potI)[et.length + 1]? = some (.lst [.ref et.length, .int sd, .int 0]) := by rw [List.getElem?_set_ne (by omega)]; exact er
  have c4 := c3.recell er2 (d' := .potO et.length 1099511627776) (by simp) (by simp) fun a ha ho => by
    obtain ⟨vs, g1, g2⟩ := ho
    unfold VRs at g2
    obtain ⟨v1, t1, rfl, g3, g4⟩ := g2
    unfold VRs at g4
    obtain ⟨v2, t2, rfl, g5, g6⟩ := g4
    unfold VRs at g6
    obtain ⟨v3, t3, rfl, g7, g8⟩ := g6
    unfold VRs at g8
    subst g8
    unfold VR at g3 g5 g7
    obtain ⟨b', rfl, g9⟩ := g3
    subst g5 g7
    exact ⟨b', sd, 0, g9, g1, h1, h2, by omega, by omega⟩
  have e3 : (et2.set et.length .potI).set (et.length + 1) (.potO et.length 1099511627776) = et ++ [.potI, .potO et.length 1099511627776] := by
    rw [he]
    apply List.ext_getElem?
    intro j
    by_cases h1 : j = et.length + 1
    · subst h1
      rw [List.getElem?_set_self (by simp), List.getElem?_append_right (by omega)]; simp
    · rw [List.getElem?_set_ne (Ne.symm h1)]
      by_cases h2 : j = et.length
      · subst h2
        rw [List.getElem?_set_self (by simp), List.getElem?_append_right (by omega)]; simp
      · rw [List.getElem?_set_ne (Ne.symm h2)]
        by_cases h3 : j < et.length
        · rw [List.getElem?_append_left h3, List.getElem?_append_left h3]
        · rw [List.getElem?_eq_none (by simp; omega), List.getElem?_eq_none (by simp; omega)]
  refine q _ _ hR v H' W' ?_ (e3 ▸ c4) v'
  refine x'.live_iff (fun a => Iff.rfl) fun a => ?_
  rw [← e3, Live.set er2 (by simp) (by simp), Live.set ek (by simp) (by simp)]
end
end Mw
namespace Mw
open PySem PySem.Spec L2
section
variable {et : Hi}
theorem deref_int (i : Int) : deref et (.int i) = .int i := rfl
theorem deref_str (i : Str) : deref et (.str i) = .str i := rfl
theorem deref_bl (i : Bool) : deref et (.bl i) = .bl i := rfl
theorem deref_non : deref et .non = .non := rfl
theorem deref_tup (i : List PV) : deref et (.tup i) = .tup i := rfl
theorem deref_lst (i : List PV) : deref et (.lst i) = .lst i := rfl
theorem deref_scr (i : List Int) : deref et (.scr i) = .scr i := rfl
theorem deref_dic (i : List (Key × PV)) : deref et (.dic i) = .dic i := rfl
theorem deref_ty (i : Ty) : deref et (.ty i) = .ty i := rfl
theorem eqB_int (i j : Int) : eqB (.int i) (.int j) = some (decide (i = j)) := rfl
theorem gEq_int (i j : Int) : gEq (.int i) (.int j) = some (.bl (decide (i = j))) := rfl
theorem gNe_int (i j : Int) : gNe (.int i) (.int j) = some (.bl (!decide (i = j))) := rfl
theorem gEq_str (i j : Str) : gEq (.str i) (.str j) = some (.bl (decide (i = j))) := rfl
theorem gNe_str (i j : Str) : gNe (.str i) (.str j) = some (.bl (!decide (i = j))) := rfl
end
end Mw
namespace Mw
open PySem PySem.Spec L2
theorem deref_ref {et : Hi} {n : Nat} {xs : List PV} (h : et[n]? = some (.lst xs)) : deref et (.ref n) = .lst xs := by unfold deref; simp only [h]
theorem atI_c0 {α : Type} (x : α) (xs : List α) : atI (x :: xs) 0 = some x := by simp [atI, ixN]
theorem atI_c1 {α : Type} (x y : α) (xs : List α) : atI (x :: y :: xs) 1 = some y := by
  have : (1 : Int) < ((xs.length + 1 + 1 : Nat) : Int) := by omega
  simp only [atI, ixN, List.length_cons]
  rw [if_pos (by decide), if_pos this]; rfl
theorem atI_c2 {α : Type} (x y z : α) (xs : List α) : atI (x :: y :: z :: xs) 2 = some z := by
  have : (2 : Int) < ((xs.length + 1 + 1 + 1 : Nat) : Int) := by omega
  simp only [atI, ixN, List.length_cons]
  rw [if_pos (by decide), if_pos this]; rfl
theorem ixN_0 {n : Nat} (h : 0 < n) : ixN n 0 = some 0 := by simp [ixN, h]
end Mw
namespace Mw
open PySem PySem.Spec L2
def spLaw : FSpec := fun args et R => ∃ ns : List Int, args = [.scr ns] ∧ ns.length ≤ 63 ∧ et = [] ∧ ∀ et', R (.bl true) et'
def spTop (K : PySem.W.Frag) : Sp := fun vs H Q _ => ∃ (a : Addr) (ns : List Int), vs = [.ref a] ∧ ns.length ≤ 63 ∧ Only H ∧ SqL K H a (ns.map V.int) ∧ ∀ H', Q (.bl true) H'
theorem top_imp {K : PySem.W.Frag} {mg : Str → Option Value} {vs : List V} {H : Hp} {Q : VK} {E : XK} (h : spTop K vs H Q E) : FS K mg 1 spLaw vs H Q E := by
  obtain ⟨a, ns, rfl, hl, hO, hS, q⟩ := h
  refine ⟨rfl, [], ⟨fun _ => False, []⟩, [.scr ns], fun p _ => p = .bl true, ⟨rfl, fun _ _ _ h => by simp at h, fun _ _ _ _ _ h => by simp at h, fun _ h => h.elim, fun _ h => h.elim⟩, VRs.cons ?_ VRs.nil, ⟨ns, rfl, hl, rfl, fun _ => rfl⟩, ?_⟩
  · unfold VR
    refine ⟨a, rfl, ?_⟩
    rcases hS with (h | ⟨o, h⟩) | h
    · rcases hO a with z | ⟨o, xs, z⟩
      · rw [z] at h; cases h
      · rw [z] at h; cases h
    · exact .inl ⟨o, h⟩
    · exact .inr h
  · rintro p et' rfl v H' W' _ _ hv
    unfold VR at hv
    subst hv
    exact q H'
theorem fs_none {P : Program} {w : World} {K : PySem.W.Frag} {mg : Str → Option Value} {base : Heap} {k n : Nat} {f : Addr} {fd : FuncData} {ps : List Str} {sp : FSpec} (h : ∀ args et R, ¬ sp args et R) : FnOk P w K mg base CX0 k f fd ps (FS K mg n sp) := by
  have no : ∀ vs H Q E, ¬ FS K mg n sp vs H Q E := fun vs H Q E ⟨_, _, _, _, _, _, _, q, _⟩ => h _ _ _ q
  exact ⟨fun vs H Q E h => absurd h (no vs H Q E), fun A outer s H args us vs Q E _ _ _ _ h => absurd h (no vs H Q E)⟩
end Mw
namespace Mw
open PySem PySem.Spec L2
def mDnil : EM (List (PV × PV)) := fun _ et R => R [] et
def mDcons (mk mv : EM PV) (m : EM (List (PV × PV))) : EM (List (PV × PV)) := fun ep et R => mk ep et fun k et1 => mv ep et1 fun v et2 => m ep et2 fun ps et3 => R ((k, v) :: ps) et3
def keysP : List (PV × PV) → Option (List (Key × PV))
  | [] => some []
  | (k, v) :: r => (keyP k).bind fun k => (keysP r).map fun r => (k, v) :: r
def mDisp (m : EM (List (PV × PV))) : EM PV := fun ep et R => m ep et fun ps et1 => ∃ kvs, keysP ps = some kvs ∧ kvs.length ≤ 15 ∧ R (.dic (mergeP [] kvs)) et1
section
variable {X : Cx} {K : PySem.W.Frag} {mg : Str → Option Value}
def tDP (K : PySem.W.Frag) (mg : Str → Option Value) (m : EM (List (PV × PV))) : L2.St → Hp → (List (V × V) → Hp → Prop) → Prop := fun sg H Q => ∃ ep et W R, Cel K mg H et W ∧ Slt K mg sg ep H et W ∧ m ep et R ∧
  ∀ a et', R a et' → ∀ vs H' W', Ext NoO H et W H' et' W' → Cel K mg H' et' W' → VRs K mg W' H' (a.map (·.1)) (vs.map (·.1)) → VRs K mg W' H' (a.map (·.2)) (vs.map (·.2)) → Q vs H'
def SimD (X : Cx) (pos : Pos) (keys : List (Option Expr)) (values : List Expr) (m : EM (List (PV × PV))) : Prop := ∃ trs, PPs X pos keys values trs ∧ ∀ σ H Q, tDP X.K X.mg m σ H Q → tPairs trs σ H Q
theorem sD_nil {pos : Pos} : SimD X pos [] [] mDnil := ⟨[], pps_nil, fun σ H Q ⟨ep, et, W, R, c, s, e, q⟩ => q [] et e [] H W (Ext.refl ..) c VRs.nil VRs.nil⟩
theorem sD_cons {pos : Pos} {k v : Expr} {ks : List (Option Expr)} {vs : List Expr} {mk mv : EM PV} {m : EM (List (PV × PV))} (hk : SimE X k mk) (hv : SimE X v mv) (hr : SimD X pos ks vs m) : SimD X pos (some k :: ks) (v :: vs) (mDcons mk mv m) := by
  obtain ⟨trs, hp, hw⟩ := hr
  exact ⟨(_, _) :: trs, pps_cons hk hv hp, fun σ H Q ⟨ep, et, W, R, c, s, e, q⟩ => ⟨ep, et, W, _, c, s, e, fun p et1 r1 v H1 W1 x1 c1 p1 => ⟨ep, et1, W1, _, c1, s.ext c x1, r1, fun p' et2 r2 u H2 W2 x2 c2 p2 =>
    hw σ H2 _ ⟨ep, et2, W2, _, c2, s.ext c (x1.NoO_trans x2), r2, fun ps et3 r3 vs H3 W3 x3 c3 a1 a2 => q _ et3 r3 _ H3 W3 ((x1.NoO_trans x2).NoO_trans x3) c3 (VRs.cons (VR.ext (x2.NoO_trans x3) c1.stays0 _ _ p1) a1) (VRs.cons (VR.ext x3 c2.stays0 _ _ p2) a2)⟩⟩⟩⟩
theorem VRs.uncons {W : Wd} {H : Hp} {p : PV} {ps : List PV} {vs : List V} (h : VRs K mg W H (p :: ps) vs) : ∃ v r, vs = v :: r ∧ VR K mg W H p v ∧ VRs K mg W H ps r := by unfold VRs at h; exact h
theorem keys_vrk {W : Wd} {H : Hp} : ∀ {ps : List (PV × PV)} {vs : List (V × V)} {kvs : List (Key × PV)}, keysP ps = some kvs → VRs K mg W H (ps.map (·.1)) (vs.map (·.1)) → VRs K mg W H (ps.map (·.2)) (vs.map (·.2)) →
    ∃ ks : List (Key × V), vs = ks.map (fun kv => (kV kv.1, kv.2)) ∧ VRk K mg W H kvs ks ∧ ks.length = kvs.length
  | [], [], kvs, e, _, _ => by cases e; exact ⟨[], rfl, by unfold VRk; rfl, rfl⟩
  | [], _ :: _, _, _, h, _ => by have := h.len; simp at this
  | (k, v) :: ps, vs, kvs, e, h1, h2 => by
    unfold keysP at e
    cases ek : keyP k with
    | none => rw [ek] at e; cases e
    | some key =>
      rw [ek, Option.bind_some] at e
      cases er : keysP ps with
      | none => rw [er] at e; cases e
      | some r =>
        rw [er] at e; cases e
        match vs, h1, h2 with
        | [], h1, _ => have := h1.len; simp at this
        | (a, b) :: vs, h1, h2 =>
          obtain ⟨_, _, e1, a1, a2⟩ := VRs.uncons h1
          obtain ⟨_, _, e2, b1, b2⟩ := VRs.uncons h2
          cases e1; cases e2
          obtain ⟨ks, rfl, h3, h4⟩ := keys_vrk er a2 b2
          refine ⟨(key, b) :: ks, ?_, ?_, by rw [List.length_cons, List.length_cons, h4]⟩
          · have : a = kV key := VR.key (p := k) a1 ek
            rw [this]; rfl
          · unfold VRk; exact ⟨b, ks, rfl, b1, h3⟩
theorem sN_disp {pos : Pos} {keys : List (Option Expr)} {values : List Expr} {m : EM (List (PV × PV))} (h : SimD X pos keys values m) (hall : keys.all (·.isSome) = true) (hl : keys.length = values.length) (h0 : keys ≠ []) (h15 : keys.length ≤ 15) :
    SimN X (.Dict keys values pos) (mDisp m) := by
  obtain ⟨trs, hp, hw⟩ := h
  refine weakE (pe_disp hp hall hl h0 h15) fun σ H Q ⟨ep, et, W, R, c, s, e, q⟩ => fun p hp0 => ?_
  obtain ⟨x1, c1, _⟩ := new_ownD c hp0 (show VRk X.K X.mg W H [] [] by unfold VRk; rfl)
  refine hw σ _ _ ⟨ep, et, W, _, c1, s.ext c x1, e, fun ps et1 r1 vs H1 W1 x2 c2 a1 a2 => ?_⟩
  obtain ⟨kvs, ek, e15, r⟩ := r1
  have nl : ¬ Live et W p := c.not_live hp0
  have hp2 : H1 p = some (.dK []) := x2.keep p _ upd_same nl (fun z => z)
  have nf : ¬ W1.fz p := fun z => by
    rcases x2.nfz p z with z | z | z
    · exact c.fzh p z hp0
    · rw [upd_same] at z; cases z
    · exact z
  have nl1 : ¬ Live et1 W1 p := fun z => by
    rcases x2.live p z with z | z
    · exact nl z
    · rw [upd_same] at z; cases z
  obtain ⟨ks, rfl, h3, h4⟩ := keys_vrk ek a1 a2
  refine ⟨hp2, ks, rfl, by omega, ?_⟩
  have own1 : ∀ a, Own [Slot.own (PV.dic [])] [some (V.ref p)] a → a = p := fun a ⟨i, u, h1, h2⟩ => by
    cases i with
    | zero => simp at h2; exact h2.symm
    | succ i => simp at h1
  have s1 : Slt X.K X.mg [some (V.ref p)] [Slot.own (PV.dic [])] H1 et1 W1 := by
    refine ⟨rfl, fun i t o h1 h2 => ?_, fun i j a b u h1 h2 h3 h4 => ?_, fun a h => by rw [own1 a h]; exact nf, fun a h => by rw [own1 a h]; exact nl1⟩
    · cases i with
      | zero =>
        simp at h1 h2; subst h1; subst h2
        exact ⟨p, rfl, [], hp2, by unfold VRk; rfl⟩
      | succ i => simp at h1
    · cases i with
      | zero =>
        cases j with
        | zero => rfl
        | succ j => simp at h2
      | succ i => simp at h1
  have hm : VRk X.K X.mg W1 H1 (mergeP [] kvs) (mergeK [] ks) := VRk.merge h3 (by unfold VRk; rfl)
  obtain ⟨x3, c3, s3, _, _⟩ := own_write c2 s1 (i := 0) (p := .dic []) (p' := .dic (mergeP [] kvs)) (a := p) (o := .dK (mergeK [] ks)) rfl rfl hm
  have x12 : Ext NoO H et W H1 et1 W1 := x1.NoO_trans x2
  have x13 : Ext NoO H et W (upd H1 p (.dK (mergeK [] ks))) et1 W1 := x12.trans x3 fun a h => .inr (by rw [own1 a h]; exact hp0)
  refine q _ et1 r _ _ W1 x13 c3 ⟨p, rfl, hp0, nf, nl1, ?_⟩
  obtain ⟨a, ea, ho⟩ := s3.ok 0 _ _ rfl rfl
  cases ea
  exact ho
end
end Mw
namespace Mw
open PySem PySem.Spec L2
def flatE : V → V → Option Bool
  | .int i, .int j => some (i == j)
  | .str i, .str j => some (i == j)
  | .bl i, .bl j => some (i == j)
  | .non, .non => some true
  | .bl a, .int b => some ((if a then 1 else 0) == b)
  | .int a, .bl b => some (a == (if b then 1 else 0))
  | .int _, .str _ => some false
  | .str _, .int _ => some false
  | .int _, .non => some false
  | .non, .int _ => some false
  | .str _, .non => some false
  | .non, .str _ => some false
  | .bl _, .str _ => some false
  | .str _, .bl _ => some false
  | .bl _, .non => some false
  | .non, .bl _ => some false
  | _, _ => none
def EqXS (K : PySem.W.Frag) (H : Hp) (E : V → V → Bool → Prop) (x y : V) (b : Bool) : Prop :=
  (∃ a a' xs ys, ∃ e : Nat → Bool, x = .ref a ∧ y = .ref a' ∧ SqL K H a xs ∧ SqL K H a' ys ∧ xs.length = ys.length ∧ (∀ j u v, xs[j]? = some u → ys[j]? = some v → E u v (e j)) ∧ b = (List.range xs.length).all e) ∨
  (∃ a a' xs ys, ∃ e : Nat → Bool, x = .ref a ∧ y = .ref a' ∧ SqT K H a xs ∧ SqT K H a' ys ∧ (∀ j u v, xs[j]? = some u → ys[j]? = some v → E u v (e j)) ∧ b = ((List.range (min xs.length ys.length)).all e && xs.length == ys.length)) ∨
  (∃ a a' ks ls, x = .ref a ∧ y = .ref a' ∧ H a = some (.dK ks) ∧ H a' = some (.dK ls) ∧ ks.length = ls.length ∧ (∀ k u, (k, u) ∈ ks → ∃ v, valV ls k = some v ∧ E u v true) ∧ b = true)
def EqXV (K : PySem.W.Frag) (H : Hp) : Nat → V → V → Bool → Prop
  | 0 => fun x y b => flatE x y = some b
  | n + 1 => fun x y b => flatE x y = some b ∨ EqXS K H (EqXV K H n) x y b
section
variable {X : Cx} {pins : List (Addr × Obj)} {σ : L2.St} {H : Hp} {s : Shared}
theorem flatE_at {A : Around} {x y : V} {u v : Value} {b : Bool} (h : flatE x y = some b) (rx : RelV x u) (ry : RelV y v) : SeqAt.EqAt A s u v b := by
  unfold flatE at h
  split at h <;> (first | (cases h; done) | skip) <;> cases h <;> unfold RelV at rx ry
  · obtain ⟨t, rfl⟩ := rx; obtain ⟨t', rfl⟩ := ry; exact SeqAt.EqAt.int_int _ _ _ _
  · obtain ⟨t, rfl⟩ := rx; obtain ⟨t', rfl⟩ := ry; exact SeqAt.EqAt.str_str _ _ _ _
  · subst rx; subst ry; exact SeqAt.EqAt.bool_bool _ _
  · subst rx; subst ry; exact SeqAt.EqAt.same _
  · subst rx; obtain ⟨t', rfl⟩ := ry; exact SeqAt.EqAt.bool_int _ _ _
  · obtain ⟨t, rfl⟩ := rx; subst ry; exact SeqAt.EqAt.int_bool _ _ _
  · obtain ⟨t, rfl⟩ := rx; obtain ⟨t', rfl⟩ := ry; exact SeqAt.EqAt.int_str _ _ _ _
  · obtain ⟨t, rfl⟩ := rx; obtain ⟨t', rfl⟩ := ry; exact SeqAt.EqAt.str_int _ _ _ _
  · obtain ⟨t, rfl⟩ := rx; subst ry; exact SeqAt.EqAt.int_none _ _
  · subst rx; obtain ⟨t', rfl⟩ := ry; exact SeqAt.EqAt.none_int _ _
  · obtain ⟨t, rfl⟩ := rx; subst ry; exact SeqAt.EqAt.str_none _ _
  · subst rx; obtain ⟨t', rfl⟩ := ry; exact SeqAt.EqAt.none_str _ _
  · subst rx; obtain ⟨t', rfl⟩ := ry; exact SeqAt.EqAt.bool_str _ _ _
  · obtain ⟨t, rfl⟩ := rx; subst ry; exact SeqAt.EqAt.str_bool _ _ _
  · subst rx; subst ry; exact SeqAt.EqAt.bool_none _
  · subst rx; subst ry; exact SeqAt.EqAt.none_bool _
theorem flatE_same {x : V} {b : Bool} (h : flatE x x = some b) : b = true := by
  cases x <;> simp [flatE] at h <;> first | exact h.symm | exact h | (rw [← h])
theorem eqx_same (I : Inv X pins σ H s) : ∀ (n : Nat) (x : V) (b : Bool), EqXV X.K H n x x b → b = true
  | 0, x, b, h => flatE_same h
  | n + 1, x, b, h => by
    rcases h with h | ⟨a, a', xs, ys, e, rfl, e2, h1, h2, hl, he, rfl⟩ | ⟨a, a', xs, ys, e, rfl, e2, h1, h2, he, rfl⟩ | ⟨_, _, _, _, _, _, _, _, _, _, h⟩
    · exact flatE_same h
    · cases e2
      have := I.list_inj h1 h2
      subst this
      rw [List.all_eq_true]
      intro j hj
      have hlt := List.mem_range.mp hj
      exact eqx_same I n _ _ (he j _ _ (List.getElem?_eq_getElem hlt) (List.getElem?_eq_getElem hlt))
    · cases e2
      have := I.tuple_inj h1 h2
      subst this
      rw [Bool.and_eq_true, List.all_eq_true]
      refine ⟨fun j hj => ?_, by simp⟩
      have hlt := List.mem_range.mp hj
      rw [Nat.min_self] at hlt
      exact eqx_same I n _ _ (he j _ _ (List.getElem?_eq_getElem hlt) (List.getElem?_eq_getElem hlt))
    · exact h
theorem Vals.at_of {xs : List V} {us : List Value} (r : Vals xs us) {j : Nat} (h : j < us.length) : ∃ x, xs[j]? = some x ∧ RelV x us[j] := by
  have hl := Vals.length r
  have hx : xs[j]? = some xs[j] := List.getElem?_eq_getElem (by omega)
  obtain ⟨u, e, q⟩ := Vals.get r hx
  rw [List.getElem?_eq_getElem h] at e
  cases e
  exact ⟨_, hx, q⟩
theorem dict_facts (I : Inv X pins σ H s) {n : Nat} {E : V → V → Bool → Prop} (ih : ∀ u u' v y, E u u' true → RelV u v → RelV u' y → PySem.W.EqTree X.prog X.w s n v y true) {a a' : Addr} {ks ls : List (Key × V)} (h1 : H a = some (.dK ks)) (h2 : H a' = some (.dK ls)) (hl : ks.length = ls.length)
    (he : ∀ k u, (k, u) ∈ ks → ∃ v, valV ls k = some v ∧ E u v true) : ∃ va vb : List (Key × Value), (a == sysModules) = false ∧ (a' == sysModules) = false ∧ s.heap.DictOf (mixKind X.prog X.w) a va ∧ s.heap.DictOf (mixKind X.prog X.w) a' vb ∧
      (∀ k v y, (k, v) ∈ va → valueAt vb k = some y → PySem.W.EqTree X.prog X.w s n v y ((fun _ => true) k)) ∧ (va.length == vb.length && va.all fun p => (valueAt vb p.1).isSome && (fun _ => true) p.1) = true := by
  obtain ⟨za, ya, va, ra, da⟩ := (show ObjOk X.prog X.w H s.heap a (.dK ks) from I.hok a _ h1)
  obtain ⟨zb, yb, vb, rb, db⟩ := (show ObjOk X.prog X.w H s.heap a' (.dK ls) from I.hok a' _ h2)
  have ll : va.length = vb.length := by rw [← ra.length, ← rb.length]; exact hl
  have hm : ∀ k v, (k, v) ∈ va → ∃ u, (k, u) ∈ ks ∧ RelV u v := by
    unfold KV at ra
    clear hl h1 h2 he da db ll za zb
    induction ra with
    | nil => intro k v h; cases h
    | @cons p q ps qs h t ih =>
      intro k v hkv
      rcases List.mem_cons.mp hkv with e | hkv
      · subst e
        obtain ⟨h1, h2⟩ := h
        refine ⟨p.2, ?_, h2⟩
        have : p = (k, p.2) := by obtain ⟨p1, p2⟩ := p; simp at h1; rw [h1]
        rw [← this]; exact List.mem_cons_self
      · obtain ⟨u, hu, r⟩ := ih k v hkv
        exact ⟨u, List.mem_cons_of_mem _ hu, r⟩
  have ho : ∀ k v, (k, v) ∈ va → ∃ y, valueAt vb k = some y ∧ PySem.W.EqTree X.prog X.w s n v y true := fun k v hkv => by
    obtain ⟨u, hu, r⟩ := hm k v hkv
    obtain ⟨u', e1, e2⟩ := he k u hu
    have rr : RelO (some u') (valueAt vb k) := by rw [← e1]; exact rb.val k
    obtain ⟨y, hy, ry⟩ := rr.some_of
    exact ⟨y, hy, ih u u' v y e2 r ry⟩
  refine ⟨va, vb, ya, yb, da, db, fun k v y hkv hy => ?_, ?_⟩
  · obtain ⟨y', hy', t⟩ := ho k v hkv
    rw [hy] at hy'; cases hy'
    exact t
  · rw [Bool.and_eq_true, List.all_eq_true]
    refine ⟨by rw [ll]; simp, fun p hp => ?_⟩
    obtain ⟨y, hy, _⟩ := ho p.1 p.2 hp
    simp [hy]
theorem eqx_tree (I : Inv X pins σ H s) : ∀ (n : Nat) (x y : V) (u v : Value) (b : Bool), EqXV X.K H n x y b → RelV x u → RelV y v → PySem.W.EqTree X.prog X.w s n u v b
  | 0, x, y, u, v, b, h, rx, ry => .leaf fun A _ => flatE_at h rx ry
  | n + 1, x, y, u, v, b, h, rx, ry => by
    rcases h with h | h
    · exact .leaf fun A _ => flatE_at h rx ry
    have hall : EqXV X.K H (n + 1) x y b := .inr h
    rcases h with ⟨a, a', xs, ys, e, rfl, rfl, h1, h2, hl, he, hb⟩ | ⟨a, a', xs, ys, e, rfl, rfl, h1, h2, he, hb⟩ | ⟨a, a', ks, ls, rfl, rfl, h1, h2, hl, he, hb⟩
    · have ru : u = Value.ref a := rx
      have rv : v = Value.ref a' := ry
      subst ru; subst rv
      by_cases ea : a = a'
      · subst ea
        have := eqx_same I (n + 1) _ _ hall
        subst this
        exact .same
      obtain ⟨us, r1, p1, _⟩ := I.list h1
      obtain ⟨vs, r2, p2, _⟩ := I.list h2
      have l1 := Vals.length r1
      have l2 := Vals.length r2
      rw [hb, show xs.length = us.toArray.size by simpa using l1]
      refine .lists ea p1.isList p2.isList (by simp; omega) fun j q1 q2 => ?_
      simp at q1 q2
      obtain ⟨x1, g1, k1⟩ := Vals.at_of r1 q1
      obtain ⟨x2, g2, k2⟩ := Vals.at_of r2 q2
      simpa using eqx_tree I n x1 x2 _ _ _ (he j x1 x2 g1 g2) k1 k2
    · have ru : u = Value.ref a := rx
      have rv : v = Value.ref a' := ry
      subst ru; subst rv
      by_cases ea : a = a'
      · subst ea
        have := eqx_same I (n + 1) _ _ hall
        subst this
        exact .same
      obtain ⟨us, r1, p1, _⟩ := I.tuple h1
      obtain ⟨vs, r2, p2, _⟩ := I.tuple h2
      have l1 := Vals.length r1
      have l2 := Vals.length r2
      rw [hb, show xs.length = us.toArray.size by simpa using l1, show ys.length = vs.toArray.size by simpa using l2]
      refine .tuples ea p1 p2 fun j q1 q2 => ?_
      simp at q1 q2
      obtain ⟨x1, g1, k1⟩ := Vals.at_of r1 q1
      obtain ⟨x2, g2, k2⟩ := Vals.at_of r2 q2
      simpa using eqx_tree I n x1 x2 _ _ _ (he j x1 x2 g1 g2) k1 k2
    · have ru : u = Value.ref a := rx
      have rv : v = Value.ref a' := ry
      subst ru; subst rv
      subst hb
      by_cases ea : a = a'
      · subst ea; exact .same
      obtain ⟨va, vb, ya, yb, da, db, t, e⟩ := dict_facts I (fun u u' v y e r r' => eqx_tree I n u u' v y true e r r') h1 h2 hl he
      rw [← e]
      exact .dicts (e := fun _ => true) ea ya yb da db t
def rEqX (K : PySem.W.Frag) : R2 := fun x y H Q => ∃ n b, n ≤ 60 ∧ EqXS K H (EqXV K H n) x y b ∧ Q (.bl b) H
theorem op_eqX (hu : X.A.units + 64 < cLine) : OpR X (compareOp .Eq) (rEqX X.K) := by
  intro pins s σ H x y v u Q I rx ry h
  obtain ⟨n, b, hn, h, q⟩ := h
  rcases h with ⟨a, a', xs, ys, e, rfl, rfl, h1, h2, hl, he, rfl⟩ | ⟨a, a', xs, ys, e, rfl, rfl, h1, h2, he, rfl⟩ | ⟨a, a', ks, ls, rfl, rfl, h1, h2, hl, he, rfl⟩
  · have ru : v = Value.ref a := rx
    have rv : u = Value.ref a' := ry
    subst ru; subst rv
    obtain ⟨us, r1, p1, _⟩ := I.list h1
    obtain ⟨vs, r2, p2, _⟩ := I.list h2
    have l1 := Vals.length r1
    have l2 := Vals.length r2
    rw [show xs.length = us.toArray.size by simpa using l1] at q
    refine PySem.W.eq_listsT (n := n) (e := e) p1.isList p2.isList (by simp; omega) (fun j q1 q2 => ?_) (by omega) ⟨.bl _, H, I, rfl, q⟩
    simp at q1 q2
    obtain ⟨x1, g1, k1⟩ := Vals.at_of r1 q1
    obtain ⟨x2, g2, k2⟩ := Vals.at_of r2 q2
    simpa using eqx_tree I n x1 x2 _ _ _ (he j x1 x2 g1 g2) k1 k2
  · have ru : v = Value.ref a := rx
    have rv : u = Value.ref a' := ry
    subst ru; subst rv
    obtain ⟨us, r1, p1, _⟩ := I.tuple h1
    obtain ⟨vs, r2, p2, _⟩ := I.tuple h2
    have l1 := Vals.length r1
    have l2 := Vals.length r2
    rw [show xs.length = us.toArray.size by simpa using l1, show ys.length = vs.toArray.size by simpa using l2] at q
    refine PySem.W.eq_tuplesT (n := n) (e := e) p1 p2 (fun j q1 q2 => ?_) (by omega) ⟨.bl _, H, I, rfl, q⟩
    simp at q1 q2
    obtain ⟨x1, g1, k1⟩ := Vals.at_of r1 q1
    obtain ⟨x2, g2, k2⟩ := Vals.at_of r2 q2
    simpa using eqx_tree I n x1 x2 _ _ _ (he j x1 x2 g1 g2) k1 k2
  · have ru : v = Value.ref a := rx
    have rv : u = Value.ref a' := ry
    subst ru; subst rv
    obtain ⟨va, vb, ya, yb, da, db, t, e⟩ := dict_facts I (fun u u' v y e r r' => eqx_tree I n u u' v y true e r r') h1 h2 hl he
    exact PySem.W.eq_dictsT (n := n) (e := fun _ => true) ya yb da db t (by omega) (by rw [e]; exact ⟨.bl true, H, I, rfl, q⟩)
end
def allB : List (Option Bool) → Option (List Bool)
  | [] => some []
  | o :: r => o.bind fun b => (allB r).map (b :: ·)
def flatX : PV → PV → Option Bool
  | .int i, .int j => some (i == j)
  | .str i, .str j => some (i == j)
  | .bl i, .bl j => some (i == j)
  | .non, .non => some true
  | .bl a, .int b => some ((if a then 1 else 0) == b)
  | .int a, .bl b => some (a == (if b then 1 else 0))
  | .int _, .str _ => some false
  | .str _, .int _ => some false
  | .int _, .non => some false
  | .non, .int _ => some false
  | .str _, .non => some false
  | .non, .str _ => some false
  | .bl _, .str _ => some false
  | .str _, .bl _ => some false
  | .bl _, .non => some false
  | .non, .bl _ => some false
  | _, _ => none
def eqXS (e : PV → PV → Option Bool) : PV → PV → Option Bool
  | .lst xs, .lst ys => if xs.length = ys.length then (allB (List.zipWith e xs ys)).map fun bs => bs.all id else none
  | .tup xs, .tup ys => (allB (List.zipWith e xs ys)).map fun bs => bs.all id && xs.length == ys.length
  | .dic ks, .dic ls => if ks.length = ls.length ∧ (ks.all fun kv => match valP ls kv.1 with
      | some q => e kv.2 q == some true
      | none => false) = true then some true else none
  | _, _ => none
def eqX : Nat → PV → PV → Option Bool
  | 0, p, q => flatX p q
  | n + 1, p, q => (flatX p q).orElse fun _ => eqXS (eqX n) p q
section
variable {K : PySem.W.Frag} {mg : Str → Option Value} {W : Wd} {H : Hp}
theorem flatX_ok {p q : PV} {x y : V} {b : Bool} (h : flatX p q = some b) (hp : VR K mg W H p x) (hq : VR K mg W H q y) : flatE x y = some b := by
  unfold flatX at h
  split at h <;> (first | (cases h; done) | skip) <;> cases h <;> unfold VR at hp hq <;> subst hp <;> subst hq <;> rfl
theorem allB_get : ∀ {os : List (Option Bool)} {bs : List Bool}, allB os = some bs → bs.length = os.length ∧ ∀ j o, os[j]? = some o → o = some (bs.getD j true)
  | [], bs, h => by cases h; exact ⟨rfl, fun j o h => by simp at h⟩
  | o :: os, bs, h => by
    unfold allB at h
    cases o with
    | none => cases h
    | some b =>
      rw [Option.bind_some] at h
      cases e : allB os with
      | none => rw [e] at h; cases h
      | some r =>
        rw [e] at h; cases h
        obtain ⟨h1, h2⟩ := allB_get e
        refine ⟨by rw [List.length_cons, List.length_cons, h1], fun j o' hj => ?_⟩
        cases j with
        | zero => simp at hj; rw [← hj]; simp
        | succ j => simpa using h2 j o' (by simpa using hj)
theorem all_getD (bs : List Bool) : bs.all id = (List.range bs.length).all fun j => bs.getD j true := by
  rw [Bool.eq_iff_iff, List.all_eq_true, List.all_eq_true]
  constructor
  · intro h j hj
    have hlt := List.mem_range.mp hj
    have : bs.getD j true = bs[j] := by simp [List.getD, List.getElem?_eq_getElem hlt]
    rw [this]
    exact h _ (List.getElem_mem hlt)
  · intro h b hb
    obtain ⟨j, hlt, rfl⟩ := List.mem_iff_getElem.mp hb
    have := h j (List.mem_range.mpr hlt)
    simpa [List.getD, List.getElem?_eq_getElem hlt] using this
theorem VRs.back : ∀ {ps : List PV} {vs : List V} {i : Nat} {v : V}, VRs K mg W H ps vs → vs[i]? = some v → ∃ p, ps[i]? = some p ∧ VR K mg W H p v := fun {ps vs i v} h e => by
  have hl := (List.getElem?_eq_some_iff.mp e).1
  have hp : ps[i]? = some (ps[i]'(by rw [h.len]; exact hl)) := List.getElem?_eq_getElem _
  obtain ⟨u, e1, r⟩ := h.get hp
  rw [e] at e1; cases e1
  exact ⟨_, hp, r⟩
theorem eqXS_ok {e : PV → PV → Option Bool} {E : V → V → Bool → Prop} (ih : ∀ p q x y b, e p q = some b → VR K mg W H p x → VR K mg W H q y → E x y b) {p q : PV} {x y : V} {b : Bool} (h : eqXS e p q = some b) (hp : (VR K mg W H p x) ∨ ∃ a, x = .ref a ∧ OwnAt K mg W H p a) (hq : (VR K mg W H q y) ∨ ∃ a, y = .ref a ∧ OwnAt K mg W H q a) :
    EqXS K H E x y b := by
  have lst : ∀ {p : PV} {x : V} {xs : List PV}, p = .lst xs → ((VR K mg W H p x) ∨ ∃ a, x = .ref a ∧ OwnAt K mg W H p a) → ∃ a vs, x = .ref a ∧ SqL K H a vs ∧ VRs K mg W H xs vs := fun {p x xs} hp h => by
    subst hp
    rcases h with h | ⟨a, rfl, vs, h1, h2⟩
    · unfold VR at h
      obtain ⟨a, vs, rfl, _, h1, h2⟩ := h
      exact ⟨a, vs, rfl, SqL.of h1, h2⟩
    · exact ⟨a, vs, rfl, SqL.of h1, h2⟩
  have tup : ∀ {p : PV} {x : V} {xs : List PV}, p = .tup xs → ((VR K mg W H p x) ∨ ∃ a, x = .ref a ∧ OwnAt K mg W H p a) → ∃ a vs, x = .ref a ∧ SqT K H a vs ∧ VRs K mg W H xs vs := fun {p x xs} hp h => by
    subst hp
    rcases h with h | ⟨a, rfl, h⟩
    · unfold VR at h; obtain ⟨a, vs, e, h1, h2⟩ := h; exact ⟨a, vs, e, h1.sq, h2⟩
    · cases h
  have dic : ∀ {p : PV} {x : V} {xs : List (Key × PV)}, p = .dic xs → ((VR K mg W H p x) ∨ ∃ a, x = .ref a ∧ OwnAt K mg W H p a) → ∃ a vs, x = .ref a ∧ H a = some (.dK vs) ∧ VRk K mg W H xs vs := fun {p x xs} hp h => by
    subst hp
    rcases h with h | ⟨a, rfl, vs, h1, h2⟩
    · unfold VR at h
      obtain ⟨a, vs, rfl, _, h1, h2⟩ := h
      exact ⟨a, vs, rfl, h1, h2⟩
    · exact ⟨a, vs, rfl, h1, h2⟩
  unfold eqXS at h
  have zip : ∀ {xs ys : List PV} {bs : List Bool}, allB (List.zipWith e xs ys) = some bs → bs.length = min xs.length ys.length ∧ ∀ {us vs : List V}, VRs K mg W H xs us → VRs K mg W H ys vs → ∀ j u v, us[j]? = some u → vs[j]? = some v → E u v (bs.getD j true) := fun {xs ys bs} eb => by
    obtain ⟨h1, h2⟩ := allB_get eb
    refine ⟨by rw [h1, List.length_zipWith], fun {us vs} r r' j u v hu hv => ?_⟩
    obtain ⟨p, hp, rp⟩ := r.back hu
    obtain ⟨q, hq, rq⟩ := r'.back hv
    refine ih p q u v _ (h2 j _ ?_) rp rq
    rw [List.getElem?_zipWith, hp, hq]
  split at h
  · rename_i xs ys
    split at h
    · rename_i hl
      cases eb : allB (List.zipWith e xs ys) with
      | none => rw [eb] at h; cases h
      | some bs =>
        rw [eb] at h; cases h
        obtain ⟨a, us, rfl, h1, r1⟩ := lst rfl hp
        obtain ⟨a', vs, rfl, h2, r2⟩ := lst rfl hq
        obtain ⟨z1, z2⟩ := zip eb
        refine .inl ⟨a, a', us, vs, fun j => bs.getD j true, rfl, rfl, h1, h2, by rw [← r1.len, ← r2.len, hl], z2 r1 r2, ?_⟩
        show bs.all id = _
        rw [← r1.len, all_getD, z1, hl, Nat.min_self]
    · cases h
  · rename_i xs ys
    cases eb : allB (List.zipWith e xs ys) with
    | none => rw [eb] at h; cases h
    | some bs =>
      rw [eb] at h; cases h
      obtain ⟨a, us, rfl, h1, r1⟩ := tup rfl hp
      obtain ⟨a', vs, rfl, h2, r2⟩ := tup rfl hq
      obtain ⟨z1, z2⟩ := zip eb
      refine .inr (.inl ⟨a, a', us, vs, fun j => bs.getD j true, rfl, rfl, h1, h2, z2 r1 r2, ?_⟩)
      show (bs.all id && _) = _
      rw [← r1.len, ← r2.len, all_getD, z1]
  · rename_i ks ls
    split at h
    · rename_i hh
      cases h
      obtain ⟨a, us, rfl, h1, r1⟩ := dic rfl hp
      obtain ⟨a', vs, rfl, h2, r2⟩ := dic rfl hq
      refine .inr (.inr ⟨a, a', us, vs, rfl, rfl, h1, h2, by rw [← r1.len, ← r2.len, hh.1], fun k u hu => ?_, rfl⟩)
      have hall := List.all_eq_true.mp hh.2
      -- the entry of ks
      have ent : ∀ {ks : List (Key × PV)} {us : List (Key × V)}, VRk K mg W H ks us → ∀ k u, (k, u) ∈ us → ∃ p, (k, p) ∈ ks ∧ VR K mg W H p u := by
        intro ks
        induction ks with
        | nil => intro us r k u hm; unfold VRk at r; subst r; cases hm
        | cons kv ks ih2 =>
          intro us r k u hm
          obtain ⟨k0, p0⟩ := kv
          unfold VRk at r
          obtain ⟨v0, r0, rfl, hv0, hr0⟩ := r
          rcases List.mem_cons.mp hm with e0 | hm
          · cases e0; exact ⟨p0, List.mem_cons_self, hv0⟩
          · obtain ⟨p, hp, hv⟩ := ih2 hr0 k u hm
            exact ⟨p, List.mem_cons_of_mem _ hp, hv⟩
      obtain ⟨p, hpm, hpv⟩ := ent r1 k u hu
      have hx := hall (k, p) hpm
      simp only at hx
      cases ev : valP ls k with
      | none => rw [ev] at hx; cases hx
      | some q =>
        rw [ev] at hx
        obtain ⟨v, e1, hqv⟩ := (r2.val (k := k)).1 q ev
        exact ⟨v, e1, ih p q u v true (eq_of_beq hx) hpv hqv⟩
    · cases h
  · cases h
theorem eqX_ok : ∀ (n : Nat) (p q : PV) (x y : V) (b : Bool), eqX n p q = some b → VR K mg W H p x → VR K mg W H q y → EqXV K H n x y b
  | 0, p, q, x, y, b, h, hp, hq => flatX_ok h hp hq
  | n + 1, p, q, x, y, b, h, hp, hq => by
    unfold eqX at h
    cases e : flatX p q with
    | some b' =>
      rw [e] at h; cases h
      exact .inl (flatX_ok e hp hq)
    | none =>
      rw [e] at h
      exact .inr (eqXS_ok (eqX_ok n) h (.inl hp) (.inl hq))
def gEqX (p q : PV) : Option PV := match eqXS (eqX 60) p q with
  | some b => some (.bl b)
  | none => gEq p q
def rEqXA (K : PySem.W.Frag) : R2 := fun x y H Q => rEqX K x y H Q ∨ rEqA K x y H Q
theorem op_eqXA {X : Cx} (hu : X.A.units + 64 < cLine) : OpR X (compareOp .Eq) (rEqXA X.K) := (op_eqX hu).or (op_eqA hu)
theorem pk_own {et : Hi} (c : Cel K mg H et W) {p : PV} {x : V} (h : Pk K mg p x H et W) {r : PV} (e : Mw.deref et p = r) (hr : (∃ xs, r = .lst xs) ∨ (∃ xs, r = .tup xs) ∨ ∃ xs, r = .dic xs) : VR K mg W H r x ∨ ∃ a, x = .ref a ∧ OwnAt K mg W H r a := by
  rcases hr with ⟨xs, rfl⟩ | ⟨xs, rfl⟩ | ⟨xs, rfl⟩
  · obtain ⟨a, vs, rfl, h1, h2⟩ := h.lst c e
    exact .inr ⟨a, rfl, vs, h1, h2⟩
  · obtain ⟨a, vs, rfl, h1, h2⟩ := h.tup e
    exact .inl (by unfold VR; exact ⟨a, vs, rfl, h1, h2⟩)
  · obtain ⟨a, vs, rfl, h1, h2⟩ := h.dic c e
    exact .inr ⟨a, rfl, vs, h1, h2⟩
theorem eqXS_kinds {e : PV → PV → Option Bool} {p q : PV} {b : Bool} (h : eqXS e p q = some b) : ((∃ xs, p = .lst xs) ∨ (∃ xs, p = .tup xs) ∨ ∃ xs, p = .dic xs) ∧ ((∃ xs, q = .lst xs) ∨ (∃ xs, q = .tup xs) ∨ ∃ xs, q = .dic xs) := by
  unfold eqXS at h
  split at h
  · exact ⟨.inl ⟨_, rfl⟩, .inl ⟨_, rfl⟩⟩
  · exact ⟨.inr (.inl ⟨_, rfl⟩), .inr (.inl ⟨_, rfl⟩)⟩
  · exact ⟨.inr (.inr ⟨_, rfl⟩), .inr (.inr ⟨_, rfl⟩)⟩
  · cases h
theorem o2_eqX : Op2 K mg (rEqXA K) gEqX (pV K mg) := by
  intro x y H et W p q z Q c hp hq hz k
  unfold gEqX at hz
  cases e : eqXS (eqX 60) (Mw.deref et p) (Mw.deref et q) with
  | none =>
    rw [e] at hz
    exact .inr (o2_eq x y H et W p q z Q c hp hq hz k)
  | some b =>
    rw [e] at hz; cases hz
    obtain ⟨k1, k2⟩ := eqXS_kinds e
    exact .inl ⟨60, b, Nat.le_refl _, eqXS_ok (eqX_ok 60) e (pk_own c hp rfl k1) (pk_own c hq rfl k2), k _ H W (Ext.refl ..) c VR.bl⟩
end
end Mw
namespace TS2
open PySem PySem.Spec PyProof.Rows L2
abbrev kd (P : Program) (w : World) : PySem.KeyKind P w Str := PySem.strKind P w
def keyS (e : Int × Value) : Str := match e.2 with
  | .str x _ => x
  | _ => Str.empty
def GoodS (P : Program) (w : World) (e : Int × Value) : Prop := ∃ k tk, e.2 = Value.str k tk ∧ e.1 = (kd P w).hash k
def SetX (P : Program) (w : World) (h : Heap) (a : Addr) (S : Str → Bool) (n : Nat) : Prop :=
  ∃ o es ep t, h.get? a = some o ∧ o.ExactSet ∧ o.data = .set es ep t ∧ ((∀ e ∈ es.toList, GoodS P w e) ∧ (es.toList.map keyS).Nodup ∧ ∀ k, S k = true ↔ k ∈ es.toList.map keyS) ∧
    es.size ≤ n ∧ es.size < scanBound ∧ t.fits es.size = true ∧ Ris t.place.toList ∧ (w.params.followText "set-order" = true ∨ t.led = true)
section
variable {P : Program} {w : World} {h h' : Heap} {a : Addr} {S S' : Str → Bool}
theorem SetX.keep {n : Nat} (R : SetX P w h a S n) (k : ∀ o, h.get? a = some o → h'.get? a = some o) : SetX P w h' a S n := by
  obtain ⟨o, es, ep, t, ho, r⟩ := R
  exact ⟨o, es, ep, t, k o ho, r⟩
theorem SetX.to {n : Nat} (R : SetX P w h a S n) (e : ∀ k, S' k = S k) : SetX P w h a S' n := funext e ▸ R
end
section
variable {P : Program} {w : World} {A : Around} {E : Value → Shared → Prop} {s : Shared} {a : Addr} {S : Str → Bool}
end
section
variable {P : Program} {w : World} {A : Around} {R : Result → Shared → Prop} {I : Addr} {fp wr : List Addr} {G : Array GenState → Array GenState → Prop} {n : Nat} {Pv : Nat → Value → Prop} {St : Nat → Shared → Prop}
end
section
variable {P : Program} {w : World} {A : Around} {E : Value → Shared → Prop} {s : Shared}
end
end TS2
namespace Mw
open PySem PySem.Spec PyProof.Rows L2
def leS (a b : Str) : Prop := ¬ b.cps.toList < a.cps.toList
instance (a b : Str) : Decidable (leS a b) := by unfold leS; exact inferInstance
section
variable {X : Cx} {K : PySem.W.Frag} {mg : Str → Option Value}
end
end Mw
namespace Mw
open PySem PySem.Spec L2
section
variable {X : Cx}
end
end Mw
namespace Mw
open PySem PySem.Spec L2
section
variable {K : PySem.W.Frag} {mg : Str → Option Value}
mutual
def bel (n : Nat) : PV → Bool
  | .ref k => decide (k < n)
  | .tup xs => bels n xs
  | .lst xs => bels n xs
  | .dic ks => belk n ks
  | .dik ks => belk n ks
  | _ => true
def bels (n : Nat) : List PV → Bool
  | [] => true
  | x :: xs => bel n x && bels n xs
def belk (n : Nat) : List (Key × PV) → Bool
  | [] => true
  | (_, x) :: xs => bel n x && belk n xs
end
def belf (n : Nat) : List (Str × PV) → Bool
  | [] => true
  | (_, x) :: xs => bel n x && belf n xs
def beln (n : Nat) : List (PV × PV) → Bool
  | [] => true
  | (x, y) :: xs => bel n x && bel n y && beln n xs
def belC (n : Nat) : Cell → Prop
  | .lst xs => bels n xs = true
  | .dic ks => belk n ks = true
  | .ins _ fs => belf n fs = true
  | .potO k _ => k < n
  | .nd kvs => beln n kvs = true
  | _ => True
section
variable {H : Hp} {W : Wd} {mu m : List Addr}
mutual
theorem VR.cut (hm : W.mu = mu ++ m) : ∀ (p : PV) (v : V), bel mu.length p = true → VR K mg W H p v → VR K mg ⟨W.fz, mu⟩ H p v
  | .non, v, _, h => by unfold VR at *; exact h
  | .bl b, v, _, h => by unfold VR at *; exact h
  | .int i, v, _, h => by unfold VR at *; exact h
  | .str z, v, _, h => by unfold VR at *; exact h
  | .tup xs, v, b, h => by
    unfold VR at *
    obtain ⟨a, vs, e, h1, h2⟩ := h
    exact ⟨a, vs, e, h1, VRs.cut_mu hm xs vs (by simpa [bel] using b) h2⟩
  | .lst xs, v, b, h => by
    unfold VR at *
    obtain ⟨a, vs, e, h1, h2, h3⟩ := h
    exact ⟨a, vs, e, h1, h2, VRs.cut_mu hm xs vs (by simpa [bel] using b) h3⟩
  | .dic ks, v, b, h => by
    unfold VR at *
    obtain ⟨a, vs, e, h1, h2, h3⟩ := h
    exact ⟨a, vs, e, h1, h2, VRk.cut_mu hm ks vs (by simpa [bel] using b) h3⟩
  | .scr ns, v, _, h => by unfold VR at *; exact h
  | .ref n, v, b, h => by
    unfold VR at *
    obtain ⟨a, e, h⟩ := h
    have hb : n < mu.length := by simpa [bel] using b
    refine ⟨a, e, ?_⟩
    rw [hm, List.getElem?_append_left hb] at h
    exact h
  | .glo z, v, _, h => by unfold VR at *; exact h
  | .ty t, v, _, h => by unfold VR at *; exact h
  | .dik ks, v, b, h => by
    unfold VR at *
    obtain ⟨a, o, vs, e, h2, h3⟩ := h
    exact ⟨a, o, vs, e, h2, VRk.cut_mu hm ks vs (by simpa [bel] using b) h3⟩
theorem VRs.cut_mu (hm : W.mu = mu ++ m) : ∀ (p : List PV) (v : List V), bels mu.length p = true → VRs K mg W H p v → VRs K mg ⟨W.fz, mu⟩ H p v
  | [], v, _, h => by unfold VRs at *; exact h
  | p :: ps, vs, b, h => by
    unfold VRs at *
    obtain ⟨v, r, e, h1, h2⟩ := h
    simp only [bels, Bool.and_eq_true] at b
    exact ⟨v, r, e, VR.cut hm p v b.1 h1, VRs.cut_mu hm ps r b.2 h2⟩
theorem VRk.cut_mu (hm : W.mu = mu ++ m) : ∀ (p : List (Key × PV)) (v : List (Key × V)), belk mu.length p = true → VRk K mg W H p v → VRk K mg ⟨W.fz, mu⟩ H p v
  | [], v, _, h => by unfold VRk at *; exact h
  | (k, p) :: ps, vs, b, h => by
    unfold VRk at *
    obtain ⟨v, r, e, h1, h2⟩ := h
    simp only [belk, Bool.and_eq_true] at b
    exact ⟨v, r, e, VR.cut hm p v b.1 h1, VRk.cut_mu hm ps r b.2 h2⟩
end
theorem VRf.cut_mu (hm : W.mu = mu ++ m) : ∀ (p : List (Str × PV)) (v : List (Str × V)), belf mu.length p = true → VRf K mg W H p v → VRf K mg ⟨W.fz, mu⟩ H p v
  | [], v, _, h => by unfold VRf at *; exact h
  | (k, p) :: ps, vs, b, h => by
    unfold VRf at *
    obtain ⟨v, r, e, h1, h2⟩ := h
    simp only [belf, Bool.and_eq_true] at b
    exact ⟨v, r, e, VR.cut hm p v b.1 h1, VRf.cut_mu hm ps r b.2 h2⟩
end
theorem VRn.cut_mu {H : Hp} {W : Wd} {mu m : List Addr} (hm : W.mu = mu ++ m) : ∀ (p : List (PV × PV)) (v : List (NestedKey × Addr × V)), beln mu.length p = true → VRn K mg W H p v → VRn K mg ⟨W.fz, mu⟩ H p v
  | [], v, _, h => by unfold VRn at *; exact h
  | (p, q) :: ps, vs, b, h => by
    unfold VRn at *
    obtain ⟨k, a, v, r, e, h1, h2, h3, h4, h5, h6⟩ := h
    simp only [beln, Bool.and_eq_true] at b
    exact ⟨k, a, v, r, e, h1, h2, h3, VR.cut hm p _ b.1.1 h4, VR.cut hm q v b.1.2 h5, VRn.cut_mu hm ps r b.2 h6⟩
theorem gc {H H' : Hp} {et junk : Hi} {W W' : Wd} (x : Ext NoO H et W H' (et ++ junk) W') (c : Cel K mg H et W) (c' : Cel K mg H' (et ++ junk) W') (hb : ∀ d ∈ et, belC et.length d) :
    ∃ W'', Ext NoO H et W H' et W'' ∧ Cel K mg H' et W'' ∧ ∀ p v, bel et.length p = true → VR K mg W' H' p v → VR K mg W'' H' p v := by
  obtain ⟨m, hm⟩ := x.mu
  have hlen := c.len
  have up : ∀ a, Live et ⟨W'.fz, W.mu⟩ a → Live (et ++ junk) W' a := fun a ⟨i, d, h1, h2, h3⟩ => by
    have hi := (List.getElem?_eq_some_iff.mp h1).1
    exact ⟨i, d, by rw [List.getElem?_append_left hi]; exact h1, h2, by rw [hm, List.getElem?_append_left (by omega)]; exact h3⟩
  refine ⟨⟨W'.fz, W.mu⟩, ⟨x.fz, x.nfz, ⟨[], by simp⟩, fun a h => x.live a (up a h), x.keep, x.there⟩, ⟨hlen, fun i d a h1 h2 => ?_, fun i j d e a h1 h2 h3 h4 h5 h6 => ?_, fun a h z => c'.fzl a h (up a z), c'.fzh⟩, fun p v b h => VR.cut hm p v (by rw [← hlen]; exact b) h⟩
  · have hi := (List.getElem?_eq_some_iff.mp h1).1
    have k := c'.ok i d a (by rw [List.getElem?_append_left hi]; exact h1) (by rw [hm, List.getElem?_append_left (by omega)]; exact h2)
    have b := hb d (List.mem_of_getElem? h1)
    cases d with
    | dead => trivial
    | lst xs => obtain ⟨vs, k1, k2⟩ := k; exact ⟨vs, k1, VRs.cut_mu hm _ _ (by rw [← hlen]; exact b) k2⟩
    | dic xs => obtain ⟨vs, k1, k2⟩ := k; exact ⟨vs, k1, VRk.cut_mu hm _ _ (by rw [← hlen]; exact b) k2⟩
    | ins n fs => obtain ⟨C, dx, gs, k0, k1, k2⟩ := k; exact ⟨C, dx, gs, k0, k1, VRf.cut_mu hm _ _ (by rw [← hlen]; exact b) k2⟩
    | potO k' n =>
      obtain ⟨b', sd, ct, k0, k1⟩ := k
      have hk : k' < et.length := b
      exact ⟨b', sd, ct, by rw [hm, List.getElem?_append_left (by omega)] at k0; exact k0, k1⟩
    | potI => exact k
    | inv P => exact k
    | exc _ _ => exact k
    | nd kvs => exact k.imp_right fun ⟨es, k1, k2⟩ => ⟨es, k1, VRn.cut_mu hm _ _ (by rw [← hlen]; exact b) k2⟩
  · have hi := (List.getElem?_eq_some_iff.mp h1).1
    have hj := (List.getElem?_eq_some_iff.mp h2).1
    exact c'.inj i j d e a (by rw [List.getElem?_append_left hi]; exact h1) (by rw [List.getElem?_append_left hj]; exact h2) h3 h4 (by rw [hm, List.getElem?_append_left (by omega)]; exact h5) (by rw [hm, List.getElem?_append_left (by omega)]; exact h6)
end
end Mw
namespace Mw
open PySem PySem.Spec L2
def putFP (f : Str) (p : PV) : List (Str × PV) → List (Str × PV)
  | [] => [(f, p)]
  | (g, x) :: r => if g = f then (g, p) :: r else (g, x) :: putFP f p r
section
variable {K : PySem.W.Frag} {mg : Str → Option Value} {H : Hp} {et : Hi} {W : Wd}
theorem VRf.len : ∀ {fs : List (Str × PV)} {gs : List (Str × V)}, VRf K mg W H fs gs → fs.length = gs.length
  | [], gs, h => by unfold VRf at h; rw [h]; rfl
  | (k, p) :: fs, gs, h => by
    unfold VRf at h
    obtain ⟨v, r, rfl, _, h2⟩ := h
    rw [List.length_cons, List.length_cons, VRf.len h2]
theorem VRf.get {f : Str} {p : PV} : ∀ {fs : List (Str × PV)} {gs : List (Str × V)}, VRf K mg W H fs gs → fs.lookup f = some p → ∃ v, gs.lookup f = some v ∧ VR K mg W H p v
  | [], gs, h, e => by cases e
  | (k, q) :: fs, gs, h, e => by
    unfold VRf at h
    obtain ⟨v, r, rfl, h1, h2⟩ := h
    by_cases hk : (f == k) = true
    · simp only [List.lookup, hk] at e ⊢
      cases e
      exact ⟨v, rfl, h1⟩
    · have hk' : (f == k) = false := by simpa using hk
      simp only [List.lookup, hk'] at e ⊢
      exact VRf.get h2 e
theorem VRf.put {f : Str} {p : PV} {v : V} (hv : VR K mg W H p v) : ∀ {fs : List (Str × PV)} {gs : List (Str × V)}, VRf K mg W H fs gs → VRf K mg W H (putFP f p fs) (putF f v gs)
  | [], gs, h => by
    unfold VRf at h; subst h
    unfold putFP putF VRf
    exact ⟨v, [], rfl, hv, by unfold VRf; rfl⟩
  | (k, q) :: fs, gs, h => by
    unfold VRf at h
    obtain ⟨u, r, rfl, h1, h2⟩ := h
    unfold putFP putF
    by_cases hk : k = f
    · rw [if_pos hk, if_pos hk]; unfold VRf; exact ⟨v, r, rfl, hv, h2⟩
    · rw [if_neg hk, if_neg hk]; unfold VRf; exact ⟨u, _, rfl, h1, VRf.put hv h2⟩
theorem Cel.push (c : Cel K mg H et W) {a : Addr} {d : Cell} (hf : ¬ W.fz a) (hl : ¬ Live et W a) (ho : CellOk K mg ⟨W.fz, W.mu ++ [a]⟩ H d a) :
    Cel K mg H (et ++ [d]) ⟨W.fz, W.mu ++ [a]⟩ ∧ (∀ b, Live (et ++ [d]) ⟨W.fz, W.mu ++ [a]⟩ b → Live et W b ∨ b = a) ∧ VR K mg ⟨W.fz, W.mu ++ [a]⟩ H (.ref et.length) (.ref a) ∧ (∀ q v, VR K mg W H q v → VR K mg ⟨W.fz, W.mu ++ [a]⟩ H q v) := by
  have hlen := c.len
  have x0 : Ext NoO H et W H et ⟨W.fz, W.mu ++ [a]⟩ := ⟨fun _ h => h, fun _ h => .inl h, ⟨[a], rfl⟩, fun b ⟨i, e, g1, g2, g3⟩ => by
    have g3' : (W.mu ++ [a])[i]? = some b := g3
    have : i < et.length := (List.getElem?_eq_some_iff.mp g1).1
    rw [List.getElem?_append_left (by omega)] at g3'
    exact .inl ⟨i, e, g1, g2, g3'⟩, fun _ _ h _ _ => h, fun _ h => h⟩
  have low : ∀ {k : Nat} {u : Cell} {b : Addr}, (et ++ [d])[k]? = some u → (W.mu ++ [a])[k]? = some b → (k < et.length ∧ et[k]? = some u ∧ W.mu[k]? = some b) ∨ (k = et.length ∧ u = d ∧ b = a) := fun {k u b} g1 g3 => by
    by_cases hk : k < et.length
    · rw [List.getElem?_append_left hk] at g1
      rw [List.getElem?_append_left (by omega)] at g3
      exact .inl ⟨hk, g1, g3⟩
    · have hk2 : k = et.length := by
        have := (List.getElem?_eq_some_iff.mp g1).1
        rw [List.length_append, List.length_singleton] at this
        omega
      subst hk2
      rw [List.getElem?_append_right (Nat.le_refl _)] at g1
      rw [hlen, List.getElem?_append_right (Nat.le_refl _)] at g3
      simp at g1 g3
      exact .inr ⟨rfl, g1.symm, g3.symm⟩
  have hlv : ∀ b, Live (et ++ [d]) ⟨W.fz, W.mu ++ [a]⟩ b → Live et W b ∨ b = a := fun b ⟨j, u, h1, h2, h3⟩ => by
    rcases low h1 h3 with ⟨_, a2, a3⟩ | ⟨_, _, e⟩
    · exact .inl ⟨j, u, a2, h2, a3⟩
    · exact .inr e
  refine ⟨⟨by show (et ++ [d]).length = (W.mu ++ [a]).length; simp [hlen], fun j u b h1 h2 => ?_, fun i j u w b h1 h2 h3 h4 h5 h6 => ?_, fun b h z => ?_, c.fzh⟩, hlv, ?_, fun q v h => VR.ext x0 c.stays0 q v h⟩
  · rcases low h1 h2 with ⟨_, a2, a3⟩ | ⟨_, rfl, rfl⟩
    · exact CellOk.ext x0 c.stays0 (c.ok j u b a2 a3) fun _ => rfl
    · exact ho
  · rcases low h1 h5 with ⟨a1, a2, a3⟩ | ⟨a1, _, a4⟩
    · rcases low h2 h6 with ⟨b1, b2, b3⟩ | ⟨b1, _, b4⟩
      · exact c.inj i j u w b a2 b2 h3 h4 a3 b3
      · subst b4; exact absurd ⟨i, u, a2, h3, a3⟩ hl
    · rcases low h2 h6 with ⟨b1, b2, b3⟩ | ⟨b1, _, b4⟩
      · subst a4; exact absurd ⟨j, w, b2, h4, b3⟩ hl
      · omega
  · rcases hlv b z with z | rfl
    · exact c.fzl b h z
    · exact hf h
  · unfold VR
    exact ⟨a, rfl, by show (W.mu ++ [a])[et.length]? = some a; rw [hlen]; simp⟩
end
section
variable {K : PySem.W.Frag} {mg : Str → Option Value} {c f : Str} {C : Addr} {cs : List Str}
end
section
variable {X : Cx} {o e : Expr} {es : List Expr} {mo mv : EM PV} {ms : EM (List PV)} {pos pos' apos : Pos} {f : Str} {cs : List Str}
section
variable {c m : Str} {C fa : Addr} {fd : FuncData} {ps : List Str} {k n : Nat} {sp : FSpec}
end
end
end Mw
namespace TS3
open PySem PySem.Spec PyProof.Rows L2 SrtO Srt Mw
def headS (h : Heap) (v : Value) : Str := match v with
  | .ref a => match h.get? a with
    | some o => match o.data with
      | .seq its _ => match its[0]? with
        | some (Value.str x _) => x
        | _ => Str.empty
      | _ => Str.empty
    | none => Str.empty
  | _ => Str.empty
def IsTS (h : Heap) (v : Value) : Prop := ∃ a o x t r n, v = .ref a ∧ h.get? a = some o ∧ o.cls = .type "tuple" ∧ o.data = .seq (List.toArray (Value.str x t :: r)) n
theorem head_of {h : Heap} {a : Addr} {o : Obj} {x : Str} {t : Tok} {r : List Value} {n : Nat} (ho : h.get? a = some o) (hd : o.data = .seq (List.toArray (Value.str x t :: r)) n) : headS h (.ref a) = x := by
  unfold headS
  simp only [ho, hd]
  rfl
theorem IsTS.keeps {h h' : Heap} {v : Value} (p : IsTS h v) (k : ∀ b o, h.get? b = some o → o.cls = .type "tuple" → h'.get? b = some o) : IsTS h' v ∧ headS h' v = headS h v := by
  obtain ⟨a, o, x, t, r, n, rfl, ho, hc, hd⟩ := p
  have ho' := k _ _ ho hc
  exact ⟨⟨a, o, x, t, r, n, rfl, ho', hc, hd⟩, by rw [head_of ho' hd, head_of ho hd]⟩
section
variable {prog : Program} {w : World} {A : Around} {E : Value → Shared → Prop} {s : Shared}
end
section
variable {X : Cx}
end
end TS3
namespace Mw
open PySem PySem.Spec L2
section
variable {X : Cx} {K : PySem.W.Frag} {mg : Str → Option Value}
end
section
variable {X : Cx}
end
end Mw
namespace Mw
open PySem PySem.Spec PyProof.Rows L2
section
variable {X : Cx}
end
section
variable {K : PySem.W.Frag} {mg : Str → Option Value}
end
theorem atI_c3 {α : Type} (x y z u : α) (xs : List α) : atI (x :: y :: z :: u :: xs) 3 = some u := by
  unfold atI ixN; simp
  rw [if_pos (by omega)]; rfl
theorem atI_c4 {α : Type} (x y z u v : α) (xs : List α) : atI (x :: y :: z :: u :: v :: xs) 4 = some v := by
  unfold atI ixN; simp
  rw [if_pos (by omega)]; rfl
end Mw
namespace HT
open PySem PySem.Spec PyProof.Rows L2
section
variable {prog : Program} {w : World} {A : Around} {E : Value → Shared → Prop} {s : Shared}
end
end HT
namespace Mw
open PySem PySem.Spec PyProof.Rows L2
end Mw
namespace Mw
open PySem PySem.Spec PyProof.Rows L2
section
variable {X : Cx}
end
def keysZ : List PV → Option (List Key)
  | [] => some []
  | p :: r => (keyP p).bind fun k => (keysZ r).map fun ks => k :: ks
section
variable {K : PySem.W.Frag} {mg : Str → Option Value} {W : Wd} {H : Hp}
theorem VRs.keys : ∀ {xs : List PV} {vs : List V} {ks : List Key}, VRs K mg W H xs vs → keysZ xs = some ks → vs = ks.map kV
  | [], vs, ks, h, e => by
    cases e; unfold VRs at h; subst h; rfl
  | p :: r, vs, ks, h, e => by
    obtain ⟨v, us, rfl, h1, h2⟩ := VRs.uncons h
    unfold keysZ at e
    cases ek : keyP p with
    | none => rw [ek] at e; cases e
    | some key =>
      rw [ek, Option.bind_some] at e
      cases er : keysZ r with
      | none => rw [er] at e; cases e
      | some kr =>
        rw [er] at e; cases e
        rw [VRs.keys h2 er, h1.key ek]; rfl
end
section
variable {X : Cx}
end
section
variable {K : PySem.W.Frag} {mg : Str → Option Value} {W : Wd} {H : Hp}
end
section
variable {X : Cx}
end
section
variable {X : Cx} {e : Expr} {es : List Expr} {ms : EM (List PV)} {x : Str} {p pos : Pos} {i k n : Nat} {S : Str → FSpec}
end
end Mw
namespace Mw
open PySem PySem.Spec PyProof.Rows L2
end Mw
namespace Mw
open PySem PySem.Spec PyProof.Rows L2
section
variable {X : Cx} {ms : EM (List PV)} {pos : Pos}
end
end Mw
namespace Mw
open PySem PySem.Spec L2
section
variable {K : PySem.W.Frag} {mg : Str → Option Value}
end
end Mw
namespace L2
open PySem PySem.Spec PyProof.Rows
section
variable {X : Cx}
end
end L2
namespace Mw
open PySem PySem.Spec L2
section
variable {K : PySem.W.Frag} {mg : Str → Option Value}
end
end Mw
namespace Mw
open PySem PySem.Spec L2
section
variable {X : Cx} {st : Stmt} {rest : List Stmt} {m n : SM} {e : Expr} {me : EM PV} {pos : Pos}
end
section
variable {X : Cx} {tg e : Expr} {me : EM PV} {ms : EM (List PV)} {pos : Pos}
end
section
variable {X : Cx} {pos : Pos}
end
end Mw
namespace Mw
open PySem PySem.Spec L2
section
variable {X : Cx} {a b : Expr} {ma mb : EM PV} {pos : Pos}
end
end Mw
namespace Mw
open PySem PySem.Spec L2
section
variable {X : Cx}
end
section
variable {K : PySem.W.Frag} {mg : Str → Option Value} {H : Hp} {et : Hi} {W : Wd}
theorem VRk.keys : ∀ {ks : List (Key × PV)} {vs : List (Key × V)}, VRk K mg W H ks vs → vs.map (·.1) = ks.map (·.1)
  | [], vs, h => by unfold VRk at h; subst h; rfl
  | (k, p) :: ks, vs, h => by
    unfold VRk at h
    obtain ⟨v, r, rfl, _, h2⟩ := h
    rw [List.map_cons, List.map_cons, VRk.keys h2]
end
section
variable {X : Cx} {e tg : Expr} {me : EM PV} {m : SM} {st : Stmt}
end
end Mw
namespace Mw
open PySem PySem.Spec L2
section
variable {K : PySem.W.Frag} {mg : Str → Option Value} {W : Wd} {H : Hp}
end
end Mw
namespace Mw
open PySem PySem.Spec L2
section
variable {X : Cx} {m : EM PV} {pos : Pos}
end
end Mw
namespace Mw
open PySem PySem.Spec L2
abbrev PrE : List (NestedKey × Addr × V) → List (NestedKey × Addr × Value) → Prop := Paired fun p q => p.1 = q.1 ∧ p.2.1 = q.2.1 ∧ RelV p.2.2 q.2.2
def atE (es : List (NestedKey × Addr × V)) (k : NestedKey) : Option V := (es.find? fun e => decide (e.1 = k)).map (·.2.2)
def putE (es : List (NestedKey × Addr × V)) (k : NestedKey) (b : Addr) (v : V) : List (NestedKey × Addr × V) :=
  if (atE es k).isSome = true then es.map (fun x => if x.1 = k then (x.1, x.2.1, v) else x) else es ++ [(k, b, v)]
theorem PrE.at {k : NestedKey} : ∀ {es : List (NestedKey × Addr × V)} {xs : List (NestedKey × Addr × Value)}, PrE es xs → RelO (atE es k) ((atKey xs k).map (·.2))
  | _, _, .nil => trivial
  | _, _, @Paired.cons _ _ _ p q es xs h t => by
    by_cases e : p.1 = k
    · have e' : q.1 = k := by rw [← h.1]; exact e
      simp [atE, atKey, List.find?, e, e', RelO]
      exact h.2.2
    · have e' : ¬ q.1 = k := by rw [← h.1]; exact e
      have := PrE.at (k := k) t
      simpa [atE, atKey, List.find?, e, e'] using this
theorem PrE.length {es : List (NestedKey × Addr × V)} {xs : List (NestedKey × Addr × Value)} (h : PrE es xs) : es.length = xs.length := Paired.length h
theorem PrE.map {k : NestedKey} {v : V} {u : Value} (r : RelV v u) : ∀ {es : List (NestedKey × Addr × V)} {xs : List (NestedKey × Addr × Value)}, PrE es xs → PrE (es.map fun x => if x.1 = k then (x.1, x.2.1, v) else x) (xs.map (putAt k u))
  | _, _, .nil => .nil
  | _, _, @Paired.cons _ _ _ p q es xs h t => by
    refine .cons ?_ (PrE.map r t)
    by_cases e : p.1 = k
    · have e' : q.1 = k := by rw [← h.1]; exact e
      simp only [if_pos e, putAt, if_pos e']
      exact ⟨h.1, h.2.1, r⟩
    · have e' : ¬ q.1 = k := by rw [← h.1]; exact e
      simp only [if_neg e, putAt, if_neg e']
      exact h
theorem Paired.snoc {α β : Type} {F : α → β → Prop} {x : α} {y : β} (h : F x y) : ∀ {l : List α} {m : List β}, Paired F l m → Paired F (l ++ [x]) (m ++ [y])
  | _, _, .nil => .cons h .nil
  | _, _, .cons a t => .cons a (Paired.snoc h t)
theorem PrE.put {es : List (NestedKey × Addr × V)} {xs : List (NestedKey × Addr × Value)} (h : PrE es xs) (k : NestedKey) (b : Addr) {v : V} {u : Value} (r : RelV v u) : PrE (putE es k b v) (storedH xs k b u) := by
  have ha := PrE.at (k := k) h
  unfold putE storedH
  cases e1 : atE es k with
  | some x =>
    cases e2 : atKey xs k with
    | none => rw [e1, e2] at ha; exact ha.elim
    | some y => exact PrE.map r h
  | none =>
    cases e2 : atKey xs k with
    | some y => rw [e1, e2] at ha; exact ha.elim
    | none => exact Paired.snoc ⟨rfl, rfl, r⟩ h
theorem PrE.keys {es : List (NestedKey × Addr × V)} {xs : List (NestedKey × Addr × Value)} (h : PrE es xs) : es.map (·.1) = xs.map (·.1) := by
  induction h with
  | nil => rfl
  | cons a t ih => rw [List.map_cons, List.map_cons, a.1, ih]
section
variable {X : Cx} {pins : List (Addr × Obj)} {σ : L2.St} {H : Hp} {s : Shared} {a b : Addr} {es : List (NestedKey × Addr × V)} {k : NestedKey} {v : V} {u : Value} {A : Around} {E : Value → Shared → Prop}
end
section
variable {X : Cx} {o i e value : Expr} {pos pos' tpos : Pos} {td ty tv : TE}
end
def ndAt (kvs : List (PV × PV)) (p : PV) : Option PV := (kvs.find? fun kv => decide (nkP kv.1 = nkP p)).map (·.2)
def ndPut (kvs : List (PV × PV)) (p v : PV) : List (PV × PV) := if (ndAt kvs p).isSome = true then kvs.map (fun kv => if nkP kv.1 = nkP p then (kv.1, v) else kv) else kvs ++ [(p, v)]
section
variable {K : PySem.W.Frag} {mg : Str → Option Value} {W : Wd} {H : Hp}
theorem VRn.at {p : PV} {k : NestedKey} (hk : nkP p = some k) : ∀ {kvs : List (PV × PV)} {es : List (NestedKey × Addr × V)}, VRn K mg W H kvs es → (∀ q, ndAt kvs p = some q → ∃ v, atE es k = some v ∧ VR K mg W H q v) ∧ (ndAt kvs p = none → atE es k = none)
  | [], es, h => by unfold VRn at h; subst h; exact ⟨(fun q e => nomatch e), fun _ => rfl⟩
  | (x, y) :: kvs, es, h => by
    unfold VRn at h
    obtain ⟨k', b, v, r, rfl, h1, _, _, h4, h5, h6⟩ := h
    have ih := VRn.at hk h6
    by_cases e : k' = k
    · have e' : nkP x = nkP p := by rw [h1, hk, e]
      refine ⟨fun q hq => ⟨v, by simp [atE, List.find?, e], ?_⟩, fun hn => by simp [ndAt, List.find?, e'] at hn⟩
      have : y = q := by simpa [ndAt, List.find?, e'] using hq
      rw [← this]; exact h5
    · have e' : ¬ nkP x = nkP p := by rw [h1, hk]; exact fun z => e (Option.some.inj z)
      have e1 : atE ((k', b, v) :: r) k = atE r k := by simp [atE, List.find?, e]
      have e2 : ndAt ((x, y) :: kvs) p = ndAt kvs p := by simp [ndAt, List.find?, e']
      rw [e1, e2]; exact ih
theorem VRn.at_some {p : PV} {k : NestedKey} (hk : nkP p = some k) {kvs : List (PV × PV)} {es : List (NestedKey × Addr × V)} (h : VRn K mg W H kvs es) : (atE es k).isSome = (ndAt kvs p).isSome := by
  cases e : ndAt kvs p with
  | none => rw [(VRn.at hk h).2 e]; rfl
  | some q => obtain ⟨v, e1, _⟩ := (VRn.at hk h).1 q e; rw [e1]; rfl
theorem VRn.len : ∀ {kvs : List (PV × PV)} {es : List (NestedKey × Addr × V)}, VRn K mg W H kvs es → kvs.length = es.length
  | [], es, h => by unfold VRn at h; subst h; rfl
  | (x, y) :: kvs, es, h => by
    unfold VRn at h
    obtain ⟨k', b, v, r, rfl, _, _, _, _, _, h6⟩ := h
    rw [List.length_cons, List.length_cons, VRn.len h6]
theorem VRn.snoc {p q : PV} {k : NestedKey} {b : Addr} {v : V} (hk : nkP p = some k) (hl : nlow k = true) (h8 : k.depth ≤ 8) (hp : VR K mg W H p (.ref b)) (hq : VR K mg W H q v) : ∀ {kvs : List (PV × PV)} {es : List (NestedKey × Addr × V)}, VRn K mg W H kvs es → VRn K mg W H (kvs ++ [(p, q)]) (es ++ [(k, b, v)])
  | [], es, h => by unfold VRn at h; subst h; unfold VRn; exact ⟨k, b, v, [], rfl, hk, hl, h8, hp, hq, by unfold VRn; rfl⟩
  | (x, y) :: kvs, es, h => by
    unfold VRn at h
    obtain ⟨k', b', v', r, rfl, h1, h2, h3, h4, h5, h6⟩ := h
    show VRn K mg W H ((x, y) :: (kvs ++ [(p, q)])) _
    unfold VRn
    exact ⟨k', b', v', r ++ [(k, b, v)], rfl, h1, h2, h3, h4, h5, VRn.snoc hk hl h8 hp hq h6⟩
theorem VRn.map {p q : PV} {k : NestedKey} {v : V} (hk : nkP p = some k) (hq : VR K mg W H q v) : ∀ {kvs : List (PV × PV)} {es : List (NestedKey × Addr × V)}, VRn K mg W H kvs es → VRn K mg W H (kvs.map fun kv => if nkP kv.1 = nkP p then (kv.1, q) else kv) (es.map fun x => if x.1 = k then (x.1, x.2.1, v) else x)
  | [], es, h => by unfold VRn at h; subst h; unfold List.map; unfold VRn; rfl
  | (x, y) :: kvs, es, h => by
    unfold VRn at h
    obtain ⟨k', b', v', r, rfl, h1, h2, h3, h4, h5, h6⟩ := h
    have ih := VRn.map hk hq h6
    rw [List.map_cons, List.map_cons]
    by_cases e : k' = k
    · have e' : nkP x = nkP p := by rw [h1, hk, e]
      simp only [if_pos e, if_pos e']
      unfold VRn
      exact ⟨k', b', v, _, rfl, h1, h2, h3, h4, hq, ih⟩
    · have e' : ¬ nkP x = nkP p := by rw [h1, hk]; exact fun z => e (Option.some.inj z)
      simp only [if_neg e, if_neg e']
      unfold VRn
      exact ⟨k', b', v', _, rfl, h1, h2, h3, h4, h5, ih⟩
theorem VRn.put {p q : PV} {k : NestedKey} {b : Addr} {v : V} (hk : nkP p = some k) (hl : nlow k = true) (h8 : k.depth ≤ 8) (hp : VR K mg W H p (.ref b)) (hq : VR K mg W H q v) {kvs : List (PV × PV)} {es : List (NestedKey × Addr × V)} (h : VRn K mg W H kvs es) : VRn K mg W H (ndPut kvs p q) (putE es k b v) := by
  unfold ndPut putE
  rw [VRn.at_some hk h]
  split
  · exact VRn.map hk hq h
  · exact VRn.snoc hk hl h8 hp hq h
end
section
variable {X : Cx} {W : Wd} {H : Hp}
end
section
variable {X : Cx} {a b o i e : Expr} {ma mb mo mk mv : EM PV} {pos pos' : Pos}
end
end Mw
namespace Mw
open PySem PySem.Spec L2
section
variable {K : PySem.W.Frag} {mg : Str → Option Value}
end
end Mw
namespace Mw
open PySem PySem.Spec L2
section
variable {X : Cx} {e o : Expr} {mo : EM PV} {pos p : Pos}
end
end Mw
namespace Mw
open PySem PySem.Spec L2 PyProof.Rows RT
section
variable {X : Cx}
end
end Mw
namespace Mw
open PySem PySem.Spec L2
section
variable {X : Cx} {a b : Expr} {ma mb : EM PV} {pos : Pos}
end
end Mw
namespace Mw
open PySem PySem.Spec L2
section
variable {prog : Program} {w : World} {A : Around} {E : Value → Shared → Prop} {s : Shared}
end
section
variable {X : Cx}
end
end Mw
namespace Mw
open PySem PySem.Spec L2 PyProof.Rows
section
variable {K : PySem.W.Frag} {mg : Str → Option Value}
end
end Mw
namespace Mw
open PySem PySem.Spec L2 PyProof.Rows
mutual
def VD (K : PySem.W.Frag) (H : Hp) : PyData → V → Prop
  | .int i, v => v = .int i
  | .str x, v => v = .str x
  | .bool b, v => v = .bl b
  | .none, v => v = .non
  | .tuple xs, v => ∃ a vs, v = .ref a ∧ SqT K H a vs ∧ VDs K H xs vs
  | .list _, _ => False
  | .dict _, _ => False
def VDs (K : PySem.W.Frag) (H : Hp) : List PyData → List V → Prop
  | [], vs => vs = []
  | d :: ds, vs => ∃ v r, vs = v :: r ∧ VD K H d v ∧ VDs K H ds r
end
section
variable {X : Cx} {pins : List (Addr × Obj)} {σ : L2.St} {H : Hp} {s : Shared} {W : Wd} {K : PySem.W.Frag} {mg : Str → Option Value}
mutual
theorem VD.reads (I : Inv X pins σ H s) : ∀ (d : PyData) (v : V) (u : Value), VD X.K H d v → L2.RelV v u → ∃ as, Reads s.heap u d as
  | .int i, v, u, h, r => by unfold VD at h; subst h; obtain ⟨t, rfl⟩ := r; exact ⟨_, .int i t⟩
  | .str x, v, u, h, r => by unfold VD at h; subst h; obtain ⟨t, rfl⟩ := r; exact ⟨_, .str x t⟩
  | .bool b, v, u, h, r => by unfold VD at h; subst h; unfold L2.RelV at r; subst r; exact ⟨_, .bool b⟩
  | .none, v, u, h, r => by unfold VD at h; subst h; unfold L2.RelV at r; subst r; exact ⟨_, .none⟩
  | .tuple xs, v, u, h, r => by
    unfold VD at h
    obtain ⟨a, vs, rfl, h1, h2⟩ := h
    obtain rfl : u = Value.ref a := r
    obtain ⟨its, rv, ⟨o, ho, hc, n, hd⟩, _⟩ := I.tuple h1
    obtain ⟨as, q⟩ := VDs.reads I xs vs its h2 rv
    exact ⟨as, .tuple ho hc hd q⟩
  | .list xs, v, u, h, r => by unfold VD at h; exact h.elim
  | .dict xs, v, u, h, r => by unfold VD at h; exact h.elim
theorem VDs.reads (I : Inv X pins σ H s) : ∀ (ds : List PyData) (vs : List V) (us : List Value), VDs X.K H ds vs → Vals vs us → ∃ as, ReadsAll s.heap us ds as
  | [], vs, us, h, r => by unfold VDs at h; subst h; cases r; exact ⟨_, .nil⟩
  | d :: ds, vs, us, h, r => by
    unfold VDs at h
    obtain ⟨v, vr, rfl, h1, h2⟩ := h
    cases r with
    | cons r1 r2 =>
      obtain ⟨as, q1⟩ := VD.reads I d v _ h1 r1
      obtain ⟨bs, q2⟩ := VDs.reads I ds vr _ h2 r2
      exact ⟨_, .cons q1 q2⟩
end
end
open PySem.W (minD AllAlike AlikeAll Sortable dataLe dataLt alike)
section
variable {X : Cx}
end
theorem VDs.at {K : PySem.W.Frag} {H : Hp} : ∀ {ds : List PyData} {vs : List V} {i : Nat} {v : V}, VDs K H ds vs → vs[i]? = some v → ∃ d, ds[i]? = some d ∧ VD K H d v
  | [], vs, i, v, h, e => by unfold VDs at h; subst h; cases e
  | d :: ds, vs, i, v, h, e => by
    unfold VDs at h
    obtain ⟨u, r, rfl, h1, h2⟩ := h
    cases i with
    | zero => cases e; exact ⟨d, rfl, h1⟩
    | succ i =>
      obtain ⟨d', e1, e2⟩ := VDs.at (ds := ds) (vs := r) (i := i) h2 (by simpa using e)
      exact ⟨d', by simpa using e1, e2⟩
section
variable {X : Cx}
end
section
variable {X : Cx}
end
end Mw
namespace Mw
open PySem PySem.Spec L2
section
variable {K : PySem.W.Frag} {mg : Str → Option Value}
end
end Mw
namespace Mw
open PySem PySem.Spec PyProof.Rows L2
open PySem.Sem (wp)
theorem srcK.at {b : Bool} {h h' : Heap} {a : Addr} {its : Array Value} (x : srcK b h a its) (k : ∀ o, h.get? a = some o → h'.get? a = some o) : srcK b h' a its := by
  rcases x with ⟨e, x⟩ | ⟨e, x⟩
  · exact .inl ⟨e, x.at k⟩
  · exact .inr ⟨e, x.at k⟩
section
variable {prog : Program} {w : World} {A : Around} {E : Value → Shared → Prop} {s : Shared} {z TI TO T i1 i2 : Addr} {fp1 fp2 : List Addr} {n1 n2 i : Nat} {P1 P2 : Nat → Value → Prop} {St1 St2 : Nat → Heap → Prop} {f : Bool} {oT : Obj}
end
section
variable {prog : Program} {w : World}
end
section
variable {X : Cx}
end
section
variable {X : Cx}
end
end Mw
namespace Mw
open PySem PySem.Spec PyProof.Rows L2
section
variable {K : PySem.W.Frag} {mg : Str → Option Value}
end
end Mw
namespace Mw
open PySem PySem.Spec L2
section
variable {X : Cx} {tg : Expr} {me : EM PV} {pos : Pos}
end
end Mw
namespace Mw
open PySem PySem.Spec L2
section
variable {X : Cx} {tg : Expr} {me : EM PV} {pos : Pos}
end
section
variable {K : PySem.W.Frag} {mg : Str → Option Value}
end
end Mw
namespace Mw
open PySem PySem.Spec L2
section
variable {K : PySem.W.Frag} {mg : Str → Option Value} {H H' : Hp} {et : Hi} {W : Wd}
theorem VRk.append {ks ls : List (Key × PV)} {vs us : List (Key × V)} (h : VRk K mg W H ks vs) (h' : VRk K mg W H ls us) : VRk K mg W H (ks ++ ls) (vs ++ us) := by
  induction ks generalizing vs with
  | nil => unfold VRk at h; subst h; exact h'
  | cons kv ks ih =>
    obtain ⟨k, p⟩ := kv
    unfold VRk at h
    obtain ⟨v, r, rfl, h1, h2⟩ := h
    show VRk K mg W H ((k, p) :: (ks ++ ls)) ((k, v) :: (r ++ us))
    unfold VRk
    exact ⟨v, _, rfl, h1, ih h2⟩
end
section
variable {X : Cx} {ma mb : EM PV}
end
end Mw
namespace Mw
open PySem PySem.Spec PyProof.Rows L2
open PySem.Sem (wp)
section
variable {X : Cx}
end
section
variable {K : PySem.W.Frag} {mg : Str → Option Value} {X : Cx}
end
end Mw
namespace Mw
open PySem PySem.Spec PyProof.Rows L2
open PySem.Sem (wp)
open PySem.W (minD AllAlike AlikeAll Sortable dataLe dataLt alike)
section
variable {X : Cx} {pins : List (Addr × Obj)} {σ : L2.St} {H : Hp} {s : Shared}
end
end Mw
namespace Mw
open PySem PySem.Spec PyProof.Rows L2
open PySem.Sem (wp)
open PySem.W (minD AllAlike AlikeAll Sortable dataLe dataLt alike)
def putAllE (es more : List (NestedKey × Addr × V)) : List (NestedKey × Addr × V) := more.foldl (fun acc e => putE acc e.1 e.2.1 e.2.2) es
theorem PrE.all : ∀ {more : List (NestedKey × Addr × V)} {ms : List (NestedKey × Addr × Value)} {es : List (NestedKey × Addr × V)} {xs : List (NestedKey × Addr × Value)}, PrE more ms → PrE es xs → PrE (putAllE es more) (storedAllH xs ms)
  | _, _, _, _, .nil, h => h
  | _, _, es, xs, @Paired.cons _ _ _ p q l1 l2 hq t, h => by
    have h2 := PrE.put h p.1 p.2.1 hq.2.2
    rw [show storedH xs p.1 p.2.1 q.2.2 = storedH xs q.1 q.2.1 q.2.2 by rw [hq.1, hq.2.1]] at h2
    show PrE (putAllE (putE es p.1 p.2.1 p.2.2) l1) (storedAllH (storedH xs q.1 q.2.1 q.2.2) l2)
    exact PrE.all t h2
section
variable {X : Cx}
end
end Mw
namespace Mw
open PySem PySem.Spec PyProof.Rows L2
open PySem.W (minD AllAlike AlikeAll Sortable dataLe dataLt alike)
def ndAll (kvs more : List (PV × PV)) : List (PV × PV) := more.foldl (fun acc e => ndPut acc e.1 e.2) kvs
section
variable {X : Cx} {W : Wd} {H : Hp}
theorem VRn.keys {K : PySem.W.Frag} {mg : Str → Option Value} : ∀ {kvs : List (PV × PV)} {es : List (NestedKey × Addr × V)}, VRn K mg W H kvs es → VRs K mg W H (kvs.map (·.1)) (es.map fun e => V.ref e.2.1)
  | [], es, h => by unfold VRn at h; subst h; exact VRs.nil
  | (p, q) :: r, es, h => by
    unfold VRn at h
    obtain ⟨k, b, v, r', rfl, _, _, _, h4, _, h6⟩ := h
    exact VRs.cons h4 (VRn.keys h6)
theorem VRn.all : ∀ {more : List (PV × PV)} {ms : List (NestedKey × Addr × V)} {kvs : List (PV × PV)} {es : List (NestedKey × Addr × V)}, VRn X.K X.mg W H more ms → VRn X.K X.mg W H kvs es → VRn X.K X.mg W H (ndAll kvs more) (putAllE es ms)
  | [], ms, kvs, es, h, h2 => by unfold VRn at h; subst h; exact h2
  | (p, q) :: r, ms, kvs, es, h, h2 => by
    unfold VRn at h
    obtain ⟨k, b, v, r', rfl, e1, e2, e3, h4, h5, h6⟩ := h
    show VRn X.K X.mg W H (ndAll (ndPut kvs p q) r) (putAllE (putE es k b v) r')
    exact VRn.all h6 (VRn.put e1 e2 e3 h4 h5 h2)
end
section
variable {X : Cx}
end
end Mw
namespace Mw
open PySem PySem.Spec PyProof.Rows L2
open PySem.Sem (wp)
section
variable {X : Cx} {pins : List (Addr × Obj)} {σ : L2.St} {H : Hp} {s : Shared} {A : Around} {E : Value → Shared → Prop} {a b : Addr} {k : NestedKey} {es : List (NestedKey × Addr × V)} {v : V}
end
section
variable {X : Cx} {o e f : Expr} {td ty tx : TE} {apos cpos : Pos} {mo mk mz : EM PV}
end
end Mw
namespace Mw
open PySem PySem.Spec PyProof.Rows L2
section
variable {X : Cx}
end
end Mw
namespace Mw
open PySem PySem.Spec L2
abbrev Xfs := List (Str × Int)
abbrev RXT := Str → Xfs → Hi → Prop
abbrev SMX := En → Hi → (Fl → En → Hi → Prop) → RXT → Prop
section
variable {X : Cx} {E : XK} {st : Stmt} {rest : List Stmt} {m n : SMX} {e : Expr} {pos : Pos}
theorem PS.nox {t : TS} (h : PS X.nox st t) : PS X st t := ⟨fun pins s σ H D I hw =>
  wpAny_mono (h.run pins s σ H D (I.wish _) hw) (fun _ _ q => q.unwish) fun _ _ z => False.elim z⟩
end
end Mw
namespace Mw
open PySem PySem.Spec L2
section
variable {X : Cx} {e : Expr} {es : List Expr} {ta : TA} {p1 p2 pos : Pos}
end
section
variable {X : Cx} {E : XK}
end
abbrev XSpec := List PV → Hi → (PV → Hi → Prop) → RXT → Prop
end Mw
namespace Mw
open PySem PySem.Spec L2 PyProof.Rows
section
variable {X : Cx} {pins : List (Addr × Obj)} {σ : L2.St} {H : Hp} {sI s' : Shared} {B : Heap} {a : Addr} {cls : Value} {d : Option Addr}
end
section
variable {X : Cx} {x n : Str} {c : Value} {i : Nat} {body suite : List Stmt} {b₀ : Stmt} {np pos pos' : Pos} {tb : WX → TS} {ts : TS} {Wout : WX}
end
end Mw
namespace Mw
open PySem PySem.Spec L2 PyProof.Rows
abbrev EMX := En → Hi → (PV → Hi → Prop) → RXT → Prop
section
variable {X : Cx} {E : L2.St → XK} {k n : Nat} {f : Addr} {fd : FuncData} {ps : List Str} {sp : XSpec} {x : Str} {p pos : Pos} {e : Expr} {es : List Expr} {ms : EM (List PV)} {m : EMX}
end
section
variable {X : Cx} {x n : Str} {cv : Value} {cs : List Str} {i : Nat} {b₀ b : Stmt} {suite : List Stmt} {np pos pos' : Pos} {mb : SMX} {ms : SM}
end
end Mw
namespace PySem.W
open PySem PySem.Spec PySem.Calls PyProof.Rows
section
variable {prog : Program} {w : World} {A : Around} {E : Value → Shared → Prop} {s : Shared} {K : Frag} {x D : Addr} {ox : Obj} {od : Option Obj}
end
end PySem.W
namespace Mw
open PySem PySem.Spec L2 PyProof.Rows
section
variable {X : Cx}
end
end Mw
namespace Mw
open PySem PySem.Spec L2 PyProof.Rows
section
variable {X : Cx}
end
section
variable {K : PySem.W.Frag} {t u : Value} {us : List Value} {b d : Bool}
variable {X : Cx} {ans : List (Str × Bool)}
end
end Mw
namespace L2
open PySem PySem.Spec PyProof.Rows
structure FnOkG (P : Program) (w : World) (K : PySem.W.Frag) (mg : Str → Option Value) (base : Heap) (CX : CXT) (k : Nat) (f : Addr) (fd : FuncData) (ps : List Str) (sp : Sp) : Prop where
  len : ∀ vs H Q E, sp vs H Q E → vs.length = ps.length
  run : ∀ (A : Around) (outer : List Env) (s : Shared) (H : Hp) (args : Args) (us : List Value) (vs : List V) (Q : VK) (E : XK), A.guards = some [] → Room k A → Env0 P w K mg base A outer s H → BindsTo s fd args (ps.zip us) → Vals vs us → sp vs H Q E →
    codeAny (model P w) A (.call (.ref f) args) (CR CX outer P w H s Q E) s
section
variable {P : Program} {w : World} {K : PySem.W.Frag} {mg : Str → Option Value} {base : Heap} {CX : CXT} {j k : Nat} {f : Addr} {fd : FuncData} {ps : List Str} {sp sp' : Sp}
theorem FnOk.g (F : FnOk P w K mg base CX k f fd ps sp) : FnOkG P w K mg base CX k f fd ps sp := ⟨F.len, fun A outer s H args us vs Q E _ hr => F.run A outer s H args us vs Q E hr⟩
theorem FnOkG.mono (F : FnOkG P w K mg base CX j f fd ps sp) (h : j ≤ k) : FnOkG P w K mg base CX k f fd ps sp := ⟨F.len, fun A outer s H args us vs Q E hgd hr => F.run A outer s H args us vs Q E hgd (hr.mono h)⟩
theorem FnOkG.imp (F : FnOkG P w K mg base CX k f fd ps sp) (h : ∀ vs H Q E, sp' vs H Q E → sp vs H Q E) : FnOkG P w K mg base CX k f fd ps sp' :=
  ⟨fun vs H Q E q => F.len vs H Q E (h _ _ _ _ q), fun A outer s H args us vs Q E hgd hr he hb hv hs => F.run A outer s H args us vs Q E hgd hr he hb hv (h _ _ _ _ hs)⟩
end
theorem fn_ofG {CX : CXT} {P : Program} {w : World} {K : PySem.W.Frag} {mg : Str → Option Value} {base : Heap} {k : Nat} {f : Addr} {name qual : Str} {params : Arguments} {body : List Stmt} {scope : Scope} {dV kV doc pm cdv ct oc : Value} {an od : Option Addr}
    {osl : Array (Option Value)} {N ps : List Str} {sp : Sp} (lk : K.lookup f = some ⟨oc, od, .func (PySem.W.fnOf name qual params body scope dV kV doc pm an cdv ct), osl⟩) (hcd : PySem.W.codeIn K cdv qual = true) (S : FnScope N ps scope)
    (len : ∀ vs H Q E, sp vs H Q E → vs.length = ps.length)
    (hbody : ∀ (A : Around) (outer : List Env) (s : Shared) (H : Hp) (vs : List V) (Q : VK) (E : XK), Room k (A.deeper (envOfC qual scope s.heap.objs.size f cdv)) → sp vs H Q E →
      A.guards = some [] → ∃ t, PSs (cxOf CX P w K mg base N qual scope f cdv A outer s H E) body t ∧ t { nx := fun _ H' => Q .non H', rt := Q } (start N vs) H) :
    FnOkG P w K mg base CX (k + 1) f (PySem.W.fnOf name qual params body scope dV kV doc pm an cdv ct) ps sp := by
  refine ⟨len, fun A outer s H args us vs Q E hgd hr e0 hb r hsp => ?_⟩
  have hl := len _ _ _ _ hsp
  have KX : K.In s.heap := e0.mod.kin.keeps fun b o e => (e0.bs b o e).1
  have lim : s.heap.NoLimit := e0.mod.nolimit.keeps fun b o e => (e0.bs b o e).1
  have hkind : ∀ y ∈ ps.zip us, scope.names.lookup y.1 = some .local ∨ (scope.names.lookup y.1 = some .cell ∧ ((cellsFrom (s.heap.objs.size + 1) scope.names []).lookup y.1).isSome = true) := fun ⟨n, v⟩ hy => by
    rcases S.par n (List.of_mem_zip hy).1 with q | q
    · exact .inl q
    · exact .inr ⟨q, PySem.W.cellsFrom_some _ _ _ (.inl q)⟩
  refine codeAny_call_function hr.depth (KX _ _ lk) rfl S.co S.gen rfl (PySem.W.codeRec_of KX hcd) (hb _ _ _ _ ?_)
  refine wpAny_newFunctionEnv_cells S.kind hkind fun env he s1 x => ?_
  subst he
  refine ⟨lim.keeps x.toInCall.keep, codeAny_func ?_⟩
  obtain ⟨t, ht, hq⟩ := hbody A outer s H vs Q E (hr.deeper _) hsp hgd
  have I : Inv (cxOf CX P w K mg base N qual scope f cdv A outer s H E) [] (start N vs) H s1 := inv_start S hr.hd e0 hl r x
  refine wpAny_mono (ht.run [] s1 (start N vs) H _ I hq) (fun fl s' hs => ?_) fun e s' hs => hs
  have fin : ∀ {σ' : St} {H' : Hp} {v : V} {u : Value}, Inv (cxOf CX P w K mg base N qual scope f cdv A outer s H E) [] σ' H' s' → RelV v u → Q v H' → CE outer P w H s Q u s' :=
    fun {σ' H' v u} J rv q => ⟨v, H', J.os, J.bare, J.base, J.hok, rv, q⟩
  cases fl with
  | ret u =>
    obtain ⟨v, σ', H', J, rv, q⟩ := hs
    exact fin J rv q
  | next =>
    obtain ⟨σ', H', J, q⟩ := hs
    exact fin (v := V.non) (u := Value.none) J rfl q
  | brk =>
    obtain ⟨_, _, _, q⟩ := hs
    exact False.elim q
  | cont =>
    obtain ⟨_, _, _, q⟩ := hs
    exact False.elim q
section
variable {P : Program} {w : World} {K : PySem.W.Frag} {mg : Str → Option Value} {base : Heap}
theorem Fun.okG {x qual : Str} {st : Stmt} {f : Addr} {fd : FuncData} {N ps : List Str} {k : Nat} {sp : Sp} (F : Fun K x qual st f fd) (S : FnScope N ps (defScope st)) (len : ∀ vs H Q E, sp vs H Q E → vs.length = ps.length)
    (hbody : ∀ (cdv : Value) (A : Around) (outer : List Env) (s : Shared) (H : Hp) (vs : List V) (Q : VK) (E : XK), Room k (A.deeper (envOfC qual (defScope st) s.heap.objs.size f cdv)) → A.guards = some [] → sp vs H Q E →
      ∃ t, PSs (cxOf CX0 P w K mg base N qual (defScope st) f cdv A outer s H E).nox (defBody st) t ∧ t { nx := fun _ H' => Q .non H', rt := Q } (start N vs) H) : FnOkG P w K mg base CX0 (k + 1) f fd ps sp := by
  obtain ⟨oc, od, kV, doc, pm, an, cdv, ct, osl, rfl, lk, hcd⟩ := F.ex
  refine fn_ofG lk hcd S len fun A outer s H vs Q E hr hsp hgd => ?_
  obtain ⟨t, h, q⟩ := hbody cdv A outer s H vs Q E hr hgd hsp
  exact ⟨t, h.nox, q⟩
end
section
variable {X : Cx} {CX : CXT} {k : Nat} {f : Addr} {fd : FuncData} {ps : List Str} {sp : Sp} {E : XK} {x : Str} {p pos : Pos} {e : Expr} {es : List Expr} {t : TA}
theorem run_fnG {pins : List (Addr × Obj)} {σ : St} {H : Hp} {s : Shared} {Q : VK} {us : List Value} {vs : List V} (F : FnOkG X.prog X.w X.K X.mg X.base CX k f fd ps sp) (hgd : X.A.guards = some []) (hr : Room k X.A) (hb : Binds X.K fd ps []) (hx : Passes CX X E)
    (I : Inv X pins σ H s) (r : Vals vs us) (h : sp vs H Q E) : wpAny (model X.prog X.w) X.A (call (.ref f) us) (EP X pins σ Q) X.xe s := by
  have hl : us.length = ps.length := by rw [← r.length]; exact F.len _ _ _ _ h
  have b := hb s us I.kIn (by rw [List.append_nil]; exact hl)
  rw [List.append_nil] at b
  refine wpAny_call (codeAny_mono (F.run X.A X.stack s H ⟨us, []⟩ us vs Q E hgd hr I.env0 b r h) fun r s' hq => ?_)
  cases r with
  | error e => exact hx pins σ H s e s' I hq
  | ok fl =>
    cases fl with
    | ret u => exact I.after hq
    | next => exact False.elim hq
    | brk => exact False.elim hq
    | cont => exact False.elim hq
theorem pe_callG (F : FnOkG X.prog X.w X.K X.mg X.base CX k f fd ps sp) (hgd : X.A.guards = some []) (hr : Room k X.A) (hg : Gl X x) (hm : X.mg x = some (.ref f)) (hk : PySem.W.keepIn X.K (.ref f) = true) (hb : Binds X.K fd ps []) (hx : Passes CX X E)
    (ha : PA X (e :: es) t) (hdb : (x == ("__debug__" : Str)) = false := by decide) (he : starEach (e :: es) X.env = (false, eval e X.env) :: starEach es X.env := by rfl) (hpl : (backTo pos (starEach es X.env)).any (·.1) = false := by rfl) :
    PE X (.Call (.Name x p) (e :: es) [] pos) (tCall sp [] E t) := by
  refine ⟨fun pins s σ H Q I h => ?_⟩
  refine wpAny_Call_Name_kw (ld_glob I hg hm ?_ hdb)
  refine PySem.W.callWith_K (h₀ := X.base) I.ok.mod.kin hk (thn (ha.run pos pins s σ H _ I h) fun us s1 ⟨vs, H1, I1, r, q⟩ => ⟨I1.kIn, ?_⟩) he hpl
  have q2 : sp (vs ++ []) H1 Q E := q
  rw [List.append_nil] at q2
  exact run_fnG F hgd hr hb hx I1 r q2
end
theorem law_callG {P : Program} {w : World} {K : PySem.W.Frag} {mg mb : Str → Option Value} {CX : CXT} {k : Nat} {fa a : Addr} {fd : FuncData} {x : Str} {sp : Sp} {s₁ : Shared} {vs : List Value} {ns : List Int}
    (KX : K.In s₁.heap) (hns : s₁.heap.Ns mainGlobals mg) (hb : s₁.heap.Ns builtinsNs mb) (hbb : ∀ x : Str, x ≠ "__name__" → mb x = bootBuiltins x) (hlim : s₁.heap.NoLimit) (hg : s₁.gens = #[])
    (ha : s₁.heap.get? a = some { cls := .type "list", data := .seq vs.toArray }) (hi : IntsAre vs ns) (hl : ns.length ≤ sizeLine) (hr : Room k callerA)
    (F : ∀ base : Heap, K.In base → base.Ns mainGlobals mg → FnOkG P w K mg base CX k fa fd [x] sp) (hbind : ∀ (s : Shared) (u : Value), BindsTo s fd ⟨[u], []⟩ [(x, u)])
    (hsp : ∀ H : Hp, Only H → SqL K H a (ns.map V.int) → sp [.ref a] H (fun v _ => v = .bl true) fun _ _ _ => False)
    (hCX : ∀ H e s', CX [] H s₁ (fun _ _ _ => False) e s' → False) :
    codeAny (model P w) callerA (.call (.ref fa) ⟨[.ref a], []⟩) (fun r s' => r = .ok (.ret (.bool true)) ∧ OldK s₁.heap s'.heap ∧ s'.os = s₁.os ∧ AllBare s'.gens) s₁ := by
  have rv := vals_ints hi
  have lenV := hi.length
  -- from an abstract heap in which nothing but the script may be tracked
  have core : ∀ H : Hp, Only H → SqL K H a (ns.map V.int) → HOk P w H s₁.heap → (∀ b, H b ≠ none → b = a) → (H a ≠ none → K.lookup a = none) →
      codeAny (model P w) callerA (.call (.ref fa) ⟨[.ref a], []⟩) (fun r s' => r = .ok (.ret (.bool true)) ∧ OldK s₁.heap s'.heap ∧ s'.os = s₁.os ∧ AllBare s'.gens) s₁ := by
    intro H hO hS hok hA hK
    have base_of : ∀ {b : Addr} {o : Obj}, s₁.heap.get? b = some o → H b = none → (hidT s₁.heap H).get? b = some o := fun e n => hidT_get e n
    have noA : ∀ {b : Addr} {o : Obj} {es : Array DictEntry} {ep : Nat}, s₁.heap.get? b = some o → o.data = .dict es ep → H b = none := fun {b o es ep} e d => by
      cases q : H b with
      | none => rfl
      | some u =>
        have e' : b = a := hA b (by rw [q]; simp)
        subst e'
        rw [ha] at e; cases e
        have d' : Data.seq vs.toArray _ = Data.dict es ep := d
        cases d'
    have nsK : ∀ {b : Addr} {m : Str → Option Value}, s₁.heap.Ns b m → (hidT s₁.heap H).Ns b m := fun {b m} ⟨o, es, ep, e, d, r⟩ => ⟨o, es, ep, base_of e (noA e d), d, r⟩
    have hKb : K.In (hidT s₁.heap H) := fun b o e => base_of (KX b o e) (by
      cases q : H b with
      | none => rfl
      | some u =>
        have e' : b = a := hA b (by rw [q]; simp)
        subst e'
        rw [hK (by rw [q]; simp)] at e; cases e)
    have hM : Mod K mg (hidT s₁.heap H) := ⟨hKb, nsK hns, ⟨mb, nsK hb, hbb⟩, let ⟨mc, h1, h2⟩ := hlim; ⟨mc, nsK h1, h2⟩⟩
    have e0 : Env0 P w K mg (hidT s₁.heap H) callerA [] s₁ H := ⟨rfl, hM, fun b o e => of_hidT e, Nat.le_of_eq (hidT_size _ _), trivial, fun b hb => absurd (show b ∈ ([] : List Addr) from hb) (by simp), hok, .of_eq hg⟩
    refine codeAny_mono ((F _ hKb (nsK hns)).run callerA [] s₁ H ⟨[.ref a], []⟩ [.ref a] [.ref a] _ _ rfl hr e0 (hbind s₁ (.ref a)) (.cons rfl .nil) (hsp H hO hS)) fun r s' h => ?_
    cases r with
    | error e => exact (hCX H e s' h).elim
    | ok fl =>
      cases fl with
      | next => exact False.elim h
      | brk => exact False.elim h
      | cont => exact False.elim h
      | ret u =>
        obtain ⟨v, H', os, bare, un, hok', r', q⟩ := h
        have q' : v = .bl true := q
        subst q'
        obtain rfl : u = Value.bool true := r'
        refine ⟨rfl, OldK.of_keep fun b o e => ?_, os, bare⟩
        cases q : H b with
        | none => exact un.keep b o e q (by intro z; exact absurd (show b ∈ ([] : List Addr) from z) (by simp)) (by simp)
        | some u =>
          rcases hO b with z | ⟨ob, xs, z⟩
          · rw [q] at z; cases z
          · have z2 := un.frzs b ob _ z
            obtain ⟨e1, _⟩ := hok b _ z
            obtain ⟨e2, _⟩ := hok' b _ z2
            rw [e] at e1; cases e1
            exact e2
  cases hk : K.lookup a with
  | some o =>
    -- the script is one of the module's own objects
    have e := KX a o hk
    rw [ha] at e
    cases e
    refine core (fun _ => none) (fun _ => .inl rfl) (.inr ⟨_, vs.toArray, _, hk, rfl, rfl, rfl, by rw [List.size_toArray, lenV]; exact hl, by simpa using rv⟩) (fun b u z => by have z' : (none : Option HO) = some u := z; cases z') (fun b z => absurd rfl z) fun z => absurd rfl z
  | none =>
    refine core (fun b => if b = a then some (.frz { cls := .type "list", data := .seq vs.toArray } (.lst (ns.map V.int))) else none) (fun b => ?_) (.inl (.inr ⟨{ cls := .type "list", data := .seq vs.toArray }, if_pos rfl⟩)) (fun b u z => ?_) (fun b z => ?_) fun _ => hk
    · by_cases hb : b = a
      · exact .inr ⟨_, _, if_pos hb⟩
      · exact .inl (if_neg hb)
    · by_cases hb : b = a
      · have z' := (if_pos hb).symm.trans z
        cases z'
        subst hb
        exact ⟨ha, by rw [List.length_map]; exact hl, vs, _, rv, ha⟩
      · have z' := (if_neg hb).symm.trans z
        cases z'
    · by_cases hb : b = a
      · exact hb
      · exact absurd (if_neg hb) z
theorem walk_ofG {l : PySem.W.OpenLaw} {n k : Nat} {q : Program} {loose : List Str} {XP : (Str → Option Value) → Heap → Prop} {YP : World → Heap → Prop} {d : DefRec} {K : Params → PySem.W.Frag} {CX : World → CXT} {sp : World → Sp} {x : Str}
    (hn : l.most = some n) (hn2 : n ≤ sizeLine) (hdf : d.params.defaults = []) (hr : Room k callerA)
    (hY : ∀ (w : World) (h : Heap), YP w h → (K w.params).In h)
    (F : ∀ (w : World) (mg : Str → Option Value) (fa : Addr) (h : Heap), (K w.params).In h → h.Ns mainGlobals mg → mg d.name = some (.ref fa) →
      ∃ fd : FuncData, (∀ (s : Shared) (u : Value), BindsTo s fd ⟨[u], []⟩ [(x, u)]) ∧
        ∀ base : Heap, (K w.params).In base → base.Ns mainGlobals mg → FnOkG l.prog w (K w.params) mg base (CX w) k fa fd [x] (sp w))
    (hsp : ∀ (w : World) (H : Hp) (a : Addr) (ns : List Int), ns.length ≤ n → Only H → SqL (K w.params) H a (ns.map V.int) → sp w [.ref a] H (fun v _ => v = .bl true) fun _ _ _ => False)
    (hCX : ∀ (w : World) (H : Hp) (s : Shared) (e : Value) (s' : Shared), CX w [] H s (fun _ _ _ => False) e s' → False) :
    PySem.W.WalkO q loose XP YP l.row.toRowW d [] (fun f vs => PySem.call f vs) := by
  refine Att.attach_call hn hdf fun w s₀ s₁ mg mb fa o pm cd doc a vs ns G Y ho hd hcd hmg hobj hints hlen hg => ?_
  have KX := hY w _ Y
  obtain ⟨fd, hb, hF⟩ := F w mg fa _ KX G.T.g hmg
  exact law_callG KX G.T.g G.T.b G.T.builtins G.T.nolimit hg hobj hints (Nat.le_trans hlen hn2) hr hF hb (fun H hO hS => hsp w H a ns hlen hO hS) fun H e s' => hCX w H s₁ e s'
end L2
namespace Mw
open PySem PySem.Spec L2
theorem fn_okG {P : Program} {w : World} {K : PySem.W.Frag} {mg : Str → Option Value} {base : Heap} {x qual : Str} {st : Stmt} {f : Addr} {fd : FuncData} {N ps : List Str} {k : Nat} {sp : FSpec} {m : SM} (F : Fun K x qual st f fd) (S : FnScope N ps (defScope st))
    (body : ∀ (cdv : Value) (A : Around) (outer : List Env) (s : Shared) (H : Hp) (E : XK), Room k (A.deeper (PyProof.Rows.envOfC qual (defScope st) s.heap.objs.size f cdv)) → A.guards = some [] → SimSs (cxOf CX0 P w K mg base N qual (defScope st) f cdv A outer s H E).nox (defBody st) m)
    (h : ∀ args et R, sp args et R → m (env0 N args) et (retK R)) : FnOkG P w K mg base CX0 (k + 1) f fd ps (FS K mg ps.length sp) := by
  refine F.okG S (fun vs H Q E q => q.1) fun cdv A outer s H vs Q E hr hgd q => ⟨_, body cdv A outer s H E hr hgd, ?_⟩
  obtain ⟨_, et, W, args, R, c, va, hs, q⟩ := q
  refine ⟨env0 N args, et, W, retK R, c, slt0 va, h args et R hs, fun fl ep' et' r σ' H' W' x' c' => ?_⟩
  have noOwn : ∀ a, ¬ Own (env0 N args) (L2.start N vs) a := fun a ⟨i, p, e, _⟩ => by
    unfold env0 at e
    by_cases hi : i < args.length
    · rw [List.getElem?_append_left (by simpa using hi), List.getElem?_map, List.getElem?_eq_getElem hi] at e; cases e
    · rw [List.getElem?_append_right (by simpa using hi), List.getElem?_replicate] at e
      split at e <;> cases e
  have x1 : Ext NoO H et W H' et' W' := x'.mono fun a h => absurd h (noOwn a)
  cases fl with
  | nx => exact fun _ _ => q .non et' r .non H' W' x1 c' VR.non
  | bk => exact r.elim
  | ct => exact r.elim
  | rt p => exact fun v hv => q p et' r v H' W' x1 c' hv
section
variable {X : Cx} {k n : Nat} {f : Addr} {fd : FuncData} {ps : List Str} {sp : FSpec} {x : Str} {p pos : Pos} {e : Expr} {es : List Expr} {ms : EM (List PV)}
theorem sE_callGd (F : FnOkG X.prog X.w X.K X.mg X.base CX0 k f fd ps (FS X.K X.mg n sp)) (hgd : X.A.guards = some []) (hr : Room k X.A) (hg : Gl X x) (hm : X.mg x = some (.ref f)) (hk : PySem.W.keepIn X.K (.ref f) = true) (hb : Binds X.K fd ps [])
    (ha : SimA X (e :: es) ms) (hdb : (x == ("__debug__" : Str)) = false := by decide) (he : starEach (e :: es) X.env = (false, eval e X.env) :: starEach es X.env := by rfl) (hpl : (backTo pos (starEach es X.env)).any (·.1) = false := by rfl) :
    SimE X (.Call (.Name x p) (e :: es) [] pos) (mCall n sp ms) := weakE (pe_callG F hgd hr hg hm hk hb pass0 ha hdb he hpl) fun σ H Q ⟨ep, et, W, R, c, s, e, q⟩ => by
  refine ⟨ep, et, W, _, c, s, e, fun as et1 r1 vs H1 W1 x1 c1 p1 => ?_⟩
  refine ⟨by rw [List.append_nil, ← p1.len]; exact r1.1, et1, W1, as, _, c1, by rw [List.append_nil]; exact p1, r1.2, fun p et2 r2 v H2 W2 x2 c2 p2 => ?_⟩
  exact q p et2 r2 v H2 W2 (x1.NoO_trans x2) c2 p2
end
theorem top_walkG {l : PySem.W.OpenLaw} {k : Nat} {q : Program} {loose : List Str} {XP : (Str → Option Value) → Heap → Prop} {YP : World → Heap → Prop} {d : DefRec} {K : Params → PySem.W.Frag} {x : Str} (hn : l.most = some 63) (hdf : d.params.defaults = []) (hr : Room k callerA)
    (hY : ∀ (w : World) (h : Heap), YP w h → (K w.params).In h)
    (F : ∀ (w : World) (mg : Str → Option Value) (fa : Addr) (h : Heap), (K w.params).In h → h.Ns mainGlobals mg → mg d.name = some (.ref fa) →
      ∃ fd : FuncData, (∀ (s : Shared) (u : Value), BindsTo s fd ⟨[u], []⟩ [(x, u)]) ∧ ∀ base : Heap, (K w.params).In base → base.Ns mainGlobals mg → FnOkG l.prog w (K w.params) mg base CX0 k fa fd [x] (FS (K w.params) mg 1 spLaw)) :
    PySem.W.WalkO q loose XP YP l.row.toRowW d [] (fun f vs => PySem.call f vs) :=
  L2.walk_ofG (n := 63) (k := k) (x := x) (CX := fun _ => CX0) (sp := fun w => spTop (K w.params)) hn (by decide) hdf hr hY (fun w mg fa h h1 h2 h3 => by
      obtain ⟨fd, hb, hF⟩ := F w mg fa h h1 h2 h3
      exact ⟨fd, hb, fun base b1 b2 => (hF base b1 b2).imp fun _ _ _ _ z => top_imp z⟩) (fun _ _ a ns hl hO hS => ⟨a, ns, rfl, hl, hO, hS, fun _ => rfl⟩) fun _ _ _ _ _ z => z
end Mw
namespace Mw
open PySem PySem.Spec PyProof.Rows L2
section
variable {X : Cx}
end
end Mw
namespace Mw
open PySem PySem.Spec L2 PyProof.Rows
mutual
inductive RdX (h : Heap) : Value → PyData → Prop
  | none : RdX h .none .none
  | bool (b) : RdX h (.bool b) (.bool b)
  | int (i t) : RdX h (.int i t) (.int i)
  | str (x t) : RdX h (.str x t) (.str x)
  | list {a o vs n xs} : h.get? a = some o → o.cls = .type "list" → o.data = .seq vs n → RdXs h vs.toList xs → RdX h (.ref a) (.list xs)
  | tuple {a o vs n xs} : h.get? a = some o → o.cls = .type "tuple" → o.data = .seq vs n → RdXs h vs.toList xs → RdX h (.ref a) (.tuple xs)
  | dic0 {a o n} : h.get? a = some o → o.cls = .type "dict" → o.data = .dict #[] n → (a == sysModules) = false → RdX h (.ref a) (.dict [])
inductive RdXs (h : Heap) : List Value → List PyData → Prop
  | nil : RdXs h [] []
  | cons {v vs d ds} : RdX h v d → RdXs h vs ds → RdXs h (v :: vs) (d :: ds)
end
mutual
theorem RdX.reads {h : Heap} : ∀ {v : Value} {d : PyData}, RdX h v d → ∃ as, Reads h v d as
  | _, _, .none => ⟨_, .none⟩
  | _, _, .bool b => ⟨_, .bool b⟩
  | _, _, .int i t => ⟨_, .int i t⟩
  | _, _, .str x t => ⟨_, .str x t⟩
  | _, _, .list h1 h2 h3 h4 => (RdXs.reads h4).elim fun _ r => ⟨_, .list h1 h2 h3 r⟩
  | _, _, .tuple h1 h2 h3 h4 => (RdXs.reads h4).elim fun _ r => ⟨_, .tuple h1 h2 h3 r⟩
  | _, _, .dic0 h1 h2 h3 _ => ⟨_, .dict h1 h2 h3 .nil .nil⟩
theorem RdXs.reads {h : Heap} : ∀ {vs : List Value} {ds : List PyData}, RdXs h vs ds → ∃ as, ReadsAll h vs ds as
  | _, _, .nil => ⟨_, .nil⟩
  | _, _, .cons h1 h2 => (RdX.reads h1).elim fun _ r => (RdXs.reads h2).elim fun _ q => ⟨_, .cons r q⟩
end
section
variable {prog : Program} {w : World} {h₀ : Heap}
mutual
theorem RdX.repr : ∀ {v : Value} {d : PyData}, RdX h₀ v d → d.showable = true → d.shown.length ≤ sizeLine → ∃ bs, ReadAtMost h₀ d.depth bs ∧ ReprK prog w bs h₀ d.depth v d.shown
  | _, _, .none, _, _ => ⟨[], (fun _ h => nomatch h), by simp only [PyData.shown]; exact .of_is ReprIs.none _ _ _⟩
  | _, _, .bool b, _, _ => ⟨[], (fun _ h => nomatch h), by simp only [PyData.shown]; exact .of_is (ReprIs.bool b) _ _ _⟩
  | _, _, .int i t, hs, _ => ⟨[], (fun _ h => nomatch h), by simp only [PyData.shown]; exact .of_is (ReprIs.int t (by simpa [PyData.showable] using hs)) _ _ _⟩
  | _, _, .str x t, _, hz => ⟨[], (fun _ h => nomatch h), by simp only [PyData.shown]; exact .of_is (ReprIs.str x t (by simpa only [PyData.shown] using hz)) _ _ _⟩
  | _, _, .list (a := a) (vs := vs) (xs := xs) h1 h2 h3 h4, hs, hz => by
    have hz' : (listText (PyData.shownAll xs)).length ≤ sizeLine := by simpa only [PyData.shown] using hz
    obtain ⟨bs, hb, hk⟩ := RdXs.repr h4 (by simpa [PyData.showable] using hs) (fun t ht => Nat.le_trans (listText_mem_le ht) hz')
    obtain ⟨as, q⟩ := RdXs.reads h4
    have r : Reads h₀ (.ref a) (.list xs) _ := .list h1 h2 h3 q
    have hna : a ∉ bs := not_mem_of_deeper r (by simp only [PyData.depth]; omega) hb
    refine ⟨a :: bs, ReadAtMost.cons r (by simp only [PyData.depth]; omega) hb, ?_⟩
    simp only [PyData.depth, PyData.shown]
    obtain ⟨l⟩ := vs
    cases l with
    | nil =>
      have h4' : RdXs h₀ [] xs := h4
      cases h4'
      simp only [PyData.shownAll, listText_nil]
      exact ReprK.listEmpty h1 h2 h3
    | cons x l => exact ReprK.list h1 h2 h3 hna (by simpa using hk.length_eq) (fun i y e => hk.item i y (by simpa using e))
  | _, _, .tuple (a := a) (xs := xs) h1 h2 h3 h4, hs, hz => by
    have hz' : (tupleText (PyData.shownAll xs)).length ≤ sizeLine := by simpa only [PyData.shown] using hz
    obtain ⟨bs, hb, hk⟩ := RdXs.repr h4 (by simpa [PyData.showable] using hs) (fun t ht => Nat.le_trans (tupleText_mem_le ht) hz')
    obtain ⟨as, q⟩ := RdXs.reads h4
    have r : Reads h₀ (.ref a) (.tuple xs) _ := .tuple h1 h2 h3 q
    have hna : a ∉ bs := not_mem_of_deeper r (by simp only [PyData.depth]; omega) hb
    refine ⟨a :: bs, ReadAtMost.cons r (by simp only [PyData.depth]; omega) hb, ?_⟩
    simp only [PyData.depth, PyData.shown]
    exact ReprK.tuple h1 h2 h3 hna hk
  | _, _, .dic0 (a := a) h1 h2 h3 h4, _, _ => by
    have r : Reads h₀ (.ref a) (.dict []) _ := .dict h1 h2 h3 .nil .nil
    have hb : ReadAtMost h₀ (PyData.depthKv []) [] := fun _ h => nomatch h
    refine ⟨[a], ReadAtMost.cons r (by simp only [PyData.depth]; omega) hb, ?_⟩
    simp only [PyData.depth, PyData.shown, PyData.shownKv]
    exact ReprK.dict h1 h2 h3 h4 (by simp) .nil
theorem RdXs.repr : ∀ {vs : List Value} {ds : List PyData}, RdXs h₀ vs ds → PyData.showableAll ds = true → (∀ t ∈ PyData.shownAll ds, t.length ≤ sizeLine) →
    ∃ bs, ReadAtMost h₀ (PyData.depthAll ds) bs ∧ ReprAllK prog w bs h₀ (PyData.depthAll ds) vs (PyData.shownAll ds)
  | _, _, .nil, _, _ => ⟨[], (fun _ h => nomatch h), by simp only [PyData.shownAll]; exact .nil⟩
  | _, _, .cons (d := d) (ds := ds) r rs, hs, hz => by
    have hs' : d.showable = true ∧ PyData.showableAll ds = true := by simpa [PyData.showableAll] using hs
    obtain ⟨b1, hb1, k1⟩ := RdX.repr r hs'.1 (hz _ (by simp only [PyData.shownAll]; exact List.mem_cons_self ..))
    obtain ⟨b2, hb2, k2⟩ := RdXs.repr rs hs'.2 (fun t ht => hz t (by simp only [PyData.shownAll]; exact List.mem_cons_of_mem _ ht))
    refine ⟨b1 ++ b2, ?_, ?_⟩
    · intro b hm
      simp only [PyData.depthAll]
      rcases List.mem_append.mp hm with hm | hm
      · obtain ⟨d', as', r', hd'⟩ := hb1 b hm
        exact ⟨d', as', r', Nat.le_trans hd' (Nat.le_max_left _ _)⟩
      · obtain ⟨d', as', r', hd'⟩ := hb2 b hm
        exact ⟨d', as', r', Nat.le_trans hd' (Nat.le_max_right _ _)⟩
    · simp only [PyData.depthAll, PyData.shownAll]
      exact .cons ((k1.more fun b hb => List.mem_append_left _ hb).level_le (Nat.le_max_left _ _)) (k2.more_le (fun b hb => List.mem_append_right _ hb) (Nat.le_max_right _ _))
end
theorem call_reprX {A : Around} {E : Value → Shared → Prop} {s : Shared} {Q : Value → Shared → Prop} (hgd : A.guards = some []) (hu : A.units + 64 < cLine) : ∀ {v : Value} {d : PyData}, RdX s.heap v d → d.showable = true → d.shown.length ≤ sizeLine → d.depth ≤ 60 →
    (∀ h' u tk, (∀ b o, s.heap.get? b = some o → h'.get? b = some o) → Q (.str d.shown u) { s with heap := h', toks := tk }) → wpAny (model prog w) A (call (.builtin "repr") [v]) Q E s := by
  intro v d r hs hz hp hQ
  have k0 : ∀ (b : Addr) (o : Obj), s.heap.get? b = some o → s.heap.get? b = some o := fun _ _ e => e
  have start : ∀ {a : Addr} {T id : String}, s.TypeIs (.ref a) T → wpAny (model prog w) A.in1 (do
      if (← specialOf (.ref a) "__repr__").isNone then unsupported "internal:no-__repr__"
      let some r ← callSpecialIfBound? (.ref a) "__repr__" | unsupported "repr:special-get-raises"
      if ← isInstance r (.type "str") then ret r
      else rule "repr.not-str"; raiseError "TypeError" s!"__repr__ returned non-string (type {← typeNameOf r})") (fun fin s' => ∃ v, fin = .done (.ret v) ∧ Q v s') E s → wpAny (model prog w) A (call (.builtin "repr") [.ref a]) Q E s := fun {a T id} hT h => by
    refine Calls.call_function_entry F.kind_repr F.plain_repr F.entry_repr (F.args_repr1 _) ?_
    unfold Builtin.«repr»
    refine wpAny_bind (m := oneArg "repr" _) (wpAny_pure ?_)
    exact wpAny_bind (wpAny_cRoomFor (by show A.units + 1 < _; omega) h)
  cases r with
  | none =>
    simp only [PyData.shown] at hQ
    exact P.repr_of_none (hQ s.heap _ _ k0)
  | bool b =>
    simp only [PyData.shown] at hQ
    exact P.repr_of_bool (hQ s.heap _ _ k0)
  | int i t =>
    simp only [PyData.shown] at hQ
    exact P.repr_of_int (by simpa [PyData.showable] using hs) (hQ s.heap _ _ k0)
  | str x t =>
    simp only [PyData.shown] at hQ hz
    exact P.repr_of_str (hQ s.heap _ _ k0) hz
  | @list a o vs n xs h1 h2 h3 h4 =>
    have hz' : (listText (PyData.shownAll xs)).length ≤ sizeLine := by simpa only [PyData.shown] using hz
    obtain ⟨bs, hb, hk⟩ := RdXs.repr (prog := prog) (w := w) h4 (by simpa [PyData.showable] using hs) (fun t ht => Nat.le_trans (listText_mem_le ht) hz')
    obtain ⟨as, q⟩ := RdXs.reads h4
    have r : Reads s.heap (.ref a) (.list xs) _ := .list h1 h2 h3 q
    have hna : a ∉ bs := not_mem_of_deeper r (by simp only [PyData.depth]; omega) hb
    simp only [PyData.depth] at hp
    simp only [PyData.shown] at hQ
    have hTy : s.TypeIs (.ref a) "list" := ⟨o, h1, h2⟩
    refine start (id := "list.__repr__") hTy ?_
    refine wpAny_bind (wpAny_specialOf (name := Str.ofString "__repr__") hTy F.slot_list_repr.lookup ?_)
    obtain ⟨l⟩ := vs
    cases l with
    | nil =>
      have h4' : RdXs s.heap [] xs := h4
      cases h4'
      simp only [PyData.shownAll, listText_nil] at hQ
      refine wpAny_bind (m := callSpecialIfBound? (.ref a) (Str.ofString "__repr__")) (wpAny_callSpecialIfBound?_slot (name := Str.ofString "__repr__") hTy F.slot_list_repr (call_list_repr_empty hTy h1 h3 ?_))
      refine wpAny_bind (wpAny_isInstance (T := "str") (b := true) rfl isSubtype_str_str ?_)
      exact wpAny_pure ⟨_, rfl, hQ s.heap _ _ k0⟩
    | cons x l =>
      refine wpAny_bind (m := callSpecialIfBound? (.ref a) (Str.ofString "__repr__")) (wpAny_callSpecialIfBound?_slot (name := Str.ofString "__repr__") hTy F.slot_list_repr
        (call_list_reprK (g := []) h1 h2 h3 hna (by simpa using hk.length_eq) (fun i y e => hk.item i y (by simpa using e)) (by show A.guards = _; exact hgd) (fun b _ => Clear.nil b) (by show A.units + 1 + _ < _; omega) k0 (fun h' u tk hk => ?_) hz'))
      refine wpAny_bind (wpAny_isInstance (T := "str") (b := true) rfl isSubtype_str_str ?_)
      exact wpAny_pure ⟨_, rfl, hQ h' u tk hk⟩
  | @tuple a o vs n xs h1 h2 h3 h4 =>
    have hz' : (tupleText (PyData.shownAll xs)).length ≤ sizeLine := by simpa only [PyData.shown] using hz
    obtain ⟨bs, hb, hk⟩ := RdXs.repr (prog := prog) (w := w) h4 (by simpa [PyData.showable] using hs) (fun t ht => Nat.le_trans (tupleText_mem_le ht) hz')
    obtain ⟨as, q⟩ := RdXs.reads h4
    have r : Reads s.heap (.ref a) (.tuple xs) _ := .tuple h1 h2 h3 q
    have hna : a ∉ bs := not_mem_of_deeper r (by simp only [PyData.depth]; omega) hb
    simp only [PyData.depth] at hp
    simp only [PyData.shown] at hQ
    have hTy : s.TypeIs (.ref a) "tuple" := ⟨o, h1, h2⟩
    refine start (id := "tuple.__repr__") hTy ?_
    refine wpAny_bind (wpAny_specialOf (name := Str.ofString "__repr__") hTy F.slot_tuple_repr.lookup ?_)
    refine wpAny_bind (m := callSpecialIfBound? (.ref a) (Str.ofString "__repr__")) (wpAny_callSpecialIfBound?_slotG (name := Str.ofString "__repr__") hTy F.slot_tuple_repr
      (call_tuple_reprK (g := []) h1 h2 h3 hna hk (by show A.guards = _; exact hgd) (fun b _ => Clear.nil b) (by show A.units + 1 + _ < _; omega) k0 (fun h' u tk hk => ?_) hz'))
    refine wpAny_bind (wpAny_isInstance (T := "str") (b := true) rfl isSubtype_str_str ?_)
    exact wpAny_pure ⟨_, rfl, hQ h' u tk hk⟩
  | @dic0 a o n h1 h2 h3 h4 =>
    simp only [PyData.shown, PyData.shownKv] at hQ
    have hTy : s.TypeIs (.ref a) "dict" := ⟨o, h1, h2⟩
    refine start (id := "dict.__repr__") hTy ?_
    refine wpAny_bind (wpAny_specialOf (name := Str.ofString "__repr__") hTy F.slot_dict_repr.lookup ?_)
    refine wpAny_bind (m := callSpecialIfBound? (.ref a) (Str.ofString "__repr__")) (wpAny_callSpecialIfBound?_slotG (name := Str.ofString "__repr__") hTy F.slot_dict_repr
      (call_dict_reprK (g := []) (as := []) (d := 0) h1 h2 h3 h4 (by simp) .nil (by show A.guards = _; exact hgd) (fun b _ => Clear.nil b) (by show A.units + 1 + _ < _; omega) k0 (fun h' u tk hk => ?_)))
    refine wpAny_bind (wpAny_isInstance (T := "str") (b := true) rfl isSubtype_str_str ?_)
    exact wpAny_pure ⟨_, rfl, hQ h' u tk hk⟩
end
mutual
def datX : PV → Option PyData
  | .non => some .none
  | .bl b => some (.bool b)
  | .int i => some (.int i)
  | .str x => some (.str x)
  | .tup xs => (datsX xs).map .tuple
  | .lst xs => (datsX xs).map .list
  | .dic [] => some (.dict [])
  | .dik [] => some (.dict [])
  | _ => none
def datsX : List PV → Option (List PyData)
  | [] => some []
  | x :: xs => (datX x).bind fun d => (datsX xs).map fun ds => d :: ds
end
def shwX (p : PV) : Option Str := (datX p).bind fun d => if d.showable = true ∧ d.shown.length ≤ sizeLine ∧ d.depth ≤ 60 then some d.shown else none
def gReprX : List PV → Option PV
  | [p] => (shwX p).map .str
  | _ => none
mutual
inductive DpX (K : PySem.W.Frag) (H : Hp) : V → PyData → Prop
  | non : DpX K H .non .none
  | bl (b : Bool) : DpX K H (.bl b) (.bool b)
  | int (i : Int) : DpX K H (.int i) (.int i)
  | str (x : Str) : DpX K H (.str x) (.str x)
  | lst {a : Addr} {xs : List V} {ds : List PyData} : SqL K H a xs → DpsX K H xs ds → DpX K H (.ref a) (.list ds)
  | tup {a : Addr} {xs : List V} {ds : List PyData} : SqT K H a xs → DpsX K H xs ds → DpX K H (.ref a) (.tuple ds)
  | dic {a : Addr} : Rd H a (.dK []) → DpX K H (.ref a) (.dict [])
inductive DpsX (K : PySem.W.Frag) (H : Hp) : List V → List PyData → Prop
  | nil : DpsX K H [] []
  | cons {v : V} {vs : List V} {d : PyData} {ds : List PyData} : DpX K H v d → DpsX K H vs ds → DpsX K H (v :: vs) (d :: ds)
end
section
variable {K : PySem.W.Frag} {mg : Str → Option Value} {H : Hp} {et : Hi} {W : Wd}
mutual
theorem VR.dpx : ∀ (p : PV) (v : V) (d : PyData), VR K mg W H p v → datX p = some d → DpX K H v d
  | .non, v, d, h, e => by unfold VR at h; unfold datX at e; cases e; subst h; exact .non
  | .bl b, v, d, h, e => by unfold VR at h; unfold datX at e; cases e; subst h; exact .bl b
  | .int b, v, d, h, e => by unfold VR at h; unfold datX at e; cases e; subst h; exact .int b
  | .str b, v, d, h, e => by unfold VR at h; unfold datX at e; cases e; subst h; exact .str b
  | .tup xs, v, d, h, e => by
    unfold VR at h; unfold datX at e
    obtain ⟨a, vs, rfl, h1, h2⟩ := h
    cases q : datsX xs with
    | none => rw [q] at e; cases e
    | some ds => rw [q] at e; cases e; exact .tup h1 (VRs.dpx xs vs ds h2 q)
  | .lst xs, v, d, h, e => by
    unfold VR at h; unfold datX at e
    obtain ⟨a, vs, rfl, _, h1, h2⟩ := h
    cases q : datsX xs with
    | none => rw [q] at e; cases e
    | some ds => rw [q] at e; cases e; exact .lst (SqL.of h1) (VRs.dpx xs vs ds h2 q)
  | .dic [], v, d, h, e => by
    unfold VR at h; unfold datX at e; cases e
    obtain ⟨a, ks, rfl, _, h1, h2⟩ := h
    unfold VRk at h2; subst h2
    exact .dic (.inl h1)
  | .dic (_ :: _), v, d, h, e => by unfold datX at e; cases e
  | .scr _, v, d, h, e => by unfold datX at e; cases e
  | .ref _, v, d, h, e => by unfold datX at e; cases e
  | .glo _, v, d, h, e => by unfold datX at e; cases e
  | .ty _, v, d, h, e => by unfold datX at e; cases e
  | .dik [], v, d, h, e => by
    unfold VR at h; unfold datX at e; cases e
    obtain ⟨a, o, ks, rfl, h1, h2⟩ := h
    unfold VRk at h2; subst h2
    exact .dic (.inr ⟨o, h1⟩)
  | .dik (_ :: _), v, d, h, e => by unfold datX at e; cases e
theorem VRs.dpx : ∀ (p : List PV) (v : List V) (d : List PyData), VRs K mg W H p v → datsX p = some d → DpsX K H v d
  | [], v, d, h, e => by unfold VRs at h; unfold datsX at e; cases e; subst h; exact .nil
  | p :: ps, v, d, h, e => by
    unfold VRs at h; unfold datsX at e
    obtain ⟨u, r, rfl, h1, h2⟩ := h
    cases q : datX p with
    | none => rw [q] at e; cases e
    | some d1 =>
      rw [q] at e
      simp only [Option.bind_some] at e
      cases q2 : datsX ps with
      | none => rw [q2] at e; cases e
      | some ds => rw [q2] at e; cases e; exact .cons (VR.dpx p u d1 h1 q) (VRs.dpx ps r ds h2 q2)
end
theorem Pk.dpx (c : Cel K mg H et W) {p : PV} {v : V} {d : PyData} (h : Pk K mg p v H et W) (e : datX (deref et p) = some d) : DpX K H v d := by
  cases q : deref et p with
  | lst xs =>
    rw [q] at e
    obtain ⟨a, vs, rfl, h1, h2⟩ := h.lst c q
    unfold datX at e
    cases q2 : datsX xs with
    | none => rw [q2] at e; cases e
    | some ds => rw [q2] at e; cases e; exact .lst (SqL.of h1) (VRs.dpx xs vs ds h2 q2)
  | dic xs =>
    rw [q] at e
    obtain ⟨a, ks, rfl, h1, h2⟩ := h.dic c q
    cases xs with
    | nil =>
      unfold datX at e; cases e
      unfold VRk at h2; subst h2
      exact .dic (.inl h1)
    | cons x xs => unfold datX at e; cases e
  | ref n => rw [q] at e; unfold datX at e; cases e
  | _ => rw [q] at e; exact VR.dpx _ _ _ (h.val q rfl) e
end
section
variable {X : Cx} {pins : List (Addr × Obj)} {σ : L2.St} {H : Hp} {s : Shared}
mutual
theorem DpX.rd (I : Inv X pins σ H s) : ∀ (d : PyData) (v : V) (u : Value), DpX X.K H v d → RelV v u → RdX s.heap u d
  | .none, _, _, h, r => by
    cases h
    cases r
    exact .none
  | .bool b, _, _, h, r => by
    cases h
    cases r
    exact .bool b
  | .int i, _, _, h, r => by
    cases h
    obtain ⟨t, rfl⟩ := r
    exact .int i t
  | .str x, _, _, h, r => by
    cases h
    obtain ⟨t, rfl⟩ := r
    exact .str x t
  | .list ds, _, _, h, r => by
    cases h with
    | lst hs ha =>
      cases r
      obtain ⟨its, rv, ⟨o, n, ho, hc, _, hd⟩, _⟩ := I.list hs
      exact .list ho hc hd (DpsX.rd I ds _ its ha rv)
  | .tuple ds, _, _, h, r => by
    cases h with
    | tup hs ha =>
      cases r
      obtain ⟨its, rv, ⟨o, ho, hc, n, hd⟩, _⟩ := I.tuple hs
      exact .tuple ho hc hd (DpsX.rd I ds _ its ha rv)
  | .dict [], _, _, h, r => by
    cases h with
    | dic hs =>
      cases r
      obtain ⟨_, hsys, vs, hk, hd⟩ := dk_rd I.hok hs
      cases hk
      obtain ⟨o, es, ep, ho, hx, hdd, _, hp, _⟩ := hd
      have he : es = #[] := by
        have : es.toList = [] := by
          cases e : es.toList with
          | nil => rfl
          | cons x l => rw [e] at hp; cases hp
        exact Array.ext' this
      subst he
      exact .dic0 ho hx.1 hdd hsys
  | .dict (_ :: _), _, _, h, _ => by cases h
theorem DpsX.rd (I : Inv X pins σ H s) : ∀ (ds : List PyData) (vs : List V) (us : List Value), DpsX X.K H vs ds → Vals vs us → RdXs s.heap us ds
  | [], _, _, h, r => by
    cases h
    cases r
    exact .nil
  | d :: ds, _, _, h, r => by
    cases h with
    | cons h1 h2 =>
      cases r with
      | cons r1 r2 => exact .cons (DpX.rd I d _ _ h1 r1) (DpsX.rd I ds _ _ h2 r2)
end
end
def rReprX (K : PySem.W.Frag) : List V → Hp → VK → Prop := fun xs H Q => ∃ x d, xs = [x] ∧ DpX K H x d ∧ d.showable = true ∧ d.shown.length ≤ sizeLine ∧ d.depth ≤ 60 ∧ Q (.str d.shown) H
theorem call_reprXR {X : Cx} (hgd : X.A.guards = some []) (hu : X.A.units + 64 < cLine) : CallR X (.builtin "repr") (rReprX X.K) := by
  intro pins s σ H xs us Q I r h
  obtain ⟨x, d, rfl, hd, hs, hz, hp, q⟩ := h
  obtain ⟨u, rfl, rx⟩ := vals1 r
  exact call_reprX hgd hu (DpX.rd I d x u hd rx) hs hz hp fun h' u tk hk => ⟨.str d.shown, H, I.kept hk, ⟨u, rfl⟩, q⟩
theorem oA_reprX {K : PySem.W.Frag} {mg : Str → Option Value} : OpA K mg (rReprX K) gReprX (pV K mg) := by
  intro xs H et W ps z Q c hp hz k
  unfold gReprX at hz
  split at hz
  · rename_i p e
    obtain ⟨q, rfl, e2⟩ := map1 e
    obtain ⟨v, rfl, h1⟩ := hp.one
    obtain ⟨t, ht, rfl⟩ := Option.map_eq_some_iff.mp hz
    unfold shwX at ht
    obtain ⟨d, hd, ht⟩ := Option.bind_eq_some_iff.mp ht
    split at ht
    · rename_i hc
      cases ht
      obtain ⟨c3, c4, c5⟩ := hc
      exact ⟨v, d, rfl, h1.dpx c (by rw [e2]; exact hd), c3, c4, c5, k _ H W (Ext.refl ..) c VR.str⟩
    · cases ht
  · cases hz
end Mw
local macro_rules | `(tactic| simp! [$xs,*]) => `(tactic| simp only [Mw.mSeq, Mw.mSet, Mw.mSetN, Mw.mExpr, Mw.mExprX, Mw.mRet, Mw.mIf, Mw.mNext, Mw.mFrz, Mw.mPar, Mw.mBin, Mw.mUn, Mw.mArg, Mw.mC, Mw.mVar, Mw.mPeek, Mw.mCall, Mw.mCons, Mw.mNil, Mw.mTup, Mw.mLst, Mw.mBinT, Mw.mAsT, Mw.mNotT, Mw.mAndT, Mw.mOrT, Mw.mAndE, Mw.mOrE, Mw.mNotE, Mw.mChain, Mw.mChainT, Mw.mSl, Mw.mO0, Mw.mO1, Mw.mIter, Mw.mRng1, Mw.mMut, Mw.mMutR, Mw.mSubSet, Mw.mShare, Mw.mMeth, Mw.mFor, Mw.mLc, Mw.mYes, Mw.slotV, Mw.frzS, Mw.tgN, Mw.wipeE, Mw.retK, List.foldl_cons, List.foldl_nil, Mw.deref_int, Mw.deref_str, Mw.deref_bl, Mw.deref_non, Mw.deref_tup, Mw.deref_lst, Mw.deref_scr, Mw.deref_dic, Mw.deref_ty, Mw.isLst, Mw.cellP, List.getElem?_cons_zero, List.getElem?_cons_succ, List.getElem?_nil, List.set_cons_zero, List.set_cons_succ, List.map_cons, List.map_nil, List.length_cons, List.length_nil, List.cons_append, List.nil_append, Option.some.injEq, Mw.Slot.val.injEq, Mw.Slot.own.injEq, Mw.PV.int.injEq, Mw.PV.bl.injEq, Mw.PV.str.injEq, Mw.PV.ref.injEq, Mw.PV.lst.injEq, Mw.PV.tup.injEq, exists_eq_left', exists_eq_left, and_true, true_and, true_or, or_true, and_self, reduceCtorEq, Mw.gAdd, Mw.gSubI, Mw.gMul, Mw.gDiv, Mw.gMod, Mw.gPow, Mw.gLt, Mw.gLe, Mw.gGt, Mw.gGe, Mw.gIx, Mw.gNeg, Mw.eqB_int, Mw.gEq_int, Mw.gNe_int, Mw.gEq_str, Mw.gNe_str, if_true, if_false, Bool.false_eq_true, Nat.reduceAdd, Nat.zero_add, Bool.not_true, Bool.not_false, Mw.atI_c0, Mw.atI_c1, Mw.atI_c2, Mw.atI_c3, Mw.atI_c4, $xs,*])
local macro_rules | `(tactic| simp!) => `(tactic| simp only [Mw.mSeq, Mw.mSet, Mw.mSetN, Mw.mExpr, Mw.mExprX, Mw.mRet, Mw.mIf, Mw.mNext, Mw.mFrz, Mw.mPar, Mw.mBin, Mw.mUn, Mw.mArg, Mw.mC, Mw.mVar, Mw.mPeek, Mw.mCall, Mw.mCons, Mw.mNil, Mw.mTup, Mw.mLst, Mw.mBinT, Mw.mAsT, Mw.mNotT, Mw.mAndT, Mw.mOrT, Mw.mAndE, Mw.mOrE, Mw.mNotE, Mw.mChain, Mw.mChainT, Mw.mSl, Mw.mO0, Mw.mO1, Mw.mIter, Mw.mRng1, Mw.mMut, Mw.mMutR, Mw.mSubSet, Mw.mShare, Mw.mMeth, Mw.mFor, Mw.mLc, Mw.mYes, Mw.slotV, Mw.frzS, Mw.tgN, Mw.wipeE, Mw.retK, List.foldl_cons, List.foldl_nil, Mw.deref_int, Mw.deref_str, Mw.deref_bl, Mw.deref_non, Mw.deref_tup, Mw.deref_lst, Mw.deref_scr, Mw.deref_dic, Mw.deref_ty, Mw.isLst, Mw.cellP, List.getElem?_cons_zero, List.getElem?_cons_succ, List.getElem?_nil, List.set_cons_zero, List.set_cons_succ, List.map_cons, List.map_nil, List.length_cons, List.length_nil, List.cons_append, List.nil_append, Option.some.injEq, Mw.Slot.val.injEq, Mw.Slot.own.injEq, Mw.PV.int.injEq, Mw.PV.bl.injEq, Mw.PV.str.injEq, Mw.PV.ref.injEq, Mw.PV.lst.injEq, Mw.PV.tup.injEq, exists_eq_left', exists_eq_left, and_true, true_and, true_or, or_true, and_self, reduceCtorEq, Mw.gAdd, Mw.gSubI, Mw.gMul, Mw.gDiv, Mw.gMod, Mw.gPow, Mw.gLt, Mw.gLe, Mw.gGt, Mw.gGe, Mw.gIx, Mw.gNeg, Mw.eqB_int, Mw.gEq_int, Mw.gNe_int, Mw.gEq_str, Mw.gNe_str, if_true, if_false, Bool.false_eq_true, Nat.reduceAdd, Nat.zero_add, Bool.not_true, Bool.not_false, Mw.atI_c0, Mw.atI_c1, Mw.atI_c2, Mw.atI_c3, Mw.atI_c4])
local macro_rules | `(tactic| simp! only [$xs,*]) => `(tactic| simp only [Mw.mSeq, Mw.mSet, Mw.mSetN, Mw.mExpr, Mw.mExprX, Mw.mRet, Mw.mIf, Mw.mNext, Mw.mFrz, Mw.mPar, Mw.mBin, Mw.mUn, Mw.mArg, Mw.mC, Mw.mVar, Mw.mPeek, Mw.mCall, Mw.mCons, Mw.mNil, Mw.mTup, Mw.mLst, Mw.mBinT, Mw.mAsT, Mw.mNotT, Mw.mAndT, Mw.mOrT, Mw.mAndE, Mw.mOrE, Mw.mNotE, Mw.mChain, Mw.mChainT, Mw.mSl, Mw.mO0, Mw.mO1, Mw.mIter, Mw.mRng1, Mw.mMut, Mw.mMutR, Mw.mSubSet, Mw.mShare, Mw.mMeth, Mw.mFor, Mw.mLc, Mw.mYes, Mw.slotV, Mw.frzS, Mw.tgN, Mw.wipeE, Mw.retK, List.foldl_cons, List.foldl_nil, Mw.deref_int, Mw.deref_str, Mw.deref_bl, Mw.deref_non, Mw.deref_tup, Mw.deref_lst, Mw.deref_scr, Mw.deref_dic, Mw.deref_ty, Mw.isLst, Mw.cellP, List.getElem?_cons_zero, List.getElem?_cons_succ, List.getElem?_nil, List.set_cons_zero, List.set_cons_succ, List.map_cons, List.map_nil, List.length_cons, List.length_nil, List.cons_append, List.nil_append, Option.some.injEq, Mw.Slot.val.injEq, Mw.Slot.own.injEq, Mw.PV.int.injEq, Mw.PV.bl.injEq, Mw.PV.str.injEq, Mw.PV.ref.injEq, Mw.PV.lst.injEq, Mw.PV.tup.injEq, exists_eq_left', exists_eq_left, and_true, true_and, true_or, or_true, and_self, reduceCtorEq, Mw.gAdd, Mw.gSubI, Mw.gMul, Mw.gDiv, Mw.gMod, Mw.gPow, Mw.gLt, Mw.gLe, Mw.gGt, Mw.gGe, Mw.gIx, Mw.gNeg, Mw.eqB_int, Mw.gEq_int, Mw.gNe_int, Mw.gEq_str, Mw.gNe_str, if_true, if_false, Bool.false_eq_true, Nat.reduceAdd, Nat.zero_add, Bool.not_true, Bool.not_false, Mw.atI_c0, Mw.atI_c1, Mw.atI_c2, Mw.atI_c3, Mw.atI_c4, Mw.Cell.ins.injEq, exists_eq_left, exists_eq_left', exists_and_left, exists_eq', and_assoc, List.mem_cons, List.mem_singleton, true_or, or_true, true_and, $xs,*])
local macro_rules | `(tactic| simp! only) => `(tactic| simp only [Mw.mSeq, Mw.mSet, Mw.mSetN, Mw.mExpr, Mw.mExprX, Mw.mRet, Mw.mIf, Mw.mNext, Mw.mFrz, Mw.mPar, Mw.mBin, Mw.mUn, Mw.mArg, Mw.mC, Mw.mVar, Mw.mPeek, Mw.mCall, Mw.mCons, Mw.mNil, Mw.mTup, Mw.mLst, Mw.mBinT, Mw.mAsT, Mw.mNotT, Mw.mAndT, Mw.mOrT, Mw.mAndE, Mw.mOrE, Mw.mNotE, Mw.mChain, Mw.mChainT, Mw.mSl, Mw.mO0, Mw.mO1, Mw.mIter, Mw.mRng1, Mw.mMut, Mw.mMutR, Mw.mSubSet, Mw.mShare, Mw.mMeth, Mw.mFor, Mw.mLc, Mw.mYes, Mw.slotV, Mw.frzS, Mw.tgN, Mw.wipeE, Mw.retK, List.foldl_cons, List.foldl_nil, Mw.deref_int, Mw.deref_str, Mw.deref_bl, Mw.deref_non, Mw.deref_tup, Mw.deref_lst, Mw.deref_scr, Mw.deref_dic, Mw.deref_ty, Mw.isLst, Mw.cellP, List.getElem?_cons_zero, List.getElem?_cons_succ, List.getElem?_nil, List.set_cons_zero, List.set_cons_succ, List.map_cons, List.map_nil, List.length_cons, List.length_nil, List.cons_append, List.nil_append, Option.some.injEq, Mw.Slot.val.injEq, Mw.Slot.own.injEq, Mw.PV.int.injEq, Mw.PV.bl.injEq, Mw.PV.str.injEq, Mw.PV.ref.injEq, Mw.PV.lst.injEq, Mw.PV.tup.injEq, exists_eq_left', exists_eq_left, and_true, true_and, true_or, or_true, and_self, reduceCtorEq, Mw.gAdd, Mw.gSubI, Mw.gMul, Mw.gDiv, Mw.gMod, Mw.gPow, Mw.gLt, Mw.gLe, Mw.gGt, Mw.gGe, Mw.gIx, Mw.gNeg, Mw.eqB_int, Mw.gEq_int, Mw.gNe_int, Mw.gEq_str, Mw.gNe_str, if_true, if_false, Bool.false_eq_true, Nat.reduceAdd, Nat.zero_add, Bool.not_true, Bool.not_false, Mw.atI_c0, Mw.atI_c1, Mw.atI_c2, Mw.atI_c3, Mw.atI_c4, Mw.Cell.ins.injEq, exists_eq_left, exists_eq_left', exists_and_left, exists_eq', and_assoc, List.mem_cons, List.mem_singleton, true_or, or_true, true_and])
namespace Lw
open PySem L2 Mw
def r__law_pot_1 : SM := (mSet 1 (mBin gMod (mBin gAdd (mBin gAdd (mBin gMul (mPeek 1) (mC (.int 1000003))) (mBin gMod (mPeek 2) (mBin gPow (mC (.int 10)) (mC (.int 30))))) (mC (.int 13))) (mC (.int 2305843009213693951))))
def r__law_pot_2 : SM := (mRet (mShare (mLst (mCons (mShare (mLc (mIter (mSl gSlA (mPeek 0) mO0 (mO1 (mC (.int 63))))) [2] (tgN 2) (mBinT gGe (mPeek 2) (mBin gPow (mC (.int 10)) (mC (.int 18)))) (mVar 2))) (mCons (mVar 1) (mCons (mC (.int 0)) mNil))))))
def r__law_pot_0 : SM := (mSeq (mFor (mIter (mSl gSlA (mPeek 0) mO0 (mO1 (mC (.int 63))))) (tgN 2) (r__law_pot_1)) (r__law_pot_2))
def r__law_pot : SM := (mSeq (mSet 1 (mBin gAdd (mArg gLen (mCons (mPeek 0) mNil)) (mC (.int 7)))) (r__law_pot_0))
abbrev N__law_pot : List Str := ["_law_script", "_law_seed", "_law_cell"]
def r__law_take_0 : SM := (mExpr (mMutR gmPopAt (mBin gIx (mPeek 0) (mC (.int 0))) (mCons (mC (.int 0)) mNil)))
def r__law_take_4 : SM := (mRet (mVar 2))
def r__law_take_3 : SM := (mSeq (mSubSet (mBin gDiv (mBin gIx (mBin gIx (mPeek 0) (mC (.int 0))) (mC (.int 0))) (mPeek 1)) (mBin gIx (mPeek 0) (mC (.int 0))) (mC (.int 0))) (r__law_take_4))
def r__law_take_2 : SM := (mSeq (mSet 2 (mBin gMod (mBin gIx (mBin gIx (mPeek 0) (mC (.int 0))) (mC (.int 0))) (mPeek 1))) (r__law_take_3))
def r__law_take_8 : SM := (mRet (mBin gMod (mBin gAdd (mBin gDiv (mPeek 3) (mC (.int 97))) (mBin gDiv (mPeek 3) (mC (.int 1000033)))) (mPeek 1)))
def r__law_take_7 : SM := (mSeq (mSet 3 (mBin gMod (mBin gMul (mPeek 3) (mBin gAdd (mBin gMod (mPeek 3) (mC (.int 1000003))) (mBin gMul (mC (.int 99991)) (mBin gIx (mPeek 0) (mC (.int 2)))))) (mC (.int 2305843009213693907)))) (r__law_take_8))
def r__law_take_6 : SM := (mSeq (mSet 3 (mBin gMod (mBin gMul (mBin gAdd (mBin gAdd (mBin gIx (mPeek 0) (mC (.int 1))) (mBin gMul (mBin gMul (mC (.int 65537)) (mBin gIx (mPeek 0) (mC (.int 2)))) (mBin gIx (mPeek 0) (mC (.int 2))))) (mC (.int 11))) (mC (.int 48271))) (mC (.int 2305843009213693921)))) (r__law_take_7))
def r__law_take_5 : SM := (mSeq (mSubSet (mBin gAdd (mBin gIx (mPeek 0) (mC (.int 2))) (mC (.int 1))) (mVar 0) (mC (.int 2))) (r__law_take_6))
def r__law_take_1 : SM := (mSeq (mIf (mBinT gNe (mBin gIx (mPeek 0) (mC (.int 0))) (mLst mNil)) (r__law_take_2) mNext) (r__law_take_5))
def r__law_take : SM := (mSeq (mWhile (mAndT (mBinT gNe (mBin gIx (mPeek 0) (mC (.int 0))) (mLst mNil)) (mBinT gEq (mBin gIx (mBin gIx (mPeek 0) (mC (.int 0))) (mC (.int 0))) (mC (.int 0)))) (r__law_take_0)) (r__law_take_1))
abbrev N__law_take : List Str := ["_law_pot_here", "_law_many", "_law_digit", "_law_mixed"]
def r__law_of (S__law_take : FSpec) : SM := (mRet (mBin gIx (mPeek 1) (mCall 2 S__law_take (mCons (mVar 0) (mCons (mArg gLen (mCons (mPeek 1) mNil)) mNil)))))
abbrev N__law_of : List Str := ["_law_pot_here", "_law_some"]
def r__law_words_5 : SM := (mExprX (mMut 6 gmAppend (mCons (mBin gAdd (mPeek 8) (mBin gIx (mPeek 5) (mBin gMod (mBin gAdd (mPeek 3) (mBin gMul (mPeek 7) (mPeek 7))) (mC (.int 5))))) mNil)))
def r__law_words_4 : SM := (mSeq (mSet 8 (mBin gIx (mPeek 2) (mBin gMod (mBin gAdd (mPeek 3) (mBin gMul (mPeek 4) (mPeek 7))) (mC (.int 26))))) (r__law_words_5))
def r__law_words_6 : SM := (mFrz [6] (mRet (mVar 6)))
def r__law_words_3 : SM := (mSeq (mFor (mRng1 (mCons (mVar 1) mNil)) (tgN 7) (r__law_words_4)) (r__law_words_6))
def r__law_words_2 : SM := (mSeq (mSetN 6 (mLst mNil)) (r__law_words_3))
def r__law_words_1 : SM := (mSeq (mSet 5 (mLst (mCons (mC (.str "")) (mCons (mC (.str "zq")) (mCons (mC (.str "x")) (mCons (mC (.str "qqzzx")) (mCons (mC (.str "zqzqzqz")) mNil))))))) (r__law_words_2))
def r__law_words_0 (S__law_of : FSpec) (S__law_take : FSpec) : SM := (mSeq (mPar 3 4 (mCons (mCall 2 S__law_take (mCons (mVar 0) (mCons (mC (.int 26)) mNil))) (mCons (mCall 2 S__law_of (mCons (mVar 0) (mCons (mLst (mCons (mC (.int 1)) (mCons (mC (.int 3)) (mCons (mC (.int 5)) (mCons (mC (.int 7)) (mCons (mC (.int 9)) (mCons (mC (.int 11)) mNil))))))) mNil))) mNil))) (r__law_words_1))
def r__law_words (S__law_of : FSpec) (S__law_take : FSpec) : SM := (mSeq (mSet 2 (mC (.str "abcdefghijklmnopqrstuvwxyz"))) (r__law_words_0 S__law_of S__law_take))
abbrev N__law_words : List Str := ["_law_pot_here", "_law_many", "_law_letters", "_law_first", "_law_turn", "_law_ends", "_law_found", "_law_k", "_law_sign"]
def r__law_bare_1 (S__law_of : FSpec) : SM := (mRet (mCall 2 S__law_of (mCons (mVar 0) (mCons (mVar 1) mNil))))
def r__law_bare_3 (S__law_of : FSpec) : SM := (mRet (mTup (mCons (mC (.str "waits")) (mCons (mCall 2 S__law_of (mCons (mVar 0) (mCons (mVar 2) mNil))) mNil))))
def r__law_bare_4 (S__law_take : FSpec) : SM := (mRet (mCall 2 S__law_take (mCons (mVar 0) (mCons (mBin gIx (mLst (mCons (mC (.int 3)) (mCons (mC (.int 10)) mNil))) (mCall 2 S__law_take (mCons (mVar 0) (mCons (mC (.int 2)) mNil)))) mNil))))
def r__law_bare_2 (S__law_take : FSpec) (S__law_of : FSpec) : SM := (mSeq (mIf (mAndT (mBinT gEq (mPeek 3) (mC (.int 2))) (mBinT gNe (mPeek 2) (mLst mNil))) (r__law_bare_3 S__law_of) mNext) (r__law_bare_4 S__law_take))
def r__law_bare_0 (S__law_take : FSpec) (S__law_of : FSpec) : SM := (mSeq (mIf (mAndT (mBinT gLt (mPeek 3) (mC (.int 2))) (mBinT gNe (mPeek 1) (mLst mNil))) (r__law_bare_1 S__law_of) mNext) (r__law_bare_2 S__law_take S__law_of))
def r__law_bare (S__law_take : FSpec) (S__law_of : FSpec) : SM := (mSeq (mSet 3 (mCall 2 S__law_take (mCons (mVar 0) (mCons (mC (.int 6)) mNil)))) (r__law_bare_0 S__law_take S__law_of))
abbrev N__law_bare : List Str := ["_law_pot_here", "_law_words_here", "_law_bells", "_law_way"]
def r__law_sum_1 (S__law_bare : FSpec) : SM := (mRet (mCall 3 S__law_bare (mCons (mVar 0) (mCons (mVar 1) (mCons (mVar 2) mNil)))))
def r__law_sum_3 (S__law_sum : FSpec) : SM := (mRet (mTup (mCons (mC (.str "not")) (mCons (mCall 4 S__law_sum (mCons (mVar 0) (mCons (mVar 1) (mCons (mVar 2) (mCons (mBin gSubI (mPeek 3) (mC (.int 1))) mNil))))) mNil))))
def r__law_sum_5 (S__law_sum : FSpec) : SM := (mRet (mTup (mCons (mVar 5) (mCons (mCall 4 S__law_sum (mCons (mVar 0) (mCons (mVar 1) (mCons (mVar 2) (mCons (mBin gSubI (mPeek 3) (mC (.int 1))) mNil))))) (mCons (mCall 4 S__law_sum (mCons (mVar 0) (mCons (mVar 1) (mCons (mVar 2) (mCons (mBin gSubI (mPeek 3) (mC (.int 1))) mNil))))) mNil)))))
def r__law_sum_4 (S__law_sum : FSpec) (S__law_of : FSpec) : SM := (mSeq (mSet 5 (mCall 2 S__law_of (mCons (mVar 0) (mCons (mLst (mCons (mC (.str "plus")) (mCons (mC (.str "minus")) (mCons (mC (.str "less")) (mCons (mC (.str "same")) (mCons (mC (.str "both")) mNil)))))) mNil)))) (r__law_sum_5 S__law_sum))
def r__law_sum_2 (S__law_sum : FSpec) (S__law_of : FSpec) : SM := (mSeq (mIf (mBinT gEq (mPeek 4) (mC (.int 2))) (r__law_sum_3 S__law_sum) mNext) (r__law_sum_4 S__law_sum S__law_of))
def r__law_sum_0 (S__law_bare : FSpec) (S__law_sum : FSpec) (S__law_of : FSpec) : SM := (mSeq (mIf (mOrT (mBinT gLt (mPeek 3) (mC (.int 2))) (mBinT gLt (mPeek 4) (mC (.int 2)))) (r__law_sum_1 S__law_bare) mNext) (r__law_sum_2 S__law_sum S__law_of))
def r__law_sum (S__law_take : FSpec) (S__law_bare : FSpec) (S__law_sum : FSpec) (S__law_of : FSpec) : SM := (mSeq (mSet 4 (mCall 2 S__law_take (mCons (mVar 0) (mCons (mC (.int 8)) mNil)))) (r__law_sum_0 S__law_bare S__law_sum S__law_of))
abbrev N__law_sum : List Str := ["_law_pot_here", "_law_words_here", "_law_bells", "_law_deep", "_law_way", "_law_word"]
theorem take_ok (args : List PV) (et : Hi) (R : PV → Hi → Prop) (h : spTakeC args et R) : r__law_take (env0 N__law_take args) et (retK R) := by
  obtain ⟨r, k, m, sd, ct, is, rfl, hrk, hr, hk, hi, s0, s1, c0, c1, m0, m1, hR⟩ := h
  show r__law_take [.val (.ref r), .val (.int m), .no, .no] et (retK R)
  have hkl := (List.getElem?_eq_some_iff.mp hk).1
  unfold r__law_take
  simp only [mSeq, mWhile]
  refine ⟨fun n ep et1 => ep = [.val (.ref r), .val (.int m), .no, .no] ∧ ∃ is1 : List Int, n = is1.length ∧ (∀ i ∈ is1, 0 ≤ i) ∧ et1 = et.set k (.lst (is1.map .int)), ⟨is.length, rfl, is, rfl, hi, ?_⟩, ?_⟩
  · apply List.ext_getElem?
    intro j
    by_cases e : j = k
    · subst e; rw [List.getElem?_set_self hkl, hk]
    · rw [List.getElem?_set_ne (Ne.symm e)]
  rintro n ep et1 ⟨rfl, is1, rfl, hi1, he1⟩
  have hr1 : et1[r]? = some (.lst [.ref k, .int sd, .int ct]) := by rw [he1, List.getElem?_set_ne (Ne.symm hrk)]; exact hr
  have hk1 : et1[k]? = some (.lst (is1.map .int)) := by rw [he1, List.getElem?_set_self hkl]
  have dr := deref_ref hr1
  have dk := deref_ref hk1
  have e1 := gNe_nil (doks_ints is1).1 (by rw [(doks_ints is1).2]; omega)
  -- behind the loop
  have fin : r__law_take_1 [.val (.ref r), .val (.int m), .no, .no] et1 (retK R) := by
    unfold r__law_take_1
    simp! [dr, dk, e1]
    refine ⟨Nat.zero_le _, ?_⟩
    cases is1 with
    | nil =>
      simp only [List.map_nil, List.isEmpty_nil, Bool.not_true, Bool.false_eq_true, if_false]
      unfold r__law_take_5
      simp! [dr, dk, hr1]
      refine ⟨r, [.ref k, .int sd, .int ct], 2, 2, rfl, hr1, rfl, rfl, ?_⟩
      simp only [List.set_cons_succ, List.set_cons_zero]
      have hr2 : (et1.set r (.lst [PV.ref k, .int sd, .int (ct + 1)]))[r]? = some (.lst [.ref k, .int sd, .int (ct + 1)]) := by
        rw [List.getElem?_set_self (List.getElem?_eq_some_iff.mp hr1).1]
      have dr2 := deref_ref hr2
      unfold r__law_take_6
      have m2 : -18446744073709551616 < 65537 * (ct + 1) ∧ 65537 * (ct + 1) < 18446744073709551616 := ⟨by omega, by omega⟩
      simp! [dr2, m2, Int.reduceNeg, Int.reducePow, Int.reduceLT]
      generalize hx : (sd + 65537 * (ct + 1) * (ct + 1) + 11) * 48271 % 2305843009213693921 = x
      have hx0 : 0 ≤ x := by rw [← hx]; exact Int.emod_nonneg _ (by decide)
      have hx1 : x < 2305843009213693921 := by rw [← hx]; exact Int.emod_lt_of_pos _ (by decide)
      have m3 : -18446744073709551616 < x ∧ x < 18446744073709551616 := ⟨by omega, by omega⟩
      unfold r__law_take_7
      simp! [dr2, m3, Int.reduceNeg, Int.reducePow, Int.reduceLT]
      unfold r__law_take_8
      simp! [m0, Int.reduceLT]
      have hz := hR ((x * (x % 1000003 + 99991 * (ct + 1)) % 2305843009213693907 / 97 + x * (x % 1000003 + 99991 * (ct + 1)) % 2305843009213693907 / 1000033) % m) (ct + 1) [] (Int.emod_nonneg _ (by omega)) (Int.emod_lt_of_pos _ m0) (by omega) (Int.le_refl _) (fun j hj => by cases hj)
      have he : et1.set r (.lst [.ref k, .int sd, .int (ct + 1)]) = (et.set k (.lst (([] : List Int).map .int))).set r (.lst [.ref k, .int sd, .int (ct + 1)]) := by rw [he1]
      rw [he]
      exact hz
    | cons i is2 =>
      simp only [List.map_cons, List.isEmpty_cons, Bool.not_false, if_true]
      unfold r__law_take_2
      simp! [dr, dk]
      refine ⟨_, if_pos m0, ?_⟩
      unfold r__law_take_3
      simp! [dr, dk]
      refine ⟨_, if_pos ⟨m0, m1⟩, k, _, _, 0, rfl, hk1, rfl, ixN_0 (by simp), ?_⟩
      unfold r__law_take_4
      simp!
      have hz := hR (i % m) ct (i / m :: is2) (Int.emod_nonneg _ (by omega)) (Int.emod_lt_of_pos _ m0) c0 (by omega) (by
        intro j hj
        rcases List.mem_cons.mp hj with rfl | hj
        · exact Int.ediv_nonneg (hi1 i (by simp)) (by omega)
        · exact hi1 j (by simp [hj]))
      have he : et1.set k (.lst (.int (i / m) :: is2.map .int)) = (et.set k (.lst ((i / m :: is2).map .int))).set r (.lst [.ref k, .int sd, .int ct]) := by
        rw [he1]
        apply List.ext_getElem?
        intro j
        by_cases h1 : j = r
        · subst h1
          rw [List.getElem?_set_ne (Ne.symm hrk), List.getElem?_set_ne (Ne.symm hrk), List.getElem?_set_self (by simpa using (List.getElem?_eq_some_iff.mp hr).1), hr]
        · rw [List.getElem?_set_ne (i := r) (Ne.symm h1)]
          by_cases h2 : j = k
          · subst h2
            rw [List.getElem?_set_self (by simpa using hkl), List.getElem?_set_self hkl]; rfl
          · rw [List.getElem?_set_ne (Ne.symm h2), List.getElem?_set_ne (Ne.symm h2), List.getElem?_set_ne (Ne.symm h2)]
      rw [he]
      exact hz
  simp! [dr, dk, e1]
  refine ⟨Nat.zero_le _, ?_⟩
  cases is1 with
  | nil => exact fin
  | cons i is2 =>
    simp only [List.map_cons, List.isEmpty_cons, Bool.not_false, if_true]
    refine ⟨_, atI_c0 _ _, _, gEq_int i 0, ?_⟩
    by_cases h0 : i = 0
    · rw [if_pos (by simpa using h0)]
      unfold r__law_take_0
      simp! [dr, dk]
      refine ⟨.lst (is2.map .int), .int i, .lst (is2.map .int), ?_, rfl, is2.length, by simp, is2, rfl, fun j hj => hi1 j (by simp [hj]), ?_⟩
      · simp only [gmPopAt, List.map_cons, List.length_cons]
        rw [if_pos (by decide), ixN_0 (by omega)]; rfl
      · rw [he1]
        apply List.ext_getElem?
        intro j
        by_cases h2 : j = k
        · subst h2
          rw [List.getElem?_set_self (by simpa using hkl), List.getElem?_set_self hkl]
        · rw [List.getElem?_set_ne (Ne.symm h2), List.getElem?_set_ne (Ne.symm h2), List.getElem?_set_ne (Ne.symm h2)]
    · rw [if_neg (by simpa using h0)]
      exact fin
theorem cutP_63 {α : Type} {xs : List α} (h : xs.length ≤ 63) : cutP xs none (some 63) = xs := by
  unfold cutP
  have e1 : HT.sIx xs.length 0 none = 0 := rfl
  have e2 : HT.sIx xs.length xs.length (some 63) = xs.length := by
    show (if (63 : Int) < 0 then ((63 : Int) + (xs.length : Int)).toNat else min (63 : Int).toNat xs.length) = xs.length
    rw [if_neg (by decide)]
    have : (63 : Int).toNat = 63 := rfl
    omega
  rw [e1, e2]; simp
theorem pot_ok (args : List PV) (et : Hi) (R : PV → Hi → Prop) (h : spPotC args et R) : r__law_pot (env0 N__law_pot args) et (retK R) := by
  obtain ⟨ns, rfl, hl, hR⟩ := h
  show r__law_pot [.val (.scr ns), .no, .no] et (retK R)
  unfold r__law_pot
  have hlen : gLen [.scr ns] = some (.int ns.length) := rfl
  simp! [hlen]
  unfold r__law_pot_0
  have hsl : gSlA (.scr ns) none (some 63) = some (.lst (ns.map .int)) := by
    show some (PV.lst ((cutP ns none (some 63)).map .int)) = _
    rw [cutP_63 hl]
  simp! [hsl, itemsP]
  refine ⟨fun i ep et1 => et1 = et ∧ ∃ (sd : Int) (s : Slot), ep = [.val (.scr ns), .val (.int sd), s] ∧ 0 ≤ sd ∧ sd < 2305843009213693951, ⟨rfl, _, _, rfl, by omega, by omega⟩, ?_⟩
  rintro i ep et1 ⟨rfl, sd, s, rfl, h0, h1⟩
  refine ⟨rfl, fun p hp => ⟨_, rfl, ?_⟩, fun hi => ?_⟩
  · rw [List.getElem?_map] at hp
    obtain ⟨c, hc, rfl⟩ : ∃ c, ns[i]? = some c ∧ p = .int c := by
      cases e : ns[i]? with
      | none => rw [e] at hp; cases hp
      | some c => rw [e] at hp; cases hp; exact ⟨c, rfl, rfl⟩
    unfold r__law_pot_1
    have m1 : -18446744073709551616 < sd ∧ sd < 18446744073709551616 := ⟨by omega, by omega⟩
    have m2 : (-18446744073709551616 : Int) < 1000003 ∧ (1000003 : Int) < 18446744073709551616 := by decide
    have m3 : (10 : Int).natAbs < 18446744073709551616 := by decide
    have m4 : (10 : Int) ^ (30 : Int).toNat = 1000000000000000000000000000000 := by decide
    simp! [m1, m2, m3, m4, Int.reduceNeg, Int.reducePow, Int.reduceLT, Int.reduceLE, Nat.reducePow]
    exact ⟨_, _, rfl, Int.emod_nonneg _ (by decide), Int.emod_lt_of_pos _ (by decide)⟩
  · unfold r__law_pot_2
    simp! [hsl, itemsP]
    refine ⟨fun i acc et2 => et2 = et1 ∧ ∃ is : List Int, acc = is.map .int ∧ is.length ≤ i ∧ ∀ j ∈ is, 0 ≤ j, ⟨rfl, [], rfl, Nat.le_refl _, fun j hj => by cases hj⟩, ?_⟩
    rintro i2 acc et2 ⟨rfl, is, rfl, hli, hn⟩
    refine ⟨rfl, fun p hp => ?_, fun hi2 => ?_⟩
    · have hi2 : i2 < ns.length := by
        have := (List.getElem?_eq_some_iff.mp hp).1
        simpa using this
      rw [List.getElem?_map] at hp
      obtain ⟨c, hc, rfl⟩ : ∃ c, ns[i2]? = some c ∧ p = .int c := by
        cases e : ns[i2]? with
        | none => rw [e] at hp; cases hp
        | some c => rw [e] at hp; cases hp; exact ⟨c, rfl, rfl⟩
      have m3 : (10 : Int).natAbs < 18446744073709551616 := by decide
      have m4 : (10 : Int) ^ (18 : Int).toNat = 1000000000000000000 := by decide
      simp! [m3, m4, Int.reduceNeg, Int.reducePow, Int.reduceLT, Int.reduceLE, Nat.reducePow]
      by_cases hc2 : (1000000000000000000 : Int) ≤ c
      · simp only [hc2, decide_true, if_true]
        refine ⟨by rw [List.length_map]; have := (show (63 : Nat) < sizeLine by decide); omega, is ++ [c], by simp, by simp; omega, fun j hj => ?_⟩
        rcases List.mem_append.mp hj with hj | hj
        · exact hn j hj
        · rw [List.mem_singleton.mp hj]; omega
      · simp only [hc2, decide_false, Bool.false_eq_true, if_false]
        exact ⟨is, rfl, by omega, hn⟩
    · have s3 : (0 + 1 + 1 + 1 : Nat) ≤ sizeLine := by decide
      refine ⟨_, rfl, s3, ?_⟩
      have := hR sd is h0 h1 hn
      simpa using this
abbrev pt (n : Nat) : Hi := [.potI, .potO 0 n]
theorem take_pt {m : Int} {n : Nat} {R : PV → Hi → Prop} (m0 : 0 < m) (m1 : m < 1073741824) (h : ∀ d : Int, 0 ≤ d → d < m → R (.int d) (pt n)) : spTake [.ref 1, .int m] (pt (n + 1)) R :=
  ⟨1, 0, n, m, rfl, by decide, rfl, rfl, m0, m1, h⟩
def spOf : FSpec := fun args et R => ∃ (n : Nat) (xs : List PV), args = [.ref 1, .lst xs] ∧ et = pt (n + 1) ∧ 0 < xs.length ∧ xs.length < 1073741824 ∧ ∀ x ∈ xs, R x (pt n)
theorem of_ok (args : List PV) (et : Hi) (R : PV → Hi → Prop) (h : spOf args et R) : r__law_of spTake (env0 N__law_of args) et (retK R) := by
  obtain ⟨n, xs, rfl, rfl, h0, h1, hR⟩ := h
  show r__law_of spTake [.val (.ref 1), .val (.lst xs)] _ (retK R)
  unfold r__law_of
  have hlen : gLen [.lst xs] = some (.int xs.length) := rfl
  simp! [hlen]
  refine take_pt (by omega) (by omega) fun d d0 d1 => ?_
  obtain ⟨j, rfl⟩ : ∃ j : Nat, d = (j : Int) := ⟨d.toNat, by omega⟩
  have hj : j < xs.length := by omega
  have e : atI xs (j : Int) = some xs[j] := atI_nat (List.getElem?_eq_getElem hj)
  simp! [e]
  exact hR _ (List.getElem_mem hj)
def isWord (x : Str) : Bool := decide (1 ≤ x.cps.size) && decide (x.cps.size ≤ 8) && x.cps.toList.all fun c => decide (97 ≤ c) && decide (c ≤ 122)
def letters : Str := "abcdefghijklmnopqrstuvwxyz"
theorem letters_list : letters.cps.toList = (List.range 26).map (· + 97) := by decide +kernel
def endsL : List Str := ["", "zq", "x", "qqzzx", "zqzqzqz"]
theorem endsL_ok : ∀ x ∈ endsL, x.cps.size ≤ 7 ∧ (x.cps.toList.all fun c => decide (97 ≤ c) && decide (c ≤ 122)) = true := by decide +kernel
theorem cps_append (x y : Str) : (x ++ y).cps = x.cps ++ y.cps := rfl
theorem len_cps (x : Str) : x.length = x.cps.size := rfl
def wd (f t k : Nat) : Str := ⟨#[97 + (f + t * k) % 26]⟩ ++ endsL[(f + k * k) % 5]!
theorem ends_get (j : Nat) : endsL[j % 5]! ∈ endsL := by
  have : j % 5 < endsL.length := Nat.mod_lt _ (by decide)
  rw [getElem!_pos endsL (j % 5) this]; exact List.getElem_mem this
theorem wd_ok (f t k : Nat) : isWord (wd f t k) = true := by
  obtain ⟨h1, h2⟩ := endsL_ok _ (ends_get (f + k * k))
  unfold isWord wd
  rw [cps_append]
  have h3 : (f + t * k) % 26 < 26 := Nat.mod_lt _ (by decide)
  simp only [Array.size_append, Array.toList_append, List.all_append, h2]
  simp only [List.all_cons, List.all_nil, Bool.and_true, Bool.and_eq_true, decide_eq_true_eq]
  refine ⟨⟨?_, ?_⟩, ?_, ?_⟩
  · show 1 ≤ 1 + _; omega
  · show 1 + _ ≤ 8; omega
  · omega
  · omega
theorem wd_first (f t k : Nat) : (wd f t k).cps.toList[0]? = some (97 + (f + t * k) % 26) := by
  unfold wd; rw [cps_append, Array.toList_append]; rfl
def turns : List Nat := [1, 3, 5, 7, 9, 11]
theorem turn_inj : ∀ t ∈ turns, ∀ d : Nat, d < 26 → t * d % 26 = 0 → d = 0 := by decide
theorem wd_inj {f t j k : Nat} (ht : t ∈ turns) (hj : j < 26) (hk : k < 26) (h : wd f t j = wd f t k) : j = k := by
  have h1 := wd_first f t j
  rw [h, wd_first] at h1
  have h2 : (f + t * k) % 26 = (f + t * j) % 26 := by
    have := Option.some.inj h1; omega
  rcases Nat.le_total j k with hle | hle
  · obtain ⟨d, rfl⟩ := Nat.exists_eq_add_of_le hle
    have h3 : t * (j + d) = t * j + t * d := Nat.mul_add _ _ _
    have := turn_inj t ht d (by omega) (by omega)
    omega
  · obtain ⟨d, rfl⟩ := Nat.exists_eq_add_of_le hle
    have h3 : t * (k + d) = t * k + t * d := Nat.mul_add _ _ _
    have := turn_inj t ht d (by omega) (by omega)
    omega
def wds (f t n : Nat) : List Str := (List.range n).map (wd f t)
theorem wds_ok (f t n : Nat) : ∀ x ∈ wds f t n, isWord x = true := fun x hx => by
  obtain ⟨k, _, rfl⟩ := List.mem_map.mp hx; exact wd_ok f t k
theorem nodup_map_on {α β : Type} {f : α → β} : ∀ {l : List α}, l.Nodup → (∀ x ∈ l, ∀ y ∈ l, f x = f y → x = y) → (l.map f).Nodup
  | [], _, _ => by simp
  | a :: l, h, hi => by
    rw [List.map_cons, List.nodup_cons]
    rw [List.nodup_cons] at h
    refine ⟨fun hm => ?_, nodup_map_on h.2 fun x hx y hy => hi x (by simp [hx]) y (by simp [hy])⟩
    obtain ⟨b, hb, e⟩ := List.mem_map.mp hm
    exact h.1 (hi b (by simp [hb]) a (by simp) e ▸ hb)
theorem wds_nodup {f t n : Nat} (ht : t ∈ turns) (hn : n ≤ 26) : (wds f t n).Nodup := nodup_map_on List.nodup_range fun x hx y hy h =>
  wd_inj ht (by have := List.mem_range.mp hx; omega) (by have := List.mem_range.mp hy; omega) h
def spWords : FSpec := fun args et R => ∃ (n many : Nat), args = [.ref 1, .int many] ∧ many ≤ 26 ∧ et = pt (n + 2) ∧
  ∀ ws : List Str, ws.length = many → (∀ x ∈ ws, isWord x = true) → ws.Nodup → R (.lst (ws.map .str)) (pt n)
theorem words_ok (args : List PV) (et : Hi) (R : PV → Hi → Prop) (h : spWords args et R) : r__law_words spOf spTake (env0 N__law_words args) et (retK R) := by
  obtain ⟨n, many, rfl, hm, rfl, hR⟩ := h
  show r__law_words spOf spTake [.val (.ref 1), .val (.int many), .no, .no, .no, .no, .no, .no, .no] _ (retK R)
  unfold r__law_words
  simp!
  unfold r__law_words_0
  simp!
  refine take_pt (by decide) (by decide) fun f f0 f1 => ?_
  have s6 : (0 + 1 + 1 + 1 + 1 + 1 + 1 : Nat) ≤ sizeLine := by decide
  refine ⟨s6, n, _, rfl, rfl, by simp, by simp, fun x hx => ?_⟩
  obtain ⟨t, ht, rfl⟩ : ∃ t : Nat, t ∈ turns ∧ x = .int t := by
    simp only [List.mem_cons, List.not_mem_nil, or_false] at hx
    rcases hx with rfl | rfl | rfl | rfl | rfl | rfl
    · exact ⟨1, by decide, rfl⟩
    · exact ⟨3, by decide, rfl⟩
    · exact ⟨5, by decide, rfl⟩
    · exact ⟨7, by decide, rfl⟩
    · exact ⟨9, by decide, rfl⟩
    · exact ⟨11, by decide, rfl⟩
  obtain ⟨f, rfl⟩ : ∃ j : Nat, f = (j : Int) := ⟨f.toNat, by omega⟩
  refine ⟨_, _, rfl, ?_⟩
  unfold r__law_words_1
  simp!
  refine ⟨by decide, ?_⟩
  unfold r__law_words_2
  simp!
  refine ⟨by decide, ?_⟩
  unfold r__law_words_3
  simp!
  refine ⟨many, rfl, by omega, by omega, fun i ep et1 => et1 = pt n ∧ ∃ s1 s2, ep = [.val (.ref 1), .val (.int many), .val (.str letters), .val (.int f), .val (.int t), .val (.lst (endsL.map .str)), .own (.lst ((wds f t i).map .str)), s1, s2], ⟨rfl, _, _, rfl⟩, ?_⟩
  rintro i ep et1 ⟨rfl, s1, s2, rfl⟩
  have hlenR : (rng 0 (many : Int).toNat).length = many := by simp [rng]
  refine ⟨rfl, fun p hp => ⟨_, rfl, ?_⟩, fun hi => ?_⟩
  · have hi : i < many := by
      have := (List.getElem?_eq_some_iff.mp hp).1
      rw [hlenR] at this; exact this
    have hpe : p = .int i := by
      unfold rng at hp
      rw [List.getElem?_map, List.getElem?_range (by omega)] at hp
      cases hp; simp
    subst hpe
    unfold r__law_words_4
    have ht26 : t ≤ 11 := by
      simp only [turns, List.mem_cons, List.not_mem_nil, or_false] at ht
      omega
    have m1 : (-18446744073709551616 : Int) < t ∧ (t : Int) < 18446744073709551616 := ⟨by omega, by omega⟩
    have m2 : (-18446744073709551616 : Int) < i ∧ (i : Int) < 18446744073709551616 := ⟨by omega, by omega⟩
    have l1 : letters.length ≤ sizeLine := by decide +kernel
    have e1 : atI letters.cps.toList (((f : Int) + t * i) % 26) = some (97 + (f + t * i) % 26) := by
      have : ((f : Int) + t * i) % 26 = (((f + t * i) % 26 : Nat) : Int) := by simp
      rw [this]
      refine atI_nat ?_
      rw [letters_list, List.getElem?_map, List.getElem?_range (Nat.mod_lt _ (by decide))]
      simp [Nat.add_comm]
    simp! [m1, m2, Int.reduceNeg, Int.reducePow, Int.reduceLT, l1, e1, Option.map_some]
    unfold r__law_words_5
    have e2 : atI (endsL.map PV.str) (((f : Int) + i * i) % 5) = some (.str endsL[(f + i * i) % 5]!) := by
      have : ((f : Int) + i * i) % 5 = (((f + i * i) % 5 : Nat) : Int) := by simp
      rw [this]
      refine atI_nat ?_
      have hlt : (f + i * i) % 5 < endsL.length := Nat.mod_lt _ (by decide)
      rw [List.getElem?_map, List.getElem?_eq_getElem hlt, getElem!_pos endsL _ hlt]; rfl
    have hel := (endsL_ok _ (ends_get (f + i * i))).1
    have l2 : (⟨#[97 + (f + t * i) % 26]⟩ : Str).length + (endsL[(f + i * i) % 5]!).length ≤ sizeLine := by
      rw [len_cps, len_cps]
      have : (8 : Nat) ≤ sizeLine := by decide
      show 1 + _ ≤ _
      omega
    have l3 : ((wds f t i).map PV.str).length < sizeLine := by
      rw [List.length_map]; unfold wds; rw [List.length_map, List.length_range]
      have : (26 : Nat) < sizeLine := by decide
      omega
    simp! [m1, m2, Int.reduceNeg, Int.reducePow, Int.reduceLT, e2, l2, gmAppend, l3]
    have : (wds f t (i + 1)).map PV.str = (wds f t i).map PV.str ++ [.str (wd f t i)] := by
      unfold wds; rw [List.range_succ, List.map_append, List.map_append]; rfl
    rw [this]
    exact ⟨_, _, rfl, _, _, rfl⟩
  · rw [hlenR] at hi
    unfold r__law_words_6
    simp!
    exact hR _ (by rw [hi]; simp [wds]) (wds_ok f t i) (wds_nodup ht (by omega))
inductive Tw where
  | plus | minus | less | same | both
  deriving DecidableEq
def Tw.str : Tw → Str
  | .plus => "plus" | .minus => "minus" | .less => "less" | .same => "same" | .both => "both"
inductive Sm where
  | val (n : Nat) | wrd (x : Str) | wts (x : Str) | not (a : Sm) | two (w : Tw) (a b : Sm)
def Sm.pv : Sm → PV
  | .val n => .int n
  | .wrd x => .str x
  | .wts x => .tup [.str "waits", .str x]
  | .not a => .tup [.str "not", a.pv]
  | .two w a b => .tup [.str w.str, a.pv, b.pv]
def Sm.dep : Sm → Nat
  | .val _ => 1
  | .wrd _ => 1
  | .wts _ => 1
  | .not a => a.dep + 1
  | .two _ a b => max a.dep b.dep + 1
def Sm.ok (ws bs : List Str) : Sm → Prop
  | .val n => n ≤ 9
  | .wrd x => x ∈ ws
  | .wts x => x ∈ bs
  | .not a => a.ok ws bs
  | .two _ a b => a.ok ws bs ∧ b.ok ws bs
theorem isWord_strOk {x : Str} (h : isWord x = true) : PyData.strOk x = true := by
  unfold isWord at h
  simp only [Bool.and_eq_true, List.all_eq_true, decide_eq_true_eq] at h
  unfold PyData.strOk
  rw [← Array.all_toList, List.all_eq_true]
  intro c hc
  have := h.2 c hc
  simp; omega
theorem doks_words {ws : List Str} (h : ∀ x ∈ ws, isWord x = true) : doks (ws.map .str) = true ∧ dpts (ws.map .str) = 0 := by
  induction ws with
  | nil => simp [doks, dpts]
  | cons x ws ih =>
    have := ih fun y hy => h y (by simp [hy])
    simp [doks, dpts, dok, dpt, isWord_strOk (h x (by simp)), this]
theorem gNe_words {ws : List Str} (h : ∀ x ∈ ws, isWord x = true) : gNe (.lst (ws.map .str)) (.lst []) = some (.bl (!ws.isEmpty)) := by
  rw [gNe_nil (doks_words h).1 (by rw [(doks_words h).2]; omega)]
  cases ws <;> rfl
def spBare : FSpec := fun args et R => ∃ (n : Nat) (ws bs : List Str), args = [.ref 1, .lst (ws.map .str), .lst (bs.map .str)] ∧ (∀ x ∈ ws, isWord x = true) ∧ (∀ x ∈ bs, isWord x = true) ∧ ws.length < 1000 ∧ bs.length < 1000 ∧ et = pt (n + 3) ∧
  ∀ n', n ≤ n' → ∀ s : Sm, s.dep = 1 → s.ok ws bs → R s.pv (pt n')
theorem of_intro {n : Nat} {xs : List PV} {R : PV → Hi → Prop} (h0 : 0 < xs.length) (h1 : xs.length < 1073741824) (h : ∀ x ∈ xs, R x (pt n)) : spOf [.ref 1, .lst xs] (pt (n + 1)) R := ⟨n, xs, rfl, rfl, h0, h1, h⟩
theorem bare_ok (args : List PV) (et : Hi) (R : PV → Hi → Prop) (h : spBare args et R) : r__law_bare spTake spOf (env0 N__law_bare args) et (retK R) := by
  obtain ⟨n, ws, bs, rfl, hw, hb, lw, lb, rfl, hR⟩ := h
  show r__law_bare spTake spOf [.val (.ref 1), .val (.lst (ws.map .str)), .val (.lst (bs.map .str)), .no] _ (retK R)
  unfold r__law_bare
  simp!
  refine take_pt (by decide) (by decide) fun d d0 d1 => ?_
  unfold r__law_bare_0
  have ew := gNe_words hw
  have eb := gNe_words hb
  simp! [ew, eb]
  -- the rest
  have fin : r__law_bare_2 spTake spOf [.val (.ref 1), .val (.lst (ws.map .str)), .val (.lst (bs.map .str)), .val (.int d)] (pt (n + 2)) (retK R) := by
    unfold r__law_bare_2
    simp! [eb]
    have last : r__law_bare_4 spTake [.val (.ref 1), .val (.lst (ws.map .str)), .val (.lst (bs.map .str)), .val (.int d)] (pt (n + 2)) (retK R) := by
      unfold r__law_bare_4
      simp!
      refine ⟨by decide, ?_⟩
      refine take_pt (by decide) (by decide) fun e e0 e1 => ?_
      have he : e = 0 ∨ e = 1 := by omega
      have fin2 : ∀ m : Int, 0 < m → m ≤ 10 → spTake [.ref 1, .int m] (pt (n + 1)) R := fun m h0 h1 => take_pt h0 (by omega) fun g g0 g1 => by
        obtain ⟨g, rfl⟩ : ∃ j : Nat, g = (j : Int) := ⟨g.toNat, by omega⟩
        exact hR n (Nat.le_refl _) (.val g) rfl (show g ≤ 9 by omega)
      rcases he with rfl | rfl
      · refine ⟨_, atI_c0 _ _, ?_⟩
        exact fin2 3 (by decide) (by decide)
      · refine ⟨_, atI_c1 _ _ _, ?_⟩
        exact fin2 10 (by decide) (by decide)
    by_cases h2 : d = 2
    · simp only [h2, decide_true, if_true]
      refine ⟨by decide, ?_⟩
      cases bs with
      | nil => exact h2 ▸ last
      | cons b bs =>
        simp only [List.isEmpty_cons, Bool.not_false, if_true]
        unfold r__law_bare_3
        simp!
        refine of_intro (by simp) (by simp only [List.length_cons, List.length_map] at lb ⊢; omega) fun x hx => ?_
        refine ⟨by decide, ?_⟩
        obtain ⟨y, hy, rfl⟩ := List.mem_map.mp (show x ∈ (b :: bs).map PV.str from hx)
        exact hR (n + 1) (by omega) (.wts y) rfl hy
    · simp only [h2, decide_false, Bool.false_eq_true, if_false]
      exact last
  by_cases h1 : d < 2
  · simp only [h1, decide_true, if_true]
    refine ⟨by decide, ?_⟩
    cases ws with
    | nil => exact fin
    | cons b ws =>
      simp only [List.isEmpty_cons, Bool.not_false, if_true]
      unfold r__law_bare_1
      simp!
      refine of_intro (by simp) (by simp only [List.length_cons, List.length_map] at lw ⊢; omega) fun x hx => ?_
      obtain ⟨y, hy, rfl⟩ := List.mem_map.mp (show x ∈ (b :: ws).map PV.str from hx)
      exact hR (n + 1) (by omega) (.wrd y) rfl hy
  · simp only [h1, decide_false, Bool.false_eq_true, if_false]
    exact fin
def cs : Nat → Nat
  | 0 => 4
  | k + 1 => 2 * cs k + 2
theorem cs_le (k : Nat) : 4 ≤ cs k := by induction k <;> simp [cs]; omega
def spSum : Nat → FSpec := fun j args et R => ∃ (n deep : Nat) (ws bs : List Str), args = [.ref 1, .lst (ws.map .str), .lst (bs.map .str), .int deep] ∧ deep < j ∧ (∀ x ∈ ws, isWord x = true) ∧ (∀ x ∈ bs, isWord x = true) ∧ ws.length < 1000 ∧ bs.length < 1000 ∧ et = pt (n + cs deep) ∧
  ∀ n', n ≤ n' → ∀ s : Sm, s.dep ≤ max 1 deep → s.ok ws bs → R s.pv (pt n')
theorem sum_ok (j : Nat) (args : List PV) (et : Hi) (R : PV → Hi → Prop) (h : spSum (j + 1) args et R) : r__law_sum spTake spBare (spSum j) spOf (env0 N__law_sum args) et (retK R) := by
  obtain ⟨n, deep, ws, bs, rfl, hj, hw, hb, lw, lb, rfl, hR⟩ := h
  show r__law_sum _ _ _ _ [.val (.ref 1), .val (.lst (ws.map .str)), .val (.lst (bs.map .str)), .val (.int deep), .no, .no] _ (retK R)
  have hc := cs_le deep
  obtain ⟨c, hcc⟩ : ∃ c, cs deep = c + 4 := ⟨cs deep - 4, by omega⟩
  have e0 : n + cs deep = (n + c + 3) + 1 := by omega
  rw [e0]
  unfold r__law_sum
  simp!
  refine take_pt (m := 8) (by decide) (by decide) fun d d0 d1 => ?_
  unfold r__law_sum_0
  simp!
  have bare : r__law_sum_1 spBare [.val (.ref 1), .val (.lst (ws.map .str)), .val (.lst (bs.map .str)), .val (.int deep), .val (.int d), .no] (pt (n + c + 3)) (retK R) := by
    unfold r__law_sum_1
    simp!
    exact ⟨n + c, ws, bs, rfl, hw, hb, lw, lb, rfl, fun n' hn s hs ho => hR n' (by omega) s (by omega) ho⟩
  by_cases h1 : (deep : Int) < 2
  · simp only [h1, decide_true, if_true]
    exact bare
  simp only [h1, decide_false, Bool.false_eq_true, if_false]
  by_cases h2 : d < 2
  · simp only [h2, decide_true, if_true]
    exact bare
  simp only [h2, decide_false, Bool.false_eq_true, if_false]
  obtain ⟨k, rfl⟩ : ∃ k, deep = k + 1 := ⟨deep - 1, by omega⟩
  have ecs : cs (k + 1) = 2 * cs k + 2 := rfl
  have ek : (((k + 1 : Nat) : Int) - 1) = (k : Int) := by omega
  unfold r__law_sum_2
  simp! [ek]
  by_cases h3 : d = 2
  · simp only [h3, decide_true, if_true]
    unfold r__law_sum_3
    simp! [ek]
    refine ⟨n + c + 3 - cs k, k, ws, bs, rfl, by omega, hw, hb, lw, lb, by congr 1; omega, fun n' hn s hs ho => ?_⟩
    refine ⟨by decide, hR n' (by omega) (.not s) ?_ ho⟩
    show s.dep + 1 ≤ _; omega
  simp only [h3, decide_false, Bool.false_eq_true, if_false]
  unfold r__law_sum_4
  simp!
  refine ⟨by decide, ?_⟩
  have e1 : n + c + 3 = (n + c + 2) + 1 := by omega
  rw [e1]
  refine of_intro (by simp) (by simp) fun x hx => ?_
  obtain ⟨t, rfl⟩ : ∃ t : Tw, x = .str t.str := by
    simp only [List.mem_cons, List.not_mem_nil, or_false] at hx
    rcases hx with rfl | rfl | rfl | rfl | rfl
    · exact ⟨.plus, rfl⟩
    · exact ⟨.minus, rfl⟩
    · exact ⟨.less, rfl⟩
    · exact ⟨.same, rfl⟩
    · exact ⟨.both, rfl⟩
  unfold r__law_sum_5
  simp! [ek]
  refine ⟨n + c + 2 - cs k, k, ws, bs, rfl, by omega, hw, hb, lw, lb, by congr 1; omega, fun n1 hn1 s1 hs1 ho1 => ?_⟩
  refine ⟨n1 - cs k, k, ws, bs, rfl, by omega, hw, hb, lw, lb, by congr 1; omega, fun n2 hn2 s2 hs2 ho2 => ?_⟩
  refine ⟨by decide, hR n2 (by omega) (.two t s1 s2) ?_ ⟨ho1, ho2⟩⟩
  show max s1.dep s2.dep + 1 ≤ _; omega
end Lw
namespace Sq
open PySem L2 Mw Lw
abbrev k_LETTERS : PV := .str "abcdefghijklmnopqrstuvwxyz"
abbrev k_MOST_DEEP : PV := .int 5
abbrev k_MOST_SIGNS : PV := .int 8
abbrev k_MOST_VALUE : PV := .int 9
abbrev k_TWO_PARTS : PV := .tup [.str "plus", .str "minus", .str "less", .str "same", .str "both"]
def r_is_word_0 : SM := (mRet (mC (.bl false)))
def r_is_word_1 : SM := (mRet (mArg gAll (mCons (mLc (mIter (mVar 0)) [1] (tgN 1) mYes (mBin gIn (mPeek 1) (mC k_LETTERS))) mNil)))
def r_is_word : SM := (mSeq (mIf (mOrT (mNotT (mAsT (mArg gIsi (mCons (mPeek 0) (mCons (mC (.ty .str)) mNil))))) (mNotT (mChainT gLe gLe (mC (.int 1)) (mArg gLen (mCons (mPeek 0) mNil)) (mC k_MOST_SIGNS)))) (r_is_word_0) mNext) (r_is_word_1))
abbrev N_is_word : List Str := ["thing", "sign"]
def r_is_value : SM := (mRet (mAndE (mArg gIsi (mCons (mPeek 0) (mCons (mC (.ty .int)) mNil))) (mAndE (mNotE (mArg gIsi (mCons (mPeek 0) (mCons (mC (.ty .bool)) mNil)))) (mChain gLe gLe (mC (.int 0)) (mPeek 0) (mC k_MOST_VALUE)))))
abbrev N_is_value : List Str := ["thing"]
def r_is_sum_within_0 : SM := (mRet (mC (.bl false)))
def r_is_sum_within_2 (S_is_word : FSpec) (S_is_value : FSpec) : SM := (mRet (mOrE (mCall 1 S_is_value (mCons (mVar 0) mNil)) (mCall 1 S_is_word (mCons (mVar 0) mNil))))
def r_is_sum_within_4 : SM := (mRet (mC (.bl false)))
def r_is_sum_within_6 (S_is_word : FSpec) : SM := (mRet (mAndE (mBin gEq (mArg gLen (mCons (mPeek 0) mNil)) (mC (.int 2))) (mCall 1 S_is_word (mCons (mBin gIx (mPeek 0) (mC (.int 1))) mNil))))
def r_is_sum_within_8 (S_is_sum_within : FSpec) : SM := (mRet (mAndE (mBin gEq (mArg gLen (mCons (mPeek 0) mNil)) (mC (.int 2))) (mCall 2 S_is_sum_within (mCons (mBin gIx (mPeek 0) (mC (.int 1))) (mCons (mBin gSubI (mPeek 1) (mC (.int 1))) mNil)))))
def r_is_sum_within_10 : SM := (mRet (mC (.bl false)))
def r_is_sum_within_11 (S_is_sum_within : FSpec) : SM := (mRet (mAndE (mCall 2 S_is_sum_within (mCons (mBin gIx (mPeek 0) (mC (.int 1))) (mCons (mBin gSubI (mPeek 1) (mC (.int 1))) mNil))) (mCall 2 S_is_sum_within (mCons (mBin gIx (mPeek 0) (mC (.int 2))) (mCons (mBin gSubI (mPeek 1) (mC (.int 1))) mNil)))))
def r_is_sum_within_9 (S_is_sum_within : FSpec) : SM := (mSeq (mIf (mOrT (mBinT gNotIn (mBin gIx (mPeek 0) (mC (.int 0))) (mC k_TWO_PARTS)) (mBinT gNe (mArg gLen (mCons (mPeek 0) mNil)) (mC (.int 3)))) (r_is_sum_within_10) mNext) (r_is_sum_within_11 S_is_sum_within))
def r_is_sum_within_7 (S_is_sum_within : FSpec) : SM := (mSeq (mIf (mBinT gEq (mBin gIx (mPeek 0) (mC (.int 0))) (mC (.str "not"))) (r_is_sum_within_8 S_is_sum_within) mNext) (r_is_sum_within_9 S_is_sum_within))
def r_is_sum_within_5 (S_is_word : FSpec) (S_is_sum_within : FSpec) : SM := (mSeq (mIf (mBinT gEq (mBin gIx (mPeek 0) (mC (.int 0))) (mC (.str "waits"))) (r_is_sum_within_6 S_is_word) mNext) (r_is_sum_within_7 S_is_sum_within))
def r_is_sum_within_3 (S_is_word : FSpec) (S_is_sum_within : FSpec) : SM := (mSeq (mIf (mOrT (mBinT gLt (mArg gLen (mCons (mPeek 0) mNil)) (mC (.int 2))) (mNotT (mAsT (mArg gIsi (mCons (mBin gIx (mPeek 0) (mC (.int 0))) (mCons (mC (.ty .str)) mNil)))))) (r_is_sum_within_4) mNext) (r_is_sum_within_5 S_is_word S_is_sum_within))
def r_is_sum_within_1 (S_is_word : FSpec) (S_is_value : FSpec) (S_is_sum_within : FSpec) : SM := (mSeq (mIf (mNotT (mAsT (mArg gIsi (mCons (mPeek 0) (mCons (mC (.ty .tup)) mNil))))) (r_is_sum_within_2 S_is_word S_is_value) mNext) (r_is_sum_within_3 S_is_word S_is_sum_within))
def r_is_sum_within (S_is_word : FSpec) (S_is_value : FSpec) (S_is_sum_within : FSpec) : SM := (mSeq (mIf (mBinT gEq (mPeek 1) (mC (.int 0))) (r_is_sum_within_0) mNext) (r_is_sum_within_1 S_is_word S_is_value S_is_sum_within))
abbrev N_is_sum_within : List Str := ["thing", "deep"]
def r_is_sum (S_is_sum_within : FSpec) : SM := (mRet (mCall 2 S_is_sum_within (mCons (mVar 0) (mCons (mC k_MOST_DEEP) mNil))))
abbrev N_is_sum : List Str := ["thing"]
theorem lc_pure {src want : List PV} {tg : PV → En → Option En} {me : EM PV} {epw : En} {ps : List PV} {et : Hi} {R : PV → Hi → Prop} (f : PV → PV) (h : src.map (deref et) = want) (hl : ps.length ≤ sizeLine)
    (step : ∀ p ∈ ps, ∃ ep1, tg p epw = some ep1 ∧ ∀ Q : PV → Hi → Prop, Q (f p) et → me ep1 et Q) (fin : R (.lst (ps.map f)) et) : lcGo src want tg mYes me epw ps et R := by
  refine ⟨fun i acc et1 => et1 = et ∧ acc = (ps.take i).map f ∧ i ≤ ps.length, ⟨rfl, by simp, Nat.zero_le _⟩, ?_⟩
  rintro i acc et1 ⟨rfl, rfl, hi⟩
  refine ⟨h, fun p hp => ?_, fun e => ?_⟩
  · obtain ⟨ep1, h1, h2⟩ := step p (List.mem_of_getElem? hp)
    have hlt := (List.getElem?_eq_some_iff.mp hp).1
    refine ⟨ep1, h1, ?_⟩
    simp only [mYes, if_true]
    refine h2 _ ⟨by rw [List.length_map, List.length_take]; omega, rfl, ?_, hlt⟩
    rw [List.take_succ, hp, List.map_append]; rfl
  · rw [e, List.take_length]; exact fin
def wordB : PV → Bool
  | .str x => isWord x
  | _ => false
def valB : PV → Bool
  | .int i => decide (0 ≤ i) && decide (i ≤ 9)
  | _ => false
def fitP : PV → Bool
  | .non => true
  | .bl _ => true
  | .int _ => true
  | .str x => decide (x.cps.size ≤ sizeLine)
  | .tup _ => true
  | .lst _ => true
  | .dic _ => true
  | _ => false
def spPure (f : PV → PV) (dom : PV → Bool) : FSpec := fun args et R => ∃ p, args = [p] ∧ dom p = true ∧ R (f p) et
theorem isi_str {p : PV} (h : fitP p = true) : gIsi [p, .ty .str] = some (.bl (match p with | .str _ => true | _ => false)) := by cases p <;> first | rfl | cases h
theorem isi_int {p : PV} (h : fitP p = true) : gIsi [p, .ty .int] = some (.bl (match p with | .int _ => true | .bl _ => true | _ => false)) := by cases p <;> first | rfl | cases h
theorem isi_bool {p : PV} (h : fitP p = true) : gIsi [p, .ty .bool] = some (.bl (match p with | .bl _ => true | _ => false)) := by cases p <;> first | rfl | cases h
theorem isi_tup {p : PV} (h : fitP p = true) : gIsi [p, .ty .tup] = some (.bl (match p with | .tup _ => true | _ => false)) := by cases p <;> first | rfl | cases h
theorem fit_deref {p : PV} {et : Hi} (h : fitP p = true) : deref et p = p := by cases p <;> first | rfl | cases h
theorem bls_map (f : PV → Bool) (xs : List PV) : bls (xs.map fun p => .bl (f p)) = some (xs.map f) := by
  induction xs with
  | nil => rfl
  | cons x xs ih => simp [bls, ih]
theorem letters_mem (c : Nat) : c ∈ letters.cps.toList ↔ 97 ≤ c ∧ c ≤ 122 := by
  rw [letters_list]
  simp only [List.mem_map, List.mem_range]
  constructor
  · rintro ⟨j, h, rfl⟩; omega
  · intro h; exact ⟨c - 97, by omega, by omega⟩
theorem is_word_ok (args : List PV) (et : Hi) (R : PV → Hi → Prop) (h : spPure (fun p => .bl (wordB p)) fitP args et R) : r_is_word (env0 N_is_word args) et (retK R) := by
  obtain ⟨p, rfl, hp, hR⟩ := h
  show r_is_word [.val p, .no] et (retK R)
  unfold r_is_word
  have hd := fit_deref (et := et) hp
  simp! [hd, isi_str hp]
  cases p with
  | str x =>
    simp only [fitP, decide_eq_true_eq] at hp
    have hlen : gLen [.str x] = some (.int x.cps.size) := by show (if x.length ≤ sizeLine then some (PV.int x.length) else none) = _; rw [if_pos (show x.length ≤ sizeLine from hp)]; rfl
    simp! [hlen]
    by_cases h1 : (1 : Int) ≤ x.cps.size
    · simp only [h1, decide_true, if_true]
      by_cases h2 : (x.cps.size : Int) ≤ 8
      · simp only [h2, decide_true, Bool.not_true, Bool.false_eq_true, if_false]
        unfold r_is_word_1
        simp! [itemsP]
        refine lc_pure (fun p => .bl (match p with | .str s => decide (s.cps.getD 0 0 ∈ letters.cps.toList) | _ => false)) rfl (by unfold signs; rw [List.length_map, Array.length_toList]; exact hp) (fun q hq => ?_) ?_
        · obtain ⟨c, hc, rfl⟩ := List.mem_map.mp hq
          refine ⟨_, rfl, fun Q hQ => ?_⟩
          simp!
          exact ⟨_, rfl, hQ⟩
        · have e : (List.map (fun p => match p with | PV.str s => decide (s.cps.getD 0 0 ∈ letters.cps.toList) | _ => false) (signs x)).all id = wordB (.str x) := by
            unfold signs wordB isWord
            have g1 : 1 ≤ x.cps.size := by omega
            have g2 : x.cps.size ≤ 8 := by omega
            simp only [g1, g2, decide_true, Bool.true_and, List.map_map, List.all_map]
            congr 1
            funext c
            simp only [Function.comp, id]
            show decide (c ∈ letters.cps.toList) = _
            rw [Bool.eq_iff_iff, decide_eq_true_eq, letters_mem]
            simp
          refine ⟨.bl (wordB (.str x)), ?_, hR⟩
          show (bls (List.map (fun p => PV.bl (match p with | PV.str s => decide (s.cps.getD 0 0 ∈ letters.cps.toList) | _ => false)) (signs x))).map _ = _
          rw [bls_map (fun p => match p with | PV.str s => decide (s.cps.getD 0 0 ∈ letters.cps.toList) | _ => false)]
          simp only [Option.map_some, e]
      · simp only [h2, decide_false, Bool.not_false, if_true]
        unfold r_is_word_0
        simp!
        have : wordB (.str x) = false := by unfold wordB isWord; have : ¬ x.cps.size ≤ 8 := by omega
                                            simp [this]
        simp only [this] at hR; exact hR
    · simp only [h1, decide_false, Bool.false_eq_true, if_false, Bool.not_false, if_true]
      unfold r_is_word_0
      simp!
      have : wordB (.str x) = false := by unfold wordB isWord; have : ¬ 1 ≤ x.cps.size := by omega
                                          simp [this]
      simp only [this] at hR; exact hR
  | _ => first | (cases hp; done) | (simp!; unfold r_is_word_0; simp!; exact hR)
theorem is_value_ok (args : List PV) (et : Hi) (R : PV → Hi → Prop) (h : spPure (fun p => .bl (valB p)) fitP args et R) : r_is_value (env0 N_is_value args) et (retK R) := by
  obtain ⟨p, rfl, hp, hR⟩ := h
  show r_is_value [.val p] et (retK R)
  unfold r_is_value
  have hd := fit_deref (et := et) hp
  simp! [hd, isi_int hp, isi_bool hp]
  cases p with
  | int i =>
    simp!
    by_cases h1 : (0 : Int) ≤ i
    · simp only [h1, decide_true, if_true]
      have : valB (.int i) = decide (i ≤ 9) := by simp [valB, h1]
      simp only [this] at hR
      exact hR
    · simp only [h1, decide_false, Bool.false_eq_true, if_false]
      have : valB (.int i) = false := by simp [valB, h1]
      simp only [this] at hR
      exact hR
  | _ => first | (cases hp; done) | (simp!; exact hR)
def twoB (w : Str) : Bool := decide (w = "plus") || decide (w = "minus") || decide (w = "less") || decide (w = "same") || decide (w = "both")
def sumIn : Nat → PV → Bool
  | 0, _ => false
  | n + 1, .tup xs => match xs with
    | .str w :: a :: r => if w = "waits" then r.isEmpty && wordB a else if w = "not" then r.isEmpty && sumIn n a else if twoB w = true then (match r with
      | [b] => sumIn n a && sumIn n b
      | _ => false) else false
    | _ => false
  | _ + 1, p => valB p || wordB p
def fits : Nat → PV → Bool
  | 0, p => fitP p
  | n + 1, .tup xs => decide (xs.length ≤ sizeLine) && xs.all fun x => fits n x
  | _ + 1, p => fitP p
theorem fits_fit : ∀ {n : Nat} {p : PV}, fits n p = true → fitP p = true
  | 0, p, h => h
  | n + 1, p, h => by cases p <;> first | exact h | rfl
def spWithin : Nat → FSpec := fun j args et R => ∃ (p : PV) (deep : Nat), args = [p, .int deep] ∧ deep < j ∧ fits deep p = true ∧ R (.bl (sumIn deep p)) et
abbrev spWord : FSpec := spPure (fun p => .bl (wordB p)) fitP
abbrev spValue : FSpec := spPure (fun p => .bl (valB p)) fitP
theorem within_ok (j : Nat) (args : List PV) (et : Hi) (R : PV → Hi → Prop) (h : spWithin (j + 1) args et R) : r_is_sum_within spWord spValue (spWithin j) (env0 N_is_sum_within args) et (retK R) := by
  obtain ⟨p, deep, rfl, hj, hf, hR⟩ := h
  show r_is_sum_within _ _ _ [.val p, .val (.int deep)] et (retK R)
  have hp := fits_fit hf
  have hd := fit_deref (et := et) hp
  unfold r_is_sum_within
  simp!
  cases deep with
  | zero =>
    simp only [Int.natCast_zero, decide_true, if_true]
    unfold r_is_sum_within_0
    simp!
    exact hR
  | succ k =>
    have h0 : ¬ ((k + 1 : Nat) : Int) = 0 := by omega
    simp only [h0, decide_false, Bool.false_eq_true, if_false]
    unfold r_is_sum_within_1
    simp! [hd, isi_tup hp]
    have plain : (∀ xs, p ≠ .tup xs) → r_is_sum_within_2 spWord spValue [.val p, .val (.int ((k + 1 : Nat) : Int))] et (retK R) := fun hn => by
      unfold r_is_sum_within_2
      simp!
      have e : sumIn (k + 1) p = (valB p || wordB p) := by cases p <;> first | rfl | exact absurd rfl (hn _)
      rw [e] at hR
      refine ⟨p, rfl, hp, _, rfl, ?_⟩
      cases hv : valB p with
      | true => simp only [if_true]; rw [hv] at hR; exact hR
      | false => simp only [Bool.false_eq_true, if_false]; rw [hv] at hR; exact ⟨p, rfl, hp, hR⟩
    cases p with
    | tup xs =>
      simp only [Bool.not_true, Bool.false_eq_true, if_false]
      unfold r_is_sum_within_3
      have hlen : gLen [.tup xs] = some (.int xs.length) := rfl
      simp! [hlen]
      simp only [fits, Bool.and_eq_true, decide_eq_true_eq] at hf
      have no : sumIn (k + 1) (.tup xs) = false → r_is_sum_within_4 [.val (.tup xs), .val (.int ((k + 1 : Nat) : Int))] et (retK R) := fun e => by
        unfold r_is_sum_within_4
        simp!
        rw [e] at hR; exact hR
      by_cases h2 : (xs.length : Int) < 2
      · simp only [h2, decide_true, if_true]
        refine no ?_
        match xs, h2 with
        | [], _ => rfl
        | [x], _ => cases x <;> rfl
      · simp only [h2, decide_false, Bool.false_eq_true, if_false]
        match xs, h2, hf, hR, no with
        | [], h2, _, _, _ => exact absurd (by simp) h2
        | [_], h2, _, _, _ => exact absurd (by simp) h2
        | x :: a :: r, _, hf, hR, no =>
          have hfx : fits k x = true := by have := hf.2; simp at this; exact this.1
          have hfa : fits k a = true := by have := hf.2; simp at this; exact this.2.1
          have hix : gIx (.tup (x :: a :: r)) (.int 0) = some x := atI_c0 _ _
          have hpx := fits_fit hfx
          have hdx := fit_deref (et := et) hpx
          have hia : gIx (.tup (x :: a :: r)) (.int 1) = some a := atI_c1 _ _ _
          refine ⟨x, atI_c0 _ _, ?_⟩
          simp! [hdx, isi_str hpx]
          have ek : (((k + 1 : Nat) : Int) - 1) = (k : Int) := by omega
          cases x with
          | str w =>
            simp!
            unfold r_is_sum_within_5
            simp!
            by_cases hw : w = "waits"
            · simp only [hw, decide_true, if_true]
              unfold r_is_sum_within_6
              have hlen2 : gLen [.tup (.str "waits" :: a :: r)] = some (.int ((r.length + 1 + 1 : Nat) : Int)) := rfl
              simp! [hlen2]
              have e : sumIn (k + 1) (.tup (.str w :: a :: r)) = (r.isEmpty && wordB a) := by simp only [sumIn, hw, if_true]
              rw [hw] at e; rw [hw, e] at hR
              cases r with
              | nil =>
                have h3 : ((([] : List PV).length + 1 + 1 : Nat) : Int) = 2 := rfl
                simp only [h3, decide_true, if_true]
                refine ⟨a, rfl, fits_fit hfa, ?_⟩
                simpa using hR
              | cons b r =>
                have : ¬ (((b :: r).length + 1 + 1 : Nat) : Int) = 2 := by simp only [List.length_cons]; omega
                simp only [this, decide_false, Bool.false_eq_true, if_false]
                simpa using hR
            simp only [hw, decide_false, Bool.false_eq_true, if_false]
            unfold r_is_sum_within_7
            simp!
            by_cases hn : w = "not"
            · simp only [hn, decide_true, if_true]
              unfold r_is_sum_within_8
              have hlen2 : gLen [.tup (.str "not" :: a :: r)] = some (.int ((r.length + 1 + 1 : Nat) : Int)) := rfl
              simp! [hlen2, ek]
              have e : sumIn (k + 1) (.tup (.str w :: a :: r)) = (r.isEmpty && sumIn k a) := by simp only [sumIn, hw, hn, if_true, if_false]; rw [if_neg (by decide)]
              rw [e] at hR
              cases r with
              | nil =>
                have h3 : ((([] : List PV).length + 1 + 1 : Nat) : Int) = 2 := rfl
                simp only [h3, decide_true, if_true]
                refine ⟨a, k, rfl, by omega, hfa, ?_⟩
                simpa using hR
              | cons b r =>
                have : ¬ (((b :: r).length + 1 + 1 : Nat) : Int) = 2 := by simp only [List.length_cons]; omega
                simp only [this, decide_false, Bool.false_eq_true, if_false]
                simpa using hR
            simp only [hn, decide_false, Bool.false_eq_true, if_false]
            unfold r_is_sum_within_9
            have hin : gNotIn (.str w) k_TWO_PARTS = some (.bl (!twoB w)) := by
              show some (PV.bl (!([PV.str "plus", .str "minus", .str "less", .str "same", .str "both"].any fun y => eqP y (.str w)))) = _
              have e1 : ∀ z : Str, eqP (.str z) (.str w) = decide (w = z) := fun z => by show decide (z = w) = _; rw [Bool.eq_iff_iff]; simp [eq_comm]
              simp only [List.any_cons, List.any_nil, e1, Bool.or_false, twoB, Bool.or_assoc]
            simp! [hin, hlen]
            cases ht : twoB w with
            | false =>
              simp only [Bool.not_false, if_true]
              unfold r_is_sum_within_10
              simp!
              have e : sumIn (k + 1) (.tup (.str w :: a :: r)) = false := by simp only [sumIn, hw, hn, if_false, ht, Bool.false_eq_true]
              rw [e] at hR; exact hR
            | true =>
              simp only [Bool.not_true, Bool.false_eq_true, if_false]
              by_cases h3 : ((r.length + 1 + 1 : Nat) : Int) = 3
              · simp only [h3, decide_true, Bool.not_true, Bool.false_eq_true, if_false]
                unfold r_is_sum_within_11
                match r, h3, hf, hR with
                | [b], _, hf, hR =>
                  have hfb : fits k b = true := by have := hf.2; simp at this; exact this.2.2
                  simp! [ek]
                  have e : sumIn (k + 1) (.tup [.str w, a, b]) = (sumIn k a && sumIn k b) := by simp only [sumIn, hw, hn, if_false, ht, if_true]
                  rw [e] at hR
                  refine ⟨a, k, rfl, by omega, hfa, _, rfl, ?_⟩
                  cases hv : sumIn k a with
                  | true => simp only [if_true]; rw [hv] at hR; exact ⟨b, k, rfl, by omega, hfb, hR⟩
                  | false => simp only [Bool.false_eq_true, if_false]; rw [hv] at hR; exact hR
              · simp only [h3, decide_false, Bool.not_false, if_true]
                unfold r_is_sum_within_10
                simp!
                have e : sumIn (k + 1) (.tup (.str w :: a :: r)) = false := by
                  simp only [sumIn, hw, hn, if_false, ht, if_true]
                  match r, h3 with
                  | [], _ => rfl
                  | [b], h3 => exact absurd rfl h3
                  | _ :: _ :: _, _ => rfl
                rw [e] at hR; exact hR
          | _ => first | (cases hpx; done) | (simp!; exact no rfl)
    | _ => first | (cases hp; done) | (simp only [Bool.not_false, if_true]; exact plain (by simp))
def r_law_4 : SM := (mRet (mC (.bl false)))
def r_law_8 : SM := (mRet (mC (.bl false)))
def r_law_10 : SM := (mRet (mC (.bl false)))
def r_law_9 (S__law_truth : FSpec) (S_is_sum : FSpec) : SM := (mIf (mNotT (mAsT (mCall 2 S__law_truth (mCons (mCall 1 S_is_sum (mCons (mTup (mCons (mC (.str "both")) (mCons (mTup (mCons (mC (.str "waits")) (mCons (mVar 6) mNil))) (mCons (mVar 7) mNil)))) mNil)) (mCons (mAndE (mChain gLt gLt (mC (.int 0)) (mArg gLen (mCons (mPeek 6) mNil)) (mC (.int 9))) (mChain gLe gLt (mC (.int 0)) (mPeek 7) (mC (.int 10)))) mNil))))) (r_law_10) mNext)
def r_law_7 (S__law_truth : FSpec) (S_is_sum : FSpec) : SM := (mSeq (mIf (mOrT (mNotT (mAsT (mCall 2 S__law_truth (mCons (mCall 1 S_is_sum (mCons (mVar 6) mNil)) (mCons (mChain gLt gLt (mC (.int 0)) (mArg gLen (mCons (mPeek 6) mNil)) (mC (.int 9))) mNil))))) (mNotT (mAsT (mCall 2 S__law_truth (mCons (mCall 1 S_is_sum (mCons (mVar 7) mNil)) (mCons (mChain gLe gLt (mC (.int 0)) (mPeek 7) (mC (.int 10))) mNil)))))) (r_law_8) mNext) (r_law_9 S__law_truth S_is_sum))
def r_law_6 (S__law_truth : FSpec) (S_is_sum : FSpec) (S__law_take : FSpec) : SM := (mSeq (mSet 7 (mBin gSubI (mCall 2 S__law_take (mCons (mVar 1) (mCons (mC (.int 17)) mNil))) (mC (.int 3)))) (r_law_7 S__law_truth S_is_sum))
def r_law_5 (S__law_truth : FSpec) (S_is_sum : FSpec) (S__law_take : FSpec) : SM := (mSeq (mSet 6 (mMeth .str gJoin (mC (.str "")) (mCons (mLc (mRng1 (mCons (mBin gMod (mPeek 3) (mC (.int 11))) mNil)) [5] (tgN 5) mYes (mBin gIx (mC (.str "abcdefghijklmnopqrstuvwxyz")) (mCall 2 S__law_take (mCons (mVar 1) (mCons (mC (.int 26)) mNil))))) mNil))) (r_law_6 S__law_truth S_is_sum S__law_take))
def r_law_3 (S__law_truth : FSpec) (S_is_sum : FSpec) (S__law_chain : FSpec) (S__law_take : FSpec) : SM := (mSeq (mIf (mNotT (mAsT (mCall 2 S__law_truth (mCons (mCall 1 S_is_sum (mCons (mCall 3 S__law_chain (mCons (mVar 1) (mCons (mVar 2) (mCons (mVar 4) mNil)))) mNil)) (mCons (mBin gLt (mPeek 4) (mC (.int 6))) mNil))))) (r_law_4) mNext) (r_law_5 S__law_truth S_is_sum S__law_take))
def r_law_2 (S__law_truth : FSpec) (S_is_sum : FSpec) (S__law_chain : FSpec) (S__law_take : FSpec) : SM := (mSeq (mSet 4 (mBin gAdd (mC (.int 1)) (mBin gMod (mPeek 3) (mC (.int 8))))) (r_law_3 S__law_truth S_is_sum S__law_chain S__law_take))
def r_law_11 : SM := (mRet (mC (.bl true)))
def r_law_1 (S__law_truth : FSpec) (S_is_sum : FSpec) (S__law_chain : FSpec) (S__law_take : FSpec) : SM := (mSeq (mFor (mRng1 (mCons (mArg gMax2 (mCons (mC (.int 16)) (mCons (mArg gMin2 (mCons (mC (.int 60)) (mCons (mArg gLen (mCons (mPeek 0) mNil)) mNil))) mNil))) mNil)) (tgN 3) (r_law_2 S__law_truth S_is_sum S__law_chain S__law_take)) (r_law_11))
def r_law_0 (S__law_words : FSpec) (S__law_truth : FSpec) (S_is_sum : FSpec) (S__law_chain : FSpec) (S__law_take : FSpec) : SM := (mSeq (mSet 2 (mCall 2 S__law_words (mCons (mVar 1) (mCons (mC (.int 4)) mNil)))) (r_law_1 S__law_truth S_is_sum S__law_chain S__law_take))
def r_law (S__law_pot : FSpec) (S__law_words : FSpec) (S__law_truth : FSpec) (S_is_sum : FSpec) (S__law_chain : FSpec) (S__law_take : FSpec) : SM := (mSeq (mSet 1 (mCall 1 S__law_pot (mCons (mVar 0) mNil))) (r_law_0 S__law_words S__law_truth S_is_sum S__law_chain S__law_take))
abbrev N_law : List Str := ["_law_script", "_law_pot_here", "_law_words_here", "_law_k", "_law_deep", "_law_turn", "_law_word", "_law_value"]
abbrev spWithin6 : FSpec := spWithin 6
def spIsSum : FSpec := fun args et R => ∃ p : PV, args = [p] ∧ fits 5 p = true ∧ R (.bl (sumIn 5 p)) et
theorem is_sum_ok (args : List PV) (et : Hi) (R : PV → Hi → Prop) (h : spIsSum args et R) : r_is_sum spWithin6 (env0 N_is_sum args) et (retK R) := by
  obtain ⟨p, rfl, hf, hR⟩ := h
  show r_is_sum _ [.val p] et (retK R)
  unfold r_is_sum
  simp!
  exact ⟨p, 5, rfl, by decide, hf, hR⟩
def spTruth : FSpec := fun args et R => ∃ a b : Bool, args = [.bl a, .bl b] ∧ R (.bl (a == b)) et
theorem dep_pos (s : Sm) : 1 ≤ s.dep := by cases s <;> simp [Sm.dep]
def spChain : FSpec := fun args et R => ∃ (n deep : Nat) (ws : List Str), args = [.ref 1, .lst (ws.map .str), .int deep] ∧ 1 ≤ deep ∧ deep ≤ 8 ∧ (∀ x ∈ ws, isWord x = true) ∧ 2 ≤ ws.length ∧ ws.length < 1000 ∧ et = pt (n + 2000) ∧
  ∀ n', n ≤ n' → ∀ s : Sm, s.dep = deep → s.ok ws ws → R s.pv (pt n')
theorem tw_facts (t : Tw) : t.str ≠ Str.ofString "waits" ∧ t.str ≠ Str.ofString "not" ∧ twoB t.str = true := by cases t <;> exact ⟨by decide, by decide, by decide⟩
theorem sumIn_sm {ws bs : List Str} (hw : ∀ x ∈ ws, isWord x = true) (hb : ∀ x ∈ bs, isWord x = true) : ∀ (s : Sm) (n : Nat), s.ok ws bs → sumIn n s.pv = decide (s.dep ≤ n)
  | s, 0, _ => by
    have := dep_pos s
    show false = _
    symm; rw [decide_eq_false_iff_not]; omega
  | .val v, n + 1, h => by
    show (valB (.int v) || wordB (.int v)) = decide (1 ≤ n + 1)
    have h9 : v ≤ 9 := h
    have : valB (.int (v : Int)) = true := by
      simp only [valB, Bool.and_eq_true, decide_eq_true_eq]; omega
    simp [this]
  | .wrd x, n + 1, h => by
    show (valB (.str x) || wordB (.str x)) = decide (1 ≤ n + 1)
    have : wordB (.str x) = true := hw x h
    simp [this]
  | .wts x, n + 1, h => by
    have h1 : isWord x = true := hb x h
    show sumIn (n + 1) (.tup [.str "waits", .str x]) = decide (1 ≤ n + 1)
    simp [sumIn, wordB, h1]
  | .not a, n + 1, h => by
    show sumIn (n + 1) (.tup [.str "not", a.pv]) = decide (a.dep + 1 ≤ n + 1)
    have h1 : ("not" : Str) ≠ ("waits" : Str) := by decide
    simp [sumIn, h1, sumIn_sm hw hb a n h]
  | .two t a b, n + 1, h => by
    show sumIn (n + 1) (.tup [.str t.str, a.pv, b.pv]) = decide (max a.dep b.dep + 1 ≤ n + 1)
    obtain ⟨h1, h2, h3⟩ := tw_facts t
    simp only [sumIn, h1, h2, h3, if_false, if_true, sumIn_sm hw hb a n h.1, sumIn_sm hw hb b n h.2]
    rw [Bool.eq_iff_iff]; simp only [Bool.and_eq_true, decide_eq_true_eq]; omega
theorem word_fit {x : Str} (h : isWord x = true) : fitP (.str x) = true := by
  unfold isWord at h
  simp only [Bool.and_eq_true, decide_eq_true_eq] at h
  have : (8 : Nat) ≤ sizeLine := by decide
  simp only [fitP, decide_eq_true_eq]; omega
theorem fits_sm {ws bs : List Str} (hw : ∀ x ∈ ws, isWord x = true) (hb : ∀ x ∈ bs, isWord x = true) : ∀ (s : Sm) (n : Nat), s.ok ws bs → fits n s.pv = true
  | .val v, 0, h => rfl
  | .val v, n + 1, h => rfl
  | .wrd x, 0, h => word_fit (hw x h)
  | .wrd x, n + 1, h => word_fit (hw x h)
  | .wts x, 0, h => rfl
  | .wts x, n + 1, h => by
    show (decide ((2 : Nat) ≤ sizeLine) && [PV.str "waits", PV.str x].all fun y => fits n y) = true
    have h1 : fits n (.str x) = true := by cases n <;> exact word_fit (hb x h)
    have h2 : fits n (.str "waits") = true := by cases n <;> rfl
    simp [h1, h2]; decide
  | .not a, 0, h => rfl
  | .not a, n + 1, h => by
    show (decide ((2 : Nat) ≤ sizeLine) && [PV.str "not", a.pv].all fun y => fits n y) = true
    have h2 : fits n (.str "not") = true := by cases n <;> rfl
    simp [h2, fits_sm hw hb a n h]; decide
  | .two t a b, 0, h => rfl
  | .two t a b, n + 1, h => by
    show (decide ((3 : Nat) ≤ sizeLine) && [PV.str t.str, a.pv, b.pv].all fun y => fits n y) = true
    have h2 : fits n (.str t.str) = true := by cases n <;> cases t <;> rfl
    simp [h2, fits_sm hw hb a n h.1, fits_sm hw hb b n h.2]; decide
def ltr (n : Nat) : Str := ⟨#[97 + n % 26]⟩
theorem strsP_map (xs : List Str) : strsP (xs.map .str) = some xs := by
  induction xs with
  | nil => rfl
  | cons x xs ih => simp [strsP, ih]
theorem join_nil (xs : List Str) : (Txt.join (Str.ofString "") xs).cps.toList = xs.flatMap fun x => x.cps.toList := by
  show (Builtin.Str.glued (Str.ofString "") xs).cps.toList = _
  rw [StrLaws.glued_eq_join]
  induction xs with
  | nil => rfl
  | cons x xs ih =>
    cases xs with
    | nil => simp [Str.join]
    | cons y ys =>
      have : Str.join (Str.ofString "") (x :: y :: ys) = x ++ Str.ofString "" ++ Str.join (Str.ofString "") (y :: ys) := rfl
      rw [this, cps_append, Array.toList_append, cps_append, Array.toList_append, ih, List.flatMap_cons]
      have e : (Str.ofString "").cps.toList = [] := by decide
      rw [e, List.append_nil]; rfl
def ltrs (js : List Nat) : Str := Txt.join (Str.ofString "") (js.map ltr)
theorem ltrs_cps (js : List Nat) : (ltrs js).cps.toList = js.map fun n => 97 + n % 26 := by
  unfold ltrs
  rw [join_nil, List.flatMap_map]
  induction js with
  | nil => rfl
  | cons j js ih => rw [List.flatMap_cons, ih]; rfl
theorem ltrs_size (js : List Nat) : (ltrs js).cps.size = js.length := by
  rw [← Array.length_toList, ltrs_cps, List.length_map]
theorem ltrs_word (js : List Nat) : isWord (ltrs js) = (decide (0 < js.length) && decide (js.length < 9)) := by
  unfold isWord
  rw [ltrs_size, ltrs_cps]
  have : (js.map fun n => 97 + n % 26).all (fun c => decide (97 ≤ c) && decide (c ≤ 122)) = true := by
    rw [List.all_eq_true]
    intro c hc
    obtain ⟨n, _, rfl⟩ := List.mem_map.mp hc
    simp only [Bool.and_eq_true, decide_eq_true_eq]; omega
  rw [this, Bool.and_true, Bool.eq_iff_iff]
  simp only [Bool.and_eq_true, decide_eq_true_eq]; omega
theorem join_ltrs {js : List Nat} (h : js.length ≤ 1000) : gJoin (.str (Str.ofString "")) [.lst (js.map fun n => .str (ltr n))] = some (.str (ltrs js)) := by
  show ((strsP (js.map fun n => PV.str (ltr n))).bind _) = _
  have e : (js.map fun n => PV.str (ltr n)) = (js.map ltr).map .str := by rw [List.map_map]; rfl
  rw [e, strsP_map, Option.bind_some]
  refine if_pos ?_
  have : ((js.map ltr).map (·.length)).sum = js.length := by
    rw [List.map_map]
    have : ((fun x : Str => x.length) ∘ ltr) = fun _ => 1 := rfl
    rw [this]
    induction js with
    | nil => rfl
    | cons j js ih => rw [List.map_cons, List.sum_cons, ih (by simp at h; omega) (by rw [List.map_map]; rfl), List.length_cons, Nat.add_comm]
  rw [this]
  have : (Str.ofString "").length = 0 := by decide
  rw [this]; omega
theorem truth_true {a b : Bool} {et : Hi} {R : PV → Hi → Prop} (h : a = b) (k : R (.bl true) et) : spTruth [.bl a, .bl b] et R := ⟨a, b, rfl, by subst h; cases a <;> exact k⟩
theorem truth_chain {p q : Prop} [Decidable p] [Decidable q] {a : Bool} {et : Hi} {R : PV → Hi → Prop} (h : a = (decide p && decide q)) (k : R (.bl true) et) : if decide p = true then spTruth [.bl a, .bl (decide q)] et R else spTruth [.bl a, .bl false] et R := by
  split
  · rename_i e; rw [e, Bool.true_and] at h; exact truth_true h k
  · rename_i e; rw [Bool.eq_false_iff.mpr e, Bool.false_and] at h; exact truth_true h k
theorem truth_chain2 {p q r s : Prop} [Decidable p] [Decidable q] [Decidable r] [Decidable s] {a : Bool} {et : Hi} {R : PV → Hi → Prop} (h : a = ((decide p && decide q) && (decide r && decide s))) (k : R (.bl true) et) :
    if decide p = true then (if decide q = true then (if decide r = true then spTruth [.bl a, .bl (decide s)] et R else spTruth [.bl a, .bl false] et R) else spTruth [.bl a, .bl false] et R) else spTruth [.bl a, .bl false] et R := by
  split
  · rename_i e; rw [e, Bool.true_and] at h
    split
    · rename_i e; rw [e, Bool.true_and] at h
      exact truth_chain h k
    · rename_i e; rw [Bool.eq_false_iff.mpr e, Bool.false_and] at h; exact truth_true h k
  · rename_i e; rw [Bool.eq_false_iff.mpr e, Bool.false_and, Bool.false_and] at h; exact truth_true h k
def spLaw : FSpec := fun args et R => ∃ ns : List Int, args = [.scr ns] ∧ ns.length ≤ 63 ∧ et = [] ∧ ∀ et', R (.bl true) et'
theorem law_ok (args : List PV) (et : Hi) (R : PV → Hi → Prop) (h : spLaw args et R) : r_law spPot spWords spTruth spIsSum spChain spTake (env0 N_law args) et (retK R) := by
  obtain ⟨ns, rfl, hl, rfl, hR⟩ := h
  show r_law _ _ _ _ _ _ [.val (.scr ns), .no, .no, .no, .no, .no, .no, .no] _ (retK R)
  unfold r_law
  simp!
  refine ⟨ns, rfl, hl, ?_⟩
  show r_law_0 _ _ _ _ _ [.val (.scr ns), .val (.ref 1), .no, .no, .no, .no, .no, .no] (pt 1099511627776) (retK R)
  unfold r_law_0
  simp!
  refine ⟨1099511627774, 4, rfl, by decide, rfl, fun ws wl hw _ => ?_⟩
  unfold r_law_1
  have hlen : gLen [.scr ns] = some (.int ns.length) := rfl
  have hmin : gMin2 [.int 60, .int ns.length] = some (.int (min 60 ns.length : Nat)) := by
    unfold gMin2
    simp only []
    split <;> (congr 2; omega)
  have hmax : gMax2 [.int 16, .int (min 60 ns.length : Nat)] = some (.int (max 16 (min 60 ns.length) : Nat)) := by
    unfold gMax2
    simp only []
    split <;> (congr 2; omega)
  simp! [hlen, hmin, hmax]
  refine ⟨(max 16 (min 60 ns.length) : Nat), rfl, by omega, by omega, fun i ep et1 => ∃ (n1 : Nat) (s3 s4 s5 s6 s7 : Slot), ep = [.val (.scr ns), .val (.ref 1), .val (.lst (ws.map .str)), s3, s4, s5, s6, s7] ∧ et1 = pt n1 ∧ 3000 * (60 - i) ≤ n1,
    ⟨1099511627774, _, _, _, _, _, rfl, rfl, by omega⟩, ?_⟩
  rintro i ep et1 ⟨n1, s3, s4, s5, s6, s7, rfl, rfl, hn1⟩
  have hlenR : (rng 0 (max 16 (min 60 ns.length) : Nat)).length = max 16 (min 60 ns.length) := by simp [rng]
  refine ⟨rfl, fun p hp => ⟨_, rfl, ?_⟩, fun e => ?_⟩
  · have hi : i < max 16 (min 60 ns.length) := by
      have := (List.getElem?_eq_some_iff.mp hp).1
      simpa [rng] using this
    have hpe : p = .int (i : Int) := by
      simp only [Int.toNat_natCast] at hp
      unfold rng at hp
      rw [List.getElem?_map, List.getElem?_range (by omega)] at hp
      cases hp; simp
    subst hpe
    unfold r_law_2
    simp! [Int.reduceLT]
    have hdeep : (1 + (i : Int) % 8) = ((1 + i % 8 : Nat) : Int) := by omega
    rw [hdeep]
    generalize hD : 1 + i % 8 = deep
    unfold r_law_3
    simp!
    obtain ⟨n2, rfl⟩ : ∃ n2, n1 = n2 + 2000 := ⟨n1 - 2000, by omega⟩
    refine ⟨n2, deep, ws, rfl, by omega, by omega, hw, by omega, by omega, rfl, fun n3 hn3 s hs ho => ?_⟩
    refine ⟨s.pv, rfl, fits_sm hw hw s 5 ho, ?_⟩
    simp!
    refine ⟨_, _, rfl, ?_⟩
    have hb : (sumIn 5 s.pv == decide ((deep : Int) < 6)) = true := by
      rw [sumIn_sm hw hw s 5 ho, hs, beq_iff_eq, Bool.eq_iff_iff, decide_eq_true_eq, decide_eq_true_eq]; omega
    rw [hb]
    simp!
    unfold r_law_5
    simp! [Int.reduceLT]
    refine ⟨by decide, ((i % 11 : Nat) : Int), by simp, by omega, by omega, fun j acc et1 => ∃ (n4 : Nat) (js : List Nat), et1 = pt n4 ∧ acc = js.map (fun n => .str (ltr n)) ∧ js.length = j ∧ j ≤ i % 11 ∧ n3 ≤ n4 + j, ⟨n3, [], rfl, rfl, rfl, by omega, by omega⟩, ?_⟩
    have hlenR2 : (rng 0 ((i % 11 : Nat) : Int).toNat).length = i % 11 := by rw [Int.toNat_natCast]; simp [rng]
    rintro j acc et1 ⟨n4, js, rfl, rfl, hjs, hj, hn4⟩
    refine ⟨rfl, fun q hq => ⟨_, rfl, ?_⟩, fun e => ?_⟩
    · simp!
      have hj' : js.length < i % 11 := by
        have := (List.getElem?_eq_some_iff.mp hq).1
        rw [hlenR2] at this; omega
      obtain ⟨n5, rfl⟩ : ∃ n5, n4 = n5 + 1 := ⟨n4 - 1, by omega⟩
      refine take_pt (n := n5) (by decide) (by decide) fun d d0 d1 => ?_
      obtain ⟨d, rfl⟩ : ∃ d' : Nat, d = (d' : Int) := ⟨d.toNat, by omega⟩
      have hx : gIx (.str letters) (.int (d : Int)) = some (.str (ltr d)) := by
        have l1 : letters.length ≤ sizeLine := by decide +kernel
        have e1 : atI letters.cps.toList (d : Int) = some (97 + d % 26) := by
          refine atI_nat ?_
          rw [letters_list, List.getElem?_map, List.getElem?_range (by omega)]
          simp [Nat.add_comm]; omega
        show (if letters.length ≤ sizeLine then (atI letters.cps.toList (d : Int)).map _ else none) = _
        rw [if_pos l1, e1]; rfl
      refine ⟨_, hx, ?_, n5, js ++ [d], rfl, by simp, by simp; omega, by omega, by omega⟩
      have : (1000 : Nat) ≤ sizeLine := by decide
      simp; omega
    · simp!
      have hje : js.length = i % 11 := by rw [hlenR2] at e; omega
      refine ⟨_, join_ltrs (by omega), ?_⟩
      have hwd := ltrs_word js
      have hsz := ltrs_size js
      generalize ltrs js = x at hwd hsz
      unfold r_law_6
      simp!
      obtain ⟨n5, rfl⟩ : ∃ n5, n4 = n5 + 1 := ⟨n4 - 1, by omega⟩
      refine take_pt (n := n5) (by decide) (by decide) fun d d0 d1 => ?_
      simp!
      have s1000 : (1000 : Nat) ≤ sizeLine := by decide
      have hl1 : gLen [.str x] = some (.int x.cps.size) := by show (if x.length ≤ sizeLine then some (PV.int x.length) else none) = _; rw [if_pos (show x.length ≤ sizeLine from show x.cps.size ≤ sizeLine by omega)]; rfl
      have fx : fitP (.str x) = true := by simp only [fitP, decide_eq_true_eq]; omega
      generalize hv : d - 3 = v
      -- what the code says, and what is so
      have w1 : sumIn 5 (.str x) = isWord x := rfl
      have v1 : sumIn 5 (.int v) = (decide (0 ≤ v) && decide (v ≤ 9)) := by
        show ((decide (0 ≤ v) && decide (v ≤ 9)) || false) = _
        rw [Bool.or_false]
      have b1 : sumIn 5 (.tup [.str "both", .tup [.str "waits", .str x], .int v]) = (isWord x && (decide (0 ≤ v) && decide (v ≤ 9))) := by
        show (sumIn 4 (.tup [.str "waits", .str x]) && ((decide (0 ≤ v) && decide (v ≤ 9)) || false)) = _
        rw [Bool.or_false]
        rfl
      unfold r_law_7
      simp!
      refine ⟨_, rfl, by simp only [fits]; exact fx, ?_⟩
      simp! [hl1, w1]
      refine truth_chain (by rw [hwd, hsz, Bool.eq_iff_iff]; simp; omega) ?_
      simp!
      refine ⟨_, rfl, rfl, ?_⟩
      simp! [v1]
      refine truth_chain (by rw [Bool.eq_iff_iff]; simp; omega) ?_
      simp!
      unfold r_law_9
      simp! [hl1]
      refine ⟨by decide, by decide, _, rfl, ?_, ?_⟩
      · have f3 : fits 3 (.str x) = true := fx
        have f4 : (decide ((2 : Nat) ≤ sizeLine) && [PV.str "waits", PV.str x].all fun y => fits 3 y) = true := by
          simp [f3]; exact ⟨by decide, rfl⟩
        show (decide ((3 : Nat) ≤ sizeLine) && [PV.str "both", PV.tup [PV.str "waits", PV.str x], PV.int v].all fun y => fits 4 y) = true
        have f5 : fits 4 (PV.tup [PV.str "waits", PV.str x]) = true := f4
        simp [f5]; exact ⟨by decide, rfl, rfl⟩
      rw [b1]
      refine truth_chain2 (by rw [hwd, hsz, Bool.eq_iff_iff]; simp; omega) ?_
      simp!
      exact ⟨n5, _, _, _, _, _, rfl, rfl, by omega⟩
  · unfold r_law_11
    simp!
    exact hR _
end Sq
namespace Q01
open PySem L2 Mw Lw Sq
def r__law_is_word_0 : SM := (mRet (mC (.bl false)))
def r__law_is_word_1 : SM := (mRet (mBin gEq (mMeth .str gStripChars (mPeek 0) (mCons (mC (.str "abcdefghijklmnopqrstuvwxyz")) mNil)) (mC (.str ""))))
def r__law_is_word : SM := (mSeq (mIf (mOrT (mNotT (mAsT (mArg gIsi (mCons (mPeek 0) (mCons (mC (.ty .str)) mNil))))) (mOrT (mBinT gEq (mArg gLen (mCons (mPeek 0) mNil)) (mC (.int 0))) (mBinT gGt (mArg gLen (mCons (mPeek 0) mNil)) (mC (.int 8))))) (r__law_is_word_0) mNext) (r__law_is_word_1))
abbrev N__law_is_word : List Str := ["_law_thing"]
def r__law_is_whole : SM := (mRet (mAndE (mArg gIsi (mCons (mPeek 0) (mCons (mC (.ty .int)) mNil))) (mAndE (mNotE (mArg gIsi (mCons (mPeek 0) (mCons (mC (.ty .bool)) mNil)))) (mChain gLe gLe (mPeek 1) (mPeek 0) (mPeek 2)))))
abbrev N__law_is_whole : List Str := ["_law_thing", "_law_least", "_law_most"]
def r__law_is_sum_0 : SM := (mRet (mC (.bl false)))
def r__law_is_sum_2 (S__law_is_word : FSpec) (S__law_is_whole : FSpec) : SM := (mRet (mOrE (mCall 3 S__law_is_whole (mCons (mVar 0) (mCons (mC (.int 0)) (mCons (mC (.int 9)) mNil)))) (mCall 1 S__law_is_word (mCons (mVar 0) mNil))))
def r__law_is_sum_4 : SM := (mRet (mC (.bl false)))
def r__law_is_sum_6 (S__law_is_word : FSpec) : SM := (mRet (mAndE (mBin gEqX (mArg gLen (mCons (mPeek 0) mNil)) (mC (.int 2))) (mCall 1 S__law_is_word (mCons (mBin gIx (mPeek 0) (mC (.int 1))) mNil))))
def r__law_is_sum_8 (S__law_is_sum : FSpec) : SM := (mRet (mAndE (mBin gEqX (mArg gLen (mCons (mPeek 0) mNil)) (mBin gAdd (mC (.int 1)) (mPeek 2))) (mArg gAll (mCons (mLc (mIter (mSl gSlA (mPeek 0) (mO1 (mC (.int 1))) mO0)) [3] (tgN 3) mYes (mCall 2 S__law_is_sum (mCons (mVar 3) (mCons (mBin gSubI (mPeek 1) (mC (.int 1))) mNil)))) mNil))))
def r__law_is_sum_7 (S__law_is_sum : FSpec) : SM := (mSeq (mSet 2 (mDGet2 (mDisp (mDcons (mC (.str "not")) (mC (.int 1)) (mDcons (mC (.str "plus")) (mC (.int 2)) (mDcons (mC (.str "minus")) (mC (.int 2)) (mDcons (mC (.str "less")) (mC (.int 2)) (mDcons (mC (.str "same")) (mC (.int 2)) (mDcons (mC (.str "both")) (mC (.int 2)) mDnil))))))) (mBin gIx (mPeek 0) (mC (.int 0))) (mUn gNeg (mC (.int 1))))) (r__law_is_sum_8 S__law_is_sum))
def r__law_is_sum_5 (S__law_is_word : FSpec) (S__law_is_sum : FSpec) : SM := (mSeq (mIf (mBinT gEqX (mBin gIx (mPeek 0) (mC (.int 0))) (mC (.str "waits"))) (r__law_is_sum_6 S__law_is_word) mNext) (r__law_is_sum_7 S__law_is_sum))
def r__law_is_sum_3 (S__law_is_word : FSpec) (S__law_is_sum : FSpec) : SM := (mSeq (mIf (mOrT (mBinT gEqX (mPeek 0) (mTup mNil)) (mNotT (mAsT (mArg gIsi (mCons (mBin gIx (mPeek 0) (mC (.int 0))) (mCons (mC (.ty .str)) mNil)))))) (r__law_is_sum_4) mNext) (r__law_is_sum_5 S__law_is_word S__law_is_sum))
def r__law_is_sum_1 (S__law_is_word : FSpec) (S__law_is_whole : FSpec) (S__law_is_sum : FSpec) : SM := (mSeq (mIf (mNotT (mAsT (mArg gIsi (mCons (mPeek 0) (mCons (mC (.ty .tup)) mNil))))) (r__law_is_sum_2 S__law_is_word S__law_is_whole) mNext) (r__law_is_sum_3 S__law_is_word S__law_is_sum))
def r__law_is_sum (S__law_is_word : FSpec) (S__law_is_whole : FSpec) (S__law_is_sum : FSpec) : SM := (mSeq (mIf (mBinT gLt (mPeek 1) (mC (.int 1))) (r__law_is_sum_0) mNext) (r__law_is_sum_1 S__law_is_word S__law_is_whole S__law_is_sum))
abbrev N__law_is_sum : List Str := ["_law_thing", "_law_deep", "_law_many", "_law_part"]
def r__law_odd_3 (S__law_of : FSpec) : SM := (mRet (mCall 2 S__law_of (mCons (mVar 0) (mCons (mVar 1) mNil))))
def r__law_odd_2 (S__law_of : FSpec) : SM := (mSeq (mSet 1 (mBin gCat (mPeek 1) (mLst (mCons (mC (.str "plus")) (mCons (mC (.str "given")) mNil))))) (r__law_odd_3 S__law_of))
def r__law_odd_1 (S__law_of : FSpec) : SM := (mSeq (mSet 1 (mBin gCat (mPeek 1) (mLst (mCons (mTup (mCons (mC (.str "waits")) mNil)) (mCons (mTup (mCons (mC (.str "sum")) (mCons (mC (.int 1)) (mCons (mC (.int 2)) mNil)))) (mCons (mTup (mCons (mTup mNil) (mCons (mC (.int 1)) mNil))) (mCons (mTup (mCons (mC (.int 1)) mNil)) (mCons (mTup (mCons (mC (.int 1)) (mCons (mC (.int 2)) (mCons (mC (.int 3)) mNil)))) (mCons (mTup (mCons (mC (.str "not")) (mCons (mC (.int 1)) (mCons (mC (.int 2)) mNil)))) (mCons (mTup (mCons (mC (.str "less")) (mCons (mC (.int 1)) (mCons (mC .non) mNil)))) mNil)))))))))) (r__law_odd_2 S__law_of))
def r__law_odd_0 (S__law_of : FSpec) : SM := (mSeq (mSet 1 (mBin gCat (mPeek 1) (mLst (mCons (mTup (mCons (mC (.str "plus")) (mCons (mC (.int 1)) (mCons (mC (.int 2)) (mCons (mC (.int 3)) mNil))))) (mCons (mLst (mCons (mC (.str "plus")) (mCons (mC (.int 1)) (mCons (mC (.int 2)) mNil)))) (mCons (mTup (mCons (mC (.str "waits")) (mCons (mC (.int 3)) mNil))) (mCons (mTup (mCons (mC (.str "waits")) (mCons (mC (.str "a")) (mCons (mC (.str "b")) mNil)))) (mCons (mTup (mCons (mC (.str "waits")) (mCons (mC (.str "Bell")) mNil))) mNil)))))))) (r__law_odd_1 S__law_of))
def r__law_odd (S__law_of : FSpec) : SM := (mSeq (mSet 1 (mLst (mCons (mC (.int 10)) (mCons (mUn gNeg (mC (.int 1))) (mCons (mC (.bl true)) (mCons (mC (.bl false)) (mCons (mC .non) (mCons (mC (.str "")) (mCons (mC (.str "abcdefghi")) (mCons (mC (.str "aB")) (mCons (mC (.str "a b")) (mCons (mBin gPow (mC (.int 10)) (mC (.int 30))) (mCons (mTup mNil) (mCons (mLst mNil) (mCons mDic0 (mCons (mTup (mCons (mC (.str "plus")) (mCons (mC (.int 1)) mNil))) (mCons (mTup (mCons (mC (.str "not")) mNil)) mNil))))))))))))))))) (r__law_odd_0 S__law_of))
abbrev N__law_odd : List Str := ["_law_pot_here", "_law_some"]
def r__law_bent_1 (S__law_bent : FSpec) : SM := (mRet (mBin gAdd (mBin gAdd (mSl gSlA (mPeek 1) mO0 (mO1 (mVar 2))) (mTup (mCons (mCall 2 S__law_bent (mCons (mVar 0) (mCons (mBin gIx (mPeek 1) (mPeek 2)) mNil))) mNil))) (mSl gSlA (mPeek 1) (mO1 (mBin gAdd (mPeek 2) (mC (.int 1)))) mO0)))
def r__law_bent_0 (S__law_take : FSpec) (S__law_bent : FSpec) : SM := (mSeq (mSet 2 (mBin gAdd (mC (.int 1)) (mCall 2 S__law_take (mCons (mVar 0) (mCons (mBin gSubI (mArg gLen (mCons (mPeek 1) mNil)) (mC (.int 1))) mNil))))) (r__law_bent_1 S__law_bent))
def r__law_bent_5 : SM := (mRet (mBin gIx (mLst (mCons (mArg gList (mCons (mPeek 1) mNil)) (mCons (mSl gSlA (mPeek 1) mO0 (mO1 (mUn gNeg (mC (.int 1))))) (mCons (mBin gAdd (mPeek 1) (mSl gSlA (mPeek 1) (mO1 (mUn gNeg (mC (.int 1)))) mO0)) (mCons (mBin gAdd (mTup (mCons (mVar 4) mNil)) (mSl gSlA (mPeek 1) (mO1 (mC (.int 1))) mO0)) mNil))))) (mPeek 3)))
def r__law_bent_4 (S__law_of : FSpec) : SM := (mSeq (mSet 4 (mCall 2 S__law_of (mCons (mVar 0) (mCons (mLst (mCons (mC (.str "not")) (mCons (mC (.str "plus")) (mCons (mC (.str "Plus")) (mCons (mC (.str "")) mNil))))) mNil)))) (r__law_bent_5))
def r__law_bent_7 : SM := (mRet (mTup (mCons (mC (.str "not")) (mCons (mTup (mCons (mC (.str "both")) (mCons (mC (.int 1)) (mCons (mVar 1) mNil)))) mNil))))
def r__law_bent_8 (S__law_odd : FSpec) : SM := (mRet (mCall 1 S__law_odd (mCons (mVar 0) mNil)))
def r__law_bent_6 (S__law_odd : FSpec) : SM := (mSeq (mIf (mBinT gEq (mPeek 3) (mC (.int 4))) (r__law_bent_7) mNext) (r__law_bent_8 S__law_odd))
def r__law_bent_3 (S__law_of : FSpec) (S__law_odd : FSpec) : SM := (mSeq (mIf (mAndT (mAsT (mArg gIsi (mCons (mPeek 1) (mCons (mC (.ty .tup)) mNil)))) (mBinT gLt (mPeek 3) (mC (.int 4)))) (r__law_bent_4 S__law_of) mNext) (r__law_bent_6 S__law_odd))
def r__law_bent_2 (S__law_take : FSpec) (S__law_of : FSpec) (S__law_odd : FSpec) : SM := (mSeq (mSet 3 (mCall 2 S__law_take (mCons (mVar 0) (mCons (mC (.int 6)) mNil)))) (r__law_bent_3 S__law_of S__law_odd))
def r__law_bent (S__law_take : FSpec) (S__law_bent : FSpec) (S__law_of : FSpec) (S__law_odd : FSpec) : SM := (mSeq (mIf (mAndT (mAsT (mArg gIsi (mCons (mPeek 1) (mCons (mC (.ty .tup)) mNil)))) (mAndT (mBinT gGt (mArg gLen (mCons (mPeek 1) mNil)) (mC (.int 1))) (mBinT gGt (mCall 2 S__law_take (mCons (mVar 0) (mCons (mC (.int 5)) mNil))) (mC (.int 0))))) (r__law_bent_0 S__law_take S__law_bent) mNext) (r__law_bent_2 S__law_take S__law_of S__law_odd))
abbrev N__law_bent : List Str := ["_law_pot_here", "_law_thing", "_law_at", "_law_way", "_law_word"]
def r__law_right_1 (S__law_is_sum : FSpec) : SM := (mRet (mAndE (mArg gIsi (mCons (mPeek 2) (mCons (mC (.ty .bool)) mNil))) (mAndE (mBin gEq (mPeek 2) (mCall 2 S__law_is_sum (mCons (mVar 0) (mCons (mC (.int 5)) mNil)))) (mBin gEq (mArg gReprX (mCons (mPeek 0) mNil)) (mPeek 1)))))
def r__law_right_0 (S_is_sum : FSpec) (S__law_is_sum : FSpec) : SM := (mSeq (mSet 2 (mCall 1 S_is_sum (mCons (mVar 0) mNil))) (r__law_right_1 S__law_is_sum))
def r__law_right (S_is_sum : FSpec) (S__law_is_sum : FSpec) : SM := (mSeq (mSet 1 (mArg gReprX (mCons (mPeek 0) mNil))) (r__law_right_0 S_is_sum S__law_is_sum))
abbrev N__law_right : List Str := ["_law_thing", "_law_kept", "_law_found"]
def r_law_4 : SM := (mRet (mC (.bl false)))
def r_law_8 : SM := (mRet (mC (.bl false)))
def r_law_7 (S__law_right : FSpec) : SM := (mIf (mOrT (mNotT (mAsT (mCall 1 S__law_right (mCons (mVar 4) mNil)))) (mNotT (mAsT (mCall 1 S__law_right (mCons (mTup (mCons (mC (.str "less")) (mCons (mVar 4) (mCons (mC (.int 1)) mNil)))) mNil))))) (r_law_8) mNext)
def r_law_6 (S__law_right : FSpec) (S__law_bent : FSpec) : SM := (mSeq (mSet 4 (mCall 2 S__law_bent (mCons (mVar 1) (mCons (mVar 4) mNil)))) (r_law_7 S__law_right))
def r_law_5 (S__law_take : FSpec) (S__law_right : FSpec) (S__law_bent : FSpec) : SM := (mFor (mRng1 (mCons (mBin gAdd (mC (.int 1)) (mCall 2 S__law_take (mCons (mVar 1) (mCons (mC (.int 3)) mNil)))) mNil)) (tgN 5) (r_law_6 S__law_right S__law_bent))
def r_law_3 (S__law_take : FSpec) (S__law_right : FSpec) (S_is_sum : FSpec) (S__law_bent : FSpec) : SM := (mSeq (mIf (mOrT (mBinT gIsNot (mCall 1 S_is_sum (mCons (mVar 4) mNil)) (mC (.bl true))) (mNotT (mAsT (mCall 1 S__law_right (mCons (mVar 4) mNil))))) (r_law_4) mNext) (r_law_5 S__law_take S__law_right S__law_bent))
def r_law_2 (S__law_sum : FSpec) (S__law_take : FSpec) (S__law_right : FSpec) (S_is_sum : FSpec) (S__law_bent : FSpec) : SM := (mSeq (mSet 4 (mCall 4 S__law_sum (mCons (mVar 1) (mCons (mVar 2) (mCons (mSl gSlA (mPeek 2) (mO1 (mC (.int 3))) mO0) (mCons (mBin gAdd (mC (.int 1)) (mCall 2 S__law_take (mCons (mVar 1) (mCons (mC (.int 5)) mNil)))) mNil)))))) (r_law_3 S__law_take S__law_right S_is_sum S__law_bent))
def r_law_10 (S__law_right : FSpec) : SM := (mRet (mArg gAll (mCons (mLc (mIter (mVar 6)) [4] (tgN 4) mYes (mCall 1 S__law_right (mCons (mVar 4) mNil))) mNil)))
def r_law_9 (S__law_right : FSpec) : SM := (mSeq (mSet 6 (mLst (mCons (mC .non) (mCons (mC (.bl true)) (mCons (mC (.int 0)) (mCons (mC (.int 9)) (mCons (mC (.int 10)) (mCons (mUn gNeg (mC (.int 1))) (mCons (mC (.str "")) (mCons (mC (.str "word")) (mCons (mC (.str "Word")) (mCons (mTup mNil) (mCons (mLst mNil) (mCons mDic0 (mCons (mTup (mCons (mC (.str "waits")) (mCons (mC (.str "bell")) mNil))) (mCons (mTup (mCons (mC (.str "not")) (mCons (mTup (mCons (mC (.str "waits")) (mCons (mC (.str "bell")) mNil))) mNil))) mNil)))))))))))))))) (r_law_10 S__law_right))
def r_law_1 (S__law_sum : FSpec) (S__law_take : FSpec) (S__law_right : FSpec) (S_is_sum : FSpec) (S__law_bent : FSpec) : SM := (mSeq (mFor (mRng1 (mCons (mArg gMax2 (mCons (mC (.int 20)) (mCons (mArg gMin2 (mCons (mC (.int 60)) (mCons (mArg gLen (mCons (mPeek 0) mNil)) mNil))) mNil))) mNil)) (tgN 3) (r_law_2 S__law_sum S__law_take S__law_right S_is_sum S__law_bent)) (r_law_9 S__law_right))
def r_law_0 (S__law_words : FSpec) (S__law_sum : FSpec) (S__law_take : FSpec) (S__law_right : FSpec) (S_is_sum : FSpec) (S__law_bent : FSpec) : SM := (mSeq (mSet 2 (mCall 2 S__law_words (mCons (mVar 1) (mCons (mC (.int 6)) mNil)))) (r_law_1 S__law_sum S__law_take S__law_right S_is_sum S__law_bent))
def r_law (S__law_pot : FSpec) (S__law_words : FSpec) (S__law_sum : FSpec) (S__law_take : FSpec) (S__law_right : FSpec) (S_is_sum : FSpec) (S__law_bent : FSpec) : SM := (mSeq (mSet 1 (mCall 1 S__law_pot (mCons (mVar 0) mNil))) (r_law_0 S__law_words S__law_sum S__law_take S__law_right S_is_sum S__law_bent))
abbrev N_law : List Str := ["_law_script", "_law_pot_here", "_law_words_here", "_law_k", "_law_thing", "_law_turn", "_law_odd_here"]
mutual
def tg : PV → Bool
  | .non => true
  | .bl _ => true
  | .int i => (decide (0 ≤ i) && decide (i ≤ 99)) || (decide (i = -1) || decide (i = 10 ^ 30))
  | .str x => x.cps.toList.all fun c => decide (c < 128)
  | .tup xs => tgs xs
  | .lst xs => tgs xs
  | .dic [] => true
  | _ => false
def tgs : List PV → Bool
  | [] => true
  | x :: xs => tg x && tgs xs
end
mutual
def kx : PV → Nat
  | .str x => x.cps.size
  | .tup xs => kxs xs
  | .lst xs => kxs xs
  | _ => 0
def kxs : List PV → Nat
  | [] => 0
  | x :: xs => kx x + 1 + kxs xs
end
mutual
def dx : PV → Nat
  | .tup xs => dxs xs + 1
  | .lst xs => dxs xs + 1
  | .dic _ => 1
  | _ => 0
def dxs : List PV → Nat
  | [] => 0
  | x :: xs => max (dx x) (dxs xs)
end
theorem int_short : ∀ n, n < 100 → (PyData.shown (.int (n : Nat))).length ≤ 40 ∧ (n : Int).natAbs.log2 < 1920 := by decide +kernel
theorem int_m1 : (PyData.shown (.int (-1))).length ≤ 40 ∧ (-1 : Int).natAbs.log2 < 1920 := by decide +kernel
theorem int_big : (PyData.shown (.int (10 ^ 30))).length ≤ 40 ∧ ((10 : Int) ^ 30).natAbs.log2 < 1920 := by decide +kernel
theorem int_tg {i : Int} (h : tg (.int i) = true) : (PyData.shown (.int i)).length ≤ 40 ∧ i.natAbs.log2 < 1920 := by
  simp only [tg, Bool.or_eq_true, Bool.and_eq_true, decide_eq_true_eq] at h
  rcases h with h | rfl | rfl
  · obtain ⟨n, rfl⟩ := Int.eq_ofNat_of_zero_le h.1
    exact int_short n (by omega)
  · exact int_m1
  · exact int_big
mutual
theorem tg_dat : ∀ (p : PV), tg p = true → ∃ d, datX p = some d ∧ d.showable = true ∧ d.leavesShort 40 = true ∧ d.bulk = kx p ∧ d.depth = dx p
  | .non, h => ⟨_, rfl, rfl, rfl, rfl, rfl⟩
  | .bl b, h => ⟨_, rfl, rfl, rfl, rfl, rfl⟩
  | .int i, h => by
    have hi := int_tg h
    exact ⟨_, rfl, by simpa [PyData.showable] using hi.2, by simpa [PyData.leavesShort] using hi.1, rfl, rfl⟩
  | .str x, h => by
    simp only [tg, List.all_eq_true, decide_eq_true_eq] at h
    exact ⟨_, rfl, rfl, by simp only [PyData.leavesShort, List.all_eq_true, decide_eq_true_eq]; exact fun c hc => Nat.lt_trans (h c hc) (by decide), rfl, rfl⟩
  | .tup xs, h => by
    obtain ⟨ds, h1, h2, h3, h4, h5⟩ := tgs_dat xs (by simpa [tg] using h)
    exact ⟨.tuple ds, by simp [datX, h1], by simpa [PyData.showable] using h2, by simpa [PyData.leavesShort] using h3, by simpa [PyData.bulk, kx] using h4, by simp [PyData.depth, dx, h5]⟩
  | .lst xs, h => by
    obtain ⟨ds, h1, h2, h3, h4, h5⟩ := tgs_dat xs (by simpa [tg] using h)
    exact ⟨.list ds, by simp [datX, h1], by simpa [PyData.showable] using h2, by simpa [PyData.leavesShort] using h3, by simpa [PyData.bulk, kx] using h4, by simp [PyData.depth, dx, h5]⟩
  | .dic [], h => ⟨.dict [], rfl, rfl, rfl, rfl, rfl⟩
  | .dic (_ :: _), h => by simp [tg] at h
  | .scr _, h => by simp [tg] at h
  | .ref _, h => by simp [tg] at h
  | .glo _, h => by simp [tg] at h
  | .ty _, h => by simp [tg] at h
  | .dik _, h => by simp [tg] at h
theorem tgs_dat : ∀ (ps : List PV), tgs ps = true → ∃ ds, datsX ps = some ds ∧ PyData.showableAll ds = true ∧ PyData.leavesShortAll 40 ds = true ∧ PyData.bulkAll ds = kxs ps ∧ PyData.depthAll ds = dxs ps
  | [], h => ⟨[], rfl, rfl, rfl, rfl, rfl⟩
  | p :: ps, h => by
    simp only [tgs, Bool.and_eq_true] at h
    obtain ⟨d, a1, a2, a3, a4, a5⟩ := tg_dat p h.1
    obtain ⟨ds, b1, b2, b3, b4, b5⟩ := tgs_dat ps h.2
    exact ⟨d :: ds, by simp [datsX, a1, b1], by simp [PyData.showableAll, a2, b2], by simp [PyData.leavesShortAll, a3, b3], by simp [PyData.bulkAll, kxs, a4, b4], by simp [PyData.depthAll, dxs, a5, b5]⟩
end
structure Th (b k : Nat) (p : PV) : Prop where
  g : tg p = true
  b : kx p ≤ b
  d : dx p ≤ k
theorem Th.shw {b k : Nat} {p : PV} (h : Th b k p) (hb : b ≤ 300000) (hk : k ≤ 60) : ∃ t, gReprX [p] = some (.str t) := by
  obtain ⟨d, h1, h2, h3, h4, h5⟩ := tg_dat _ h.g
  have e := PyData.shown_le_bulk 40 (by decide) d h3
  have hb2 := h.b
  have hd := h.d
  refine ⟨d.shown, ?_⟩
  show (shwX p).map PV.str = _
  unfold shwX
  rw [h1]
  show Option.map PV.str (if _ then _ else _) = _
  rw [if_pos]
  · rfl
  · refine ⟨h2, ?_, by omega⟩
    rw [sizeLine_eq]
    omega
theorem len_kxs : ∀ xs : List PV, xs.length ≤ kxs xs
  | [] => Nat.le_refl _
  | x :: xs => by have := len_kxs xs; simp only [kxs, List.length_cons]; omega
theorem mem_tgs : ∀ {xs : List PV} {x : PV}, tgs xs = true → x ∈ xs → tg x = true ∧ kx x ≤ kxs xs ∧ dx x ≤ dxs xs
  | y :: ys, x, h, hm => by
    simp only [tgs, Bool.and_eq_true] at h
    rcases List.mem_cons.mp hm with rfl | hm
    · exact ⟨h.1, by simp only [kxs]; omega, by simp only [dxs]; omega⟩
    · obtain ⟨a, b, c⟩ := mem_tgs h.2 hm
      exact ⟨a, by simp only [kxs]; omega, by simp only [dxs]; omega⟩
theorem tg_fitP {p : PV} (h : tg p = true) (hk : kx p ≤ 300000) : fitP p = true := by
  cases p with
  | str x => simp only [fitP, decide_eq_true_eq, kx] at *; rw [sizeLine_eq]; omega
  | dic ks => rfl
  | _ => first | rfl | (simp [tg] at h)
theorem tg_fits : ∀ (n : Nat) (p : PV), tg p = true → kx p ≤ 300000 → fits n p = true
  | 0, p, h, hk => tg_fitP h hk
  | n + 1, .tup xs, h, hk => by
    have h2 : tgs xs = true := by simpa [tg] using h
    have hk2 : kxs xs ≤ 300000 := hk
    have hl := len_kxs xs
    simp only [fits, Bool.and_eq_true, decide_eq_true_eq, List.all_eq_true]
    refine ⟨by rw [sizeLine_eq]; omega, fun x hx => ?_⟩
    obtain ⟨a, b, c⟩ := mem_tgs h2 hx
    exact tg_fits n x a (by omega)
  | n + 1, .non, h, hk => rfl
  | n + 1, .bl _, h, hk => rfl
  | n + 1, .int _, h, hk => rfl
  | n + 1, .str x, h, hk => tg_fitP h hk
  | n + 1, .lst _, h, hk => rfl
  | n + 1, .dic _, h, hk => rfl
  | n + 1, .scr _, h, hk => by simp [tg] at h
  | n + 1, .ref _, h, hk => by simp [tg] at h
  | n + 1, .glo _, h, hk => by simp [tg] at h
  | n + 1, .ty _, h, hk => by simp [tg] at h
  | n + 1, .dik _, h, hk => by simp [tg] at h
theorem tgs_app : ∀ {xs ys : List PV}, tgs xs = true → tgs ys = true → tgs (xs ++ ys) = true ∧ kxs (xs ++ ys) = kxs xs + kxs ys ∧ dxs (xs ++ ys) = max (dxs xs) (dxs ys)
  | [], ys, _, h => ⟨h, by simp [kxs], by simp [dxs]⟩
  | x :: xs, ys, h, g => by
    simp only [tgs, Bool.and_eq_true] at h
    obtain ⟨a, b, c⟩ := tgs_app h.2 g
    refine ⟨by simp [tgs, h.1, a], by simp only [List.cons_append, kxs, b]; omega, by simp only [List.cons_append, dxs, c]; omega⟩
theorem tgs_of_app : ∀ {xs ys : List PV}, tgs (xs ++ ys) = true → tgs xs = true ∧ tgs ys = true ∧ kxs (xs ++ ys) = kxs xs + kxs ys ∧ dxs (xs ++ ys) = max (dxs xs) (dxs ys)
  | [], ys, h => ⟨rfl, h, by simp [kxs], by simp [dxs]⟩
  | x :: xs, ys, h => by
    simp only [List.cons_append, tgs, Bool.and_eq_true] at h
    obtain ⟨a, b, c, d⟩ := tgs_of_app h.2
    refine ⟨by simp [tgs, h.1, a], b, by simp only [List.cons_append, kxs, c]; omega, by simp only [List.cons_append, dxs, d]; omega⟩
theorem tw_all {p : Nat → Bool} {l : List Nat} (h : l.all p = true) : (l.takeWhile p).length = l.length := by
  induction l with
  | nil => rfl
  | cons a l ih =>
    simp only [List.all_cons, Bool.and_eq_true] at h
    rw [List.takeWhile_cons, if_pos h.1, List.length_cons, List.length_cons, ih h.2]
theorem drop_tw {p : Nat → Bool} : ∀ (l : List Nat), l.all p = false → ∃ a r, l.drop (l.takeWhile p).length = a :: r ∧ p a = false
  | [], h => by simp at h
  | a :: l, h => by
    cases e : p a with
    | true =>
      simp only [List.all_cons, e, Bool.true_and] at h
      obtain ⟨b, r, h1, h2⟩ := drop_tw l h
      exact ⟨b, r, by rw [List.takeWhile_cons, if_pos e, List.length_cons, List.drop_succ_cons]; exact h1, h2⟩
    | false => exact ⟨a, l, by rw [List.takeWhile_cons, if_neg (by simp [e])]; rfl, e⟩
theorem tw_last {p : Nat → Bool} (a : Nat) (ha : p a = false) : ∀ l : List Nat, ((l ++ [a]).takeWhile p).length ≤ l.length
  | [] => by simp [List.takeWhile_cons, ha]
  | b :: l => by
    rw [List.cons_append, List.takeWhile_cons]
    split
    · rw [List.length_cons, List.length_cons]
      exact Nat.succ_le_succ (tw_last a ha l)
    · simp
theorem strip_empty (x y : Str) : decide (Txt.stripChars x y = "") = x.cps.toList.all y.cps.contains := by
  unfold Txt.stripChars
  rw [PySem.W.stripBy_eq]
  unfold PySem.W.stripped
  simp only [if_true]
  have e0 : ("" : Str) = ⟨#[]⟩ := rfl
  have hxl : x.length = x.cps.toList.length := by rw [Array.length_toList]; rfl
  cases h : x.cps.toList.all y.cps.contains with
  | true =>
    have e := tw_all h
    rw [e]
    refine decide_eq_true ?_
    unfold Builtin.Str.strSub
    rw [e0]
    congr 1
    refine Array.eq_empty_of_size_eq_zero ?_
    rw [Array.size_extract, Array.length_toList]
    omega
  | false =>
    obtain ⟨a, r, h1, h2⟩ := drop_tw _ h
    rw [h1]
    refine decide_eq_false fun e => ?_
    unfold Builtin.Str.strSub at e
    rw [e0] at e
    have e3 := congrArg (fun s : Str => s.cps.size) e
    simp only [Array.size_extract] at e3
    have hr := congrArg List.length h1
    rw [List.length_drop, List.length_cons] at hr
    rw [List.reverse_cons] at e3
    have hl := tw_last a h2 r.reverse
    rw [List.length_reverse] at hl
    rw [hxl] at e3
    have hs : x.cps.size = x.cps.toList.length := by rw [Array.length_toList]
    rw [hs] at e3
    have e4 : (#[] : Array Nat).size = 0 := rfl
    omega
theorem has_letter (c : Nat) : letters.cps.contains c = (decide (97 ≤ c) && decide (c ≤ 122)) := by
  rw [Bool.eq_iff_iff, Array.contains_iff_mem, ← Array.mem_toList_iff, letters_mem]
  simp
abbrev spLWord : FSpec := spPure (fun p => .bl (wordB p)) fitP
theorem lword_ok (args : List PV) (et : Hi) (R : PV → Hi → Prop) (h : spLWord args et R) : r__law_is_word (env0 N__law_is_word args) et (retK R) := by
  obtain ⟨p, rfl, hp, hR⟩ := h
  show r__law_is_word [.val p] et (retK R)
  unfold r__law_is_word
  have hd := fit_deref (et := et) hp
  simp! [hd, isi_str hp]
  cases p with
  | str x =>
    simp only [fitP, decide_eq_true_eq] at hp
    have hlen : gLen [.str x] = some (.int x.cps.size) := by show (if x.length ≤ sizeLine then some (PV.int x.length) else none) = _; rw [if_pos (show x.length ≤ sizeLine from hp)]; rfl
    simp! [hlen]
    by_cases h1 : (x.cps.size : Int) = 0
    · simp only [h1, decide_true, Bool.not_true, Bool.false_eq_true, if_false, if_true]
      unfold r__law_is_word_0
      simp!
      have : wordB (.str x) = false := by
        unfold wordB isWord
        have : ¬ 1 ≤ x.cps.size := by omega
        simp [this]
      simp only [this] at hR; exact hR
    · have g0 : decide ((x.cps.size : Int) = 0) = false := decide_eq_false h1
      by_cases h2 : (8 : Int) < x.cps.size
      · rw [if_neg (by rw [g0]; exact Bool.false_ne_true), if_pos (decide_eq_true h2)]
        unfold r__law_is_word_0
        simp!
        have : wordB (.str x) = false := by
          unfold wordB isWord
          have : ¬ x.cps.size ≤ 8 := by omega
          simp [this]
        simp only [this] at hR; exact hR
      · rw [if_neg (by rw [g0]; exact Bool.false_ne_true), if_neg (by simp; omega)]
        unfold r__law_is_word_1
        have gs : gStripChars (.str x) [.str "abcdefghijklmnopqrstuvwxyz"] = some (.str (Txt.stripChars x letters)) := by
          show (if x.length ≤ sizeLine then some (PV.str (Txt.stripChars x letters)) else none) = _
          rw [if_pos (show x.length ≤ sizeLine from hp)]
        simp! [gs]
        have e : decide (Txt.stripChars x letters = "") = wordB (.str x) := by
          rw [strip_empty]
          unfold wordB isWord
          have g1 : 1 ≤ x.cps.size := by omega
          have g2 : x.cps.size ≤ 8 := by omega
          simp only [g1, g2, decide_true, Bool.true_and]
          congr 1
          funext c
          exact has_letter c
        rw [e]
        exact ⟨rfl, hR⟩
  | _ => first | (cases hp; done) | (simp!; unfold r__law_is_word_0; simp!; exact hR)
def spWhole : FSpec := fun args et R => ∃ p, args = [p, .int 0, .int 9] ∧ fitP p = true ∧ R (.bl (valB p)) et
theorem whole_ok (args : List PV) (et : Hi) (R : PV → Hi → Prop) (h : spWhole args et R) : r__law_is_whole (env0 N__law_is_whole args) et (retK R) := by
  obtain ⟨p, rfl, hp, hR⟩ := h
  show r__law_is_whole [.val p, .val (.int 0), .val (.int 9)] et (retK R)
  unfold r__law_is_whole
  have hd := fit_deref (et := et) hp
  simp! [hd, isi_int hp, isi_bool hp]
  cases p with
  | int i =>
    simp!
    have e : valB (.int i) = (decide (0 ≤ i) && decide (i ≤ 9)) := rfl
    rw [e] at hR
    by_cases h0 : 0 ≤ i
    · simp only [h0, decide_true, Bool.true_and] at hR ⊢
      simp!
      exact hR
    · simp only [h0, decide_false, Bool.false_and] at hR ⊢
      simp!
      exact hR
  | _ => first | (cases hp; done) | (simp!; exact hR)
def spLSum : Nat → FSpec := fun j args et R => ∃ (p : PV) (deep : Nat), args = [p, .int deep] ∧ deep < j ∧ tg p = true ∧ kx p ≤ 300000 ∧ R (.bl (sumIn deep p)) et
def manyW (w : Str) : Int := if w = "not" then 1 else if twoB w = true then 2 else -1
theorem eqx_nil (xs : List PV) : gEqX (.tup xs) (.tup []) = some (.bl xs.isEmpty) := by cases xs <;> rfl
theorem eqx_str (a b : Str) : gEqX (.str a) (.str b) = some (.bl (decide (a = b))) := rfl
theorem eqx_int (a b : Int) : gEqX (.int a) (.int b) = some (.bl (decide (a = b))) := rfl
theorem cut1 (a : PV) (l : List PV) : gSlA (.tup (a :: l)) (some 1) none = some (.tup l) := by
  have e1 : HT.sIx (l.length + 1) (l.length + 1) none = l.length + 1 := by simp [HT.sIx]
  have e2 : HT.sIx (l.length + 1) 0 (some 1) = 1 := by simp [HT.sIx]; try omega
  show some (PV.tup (cutP (a :: l) (some 1) none)) = _
  unfold cutP
  rw [List.length_cons, e1, e2]
  simp
theorem two_sum {w : Str} (hw : w ≠ "waits") (n : Nat) (r : List PV) : sumIn (n + 1) (.tup (.str w :: r)) = (decide (((r.length + 1 : Nat) : Int) = 1 + manyW w) && r.all fun a => sumIn n a) := by
  unfold manyW
  by_cases h1 : w = "not"
  · subst h1
    rw [if_pos rfl]
    rcases r with _ | ⟨a, _ | ⟨b, r⟩⟩
    · rfl
    · simp [sumIn, hw]
    · have : decide ((((a :: b :: r).length + 1 : Nat) : Int) = 1 + 1) = false := decide_eq_false (by simp only [List.length_cons]; omega)
      rw [this]
      simp [sumIn]
  · rw [if_neg h1]
    cases h2 : twoB w with
    | true =>
      rw [if_pos rfl]
      rcases r with _ | ⟨a, _ | ⟨b, _ | ⟨c, r⟩⟩⟩
      · rfl
      · have : decide ((([a].length + 1 : Nat) : Int) = 1 + 2) = false := decide_eq_false (by simp)
        simp [sumIn, hw, h1, h2]
      · simp [sumIn, hw, h1, h2]
      · have : decide ((((a :: b :: c :: r).length + 1 : Nat) : Int) = 1 + 2) = false := decide_eq_false (by simp only [List.length_cons]; omega)
        rw [this]
        simp [sumIn, hw, h1, h2]
    | false =>
      rw [if_neg (by simp)]
      have : decide (((r.length + 1 : Nat) : Int) = 1 + -1) = false := decide_eq_false (by omega)
      rw [this]
      cases r <;> simp [sumIn, hw, h1, h2]
theorem many_get (w : Str) : (valP [(Sum.inr ("not" : Str), PV.int 1), (Sum.inr ("plus" : Str), PV.int 2), (Sum.inr ("minus" : Str), PV.int 2), (Sum.inr ("less" : Str), PV.int 2), (Sum.inr ("same" : Str), PV.int 2), (Sum.inr ("both" : Str), PV.int 2)] (Sum.inr w)).getD (.int (-1)) = .int (manyW w) := by
  unfold manyW twoB
  by_cases h1 : w = "not"
  · subst h1; rfl
  by_cases h2 : w = "plus"
  · subst h2; rfl
  by_cases h3 : w = "minus"
  · subst h3; rfl
  by_cases h4 : w = "less"
  · subst h4; rfl
  by_cases h5 : w = "same"
  · subst h5; rfl
  by_cases h6 : w = "both"
  · subst h6; rfl
  simp only [h1, h2, h3, h4, h5, h6, decide_false, Bool.or_false, if_false, Bool.false_eq_true]
  simp [valP, h1, h2, h3, h4, h5, h6, Ne.symm h1, Ne.symm h2, Ne.symm h3, Ne.symm h4, Ne.symm h5, Ne.symm h6]
theorem lsum_ok (j : Nat) (args : List PV) (et : Hi) (R : PV → Hi → Prop) (h : spLSum (j + 1) args et R) : r__law_is_sum spLWord spWhole (spLSum j) (env0 N__law_is_sum args) et (retK R) := by
  obtain ⟨p, deep, rfl, hj, hg, hk, hR⟩ := h
  show r__law_is_sum _ _ _ [.val p, .val (.int deep), .no, .no] et (retK R)
  have big : (1000000 : Nat) ≤ sizeLine := by decide
  have hp := tg_fitP hg hk
  have hd : ∀ et, deref et p = p := fun et => fit_deref hp
  unfold r__law_is_sum
  simp! [hd]
  cases deep with
  | zero =>
    have e : decide (((0 : Nat) : Int) < 1) = true := by decide
    simp only [e, if_true]
    unfold r__law_is_sum_0
    simp!
    exact hR
  | succ n =>
    have e : decide (((n + 1 : Nat) : Int) < 1) = false := decide_eq_false (by omega)
    rw [e]
    simp only [Bool.false_eq_true, if_false]
    unfold r__law_is_sum_1
    simp! [hd, isi_tup hp]
    have leaf : (∀ xs, p ≠ .tup xs) → sumIn (n + 1) p = (valB p || wordB p) := fun hx => by cases p <;> first | rfl | exact absurd rfl (hx _)
    have other : (∀ xs, p ≠ .tup xs) → r__law_is_sum_2 spLWord spWhole [.val p, .val (.int ((n + 1 : Nat) : Int)), .no, .no] et (retK R) := fun hx => by
      rw [leaf hx] at hR
      unfold r__law_is_sum_2
      simp!
      refine ⟨p, rfl, hp, ?_⟩
      cases hv : valB p with
      | true =>
        rw [hv, Bool.true_or] at hR
        simp!
        exact hR
      | false =>
        rw [hv, Bool.false_or] at hR
        simp!
        exact ⟨p, rfl, hp, hR⟩
    cases p with
    | tup xs =>
      simp!
      unfold r__law_is_sum_3
      have htg : tgs xs = true := by simpa [tg] using hg
      have hkx : kxs xs ≤ 300000 := hk
      cases xs with
      | nil =>
        simp! [eqx_nil]
        refine ⟨by omega, ?_⟩
        simp only [List.isEmpty_nil, if_true]
        unfold r__law_is_sum_4
        simp!
        exact hR
      | cons y r =>
        obtain ⟨y1, y2, y3⟩ := mem_tgs htg (List.mem_cons_self (a := y) (l := r))
        have fy := tg_fitP y1 (by omega)
        have dy : ∀ et, deref et y = y := fun et => fit_deref fy
        have gx0 : atI (y :: r) 0 = some y := atI_nat (j := 0) rfl
        simp! [eqx_nil, gx0, dy, isi_str fy, List.isEmpty_cons]
        refine ⟨by omega, ?_⟩
        cases y with
        | str w =>
          simp!
          unfold r__law_is_sum_5
          simp! [gx0, eqx_str]
          have l1 : gLen [.tup (.str w :: r)] = some (.int (((r.length + 1 : Nat) : Int))) := rfl
          have hlr : r.length ≤ kxs r := len_kxs r
          have hkr : kxs r ≤ 300000 := by simp only [kxs] at hkx; omega
          have htr : tgs r = true := by simp only [tgs, Bool.and_eq_true] at htg; exact htg.2
          by_cases hw : w = "waits"
          · subst hw
            simp only [decide_true, if_true]
            unfold r__law_is_sum_6
            simp! [l1, eqx_int]
            cases r with
            | nil => 
              rw [if_neg (by decide)]
              exact hR
            | cons a r =>
              simp only [tgs, Bool.and_eq_true] at htr
              simp only [kxs] at hkr
              have fa := tg_fitP htr.1 (by omega)
              have e2 : sumIn (n + 1) (.tup (.str "waits" :: a :: r)) = (r.isEmpty && wordB a) := by simp [sumIn]
              rw [e2] at hR
              cases r with
              | nil =>
                rw [if_pos (by simp)]
                exact ⟨a, atI_nat (j := 1) rfl, a, rfl, fa, hR⟩
              | cons b r =>
                rw [if_neg (by simp only [List.length_cons, decide_eq_true_eq]; omega)]
                exact hR
          · rw [if_neg (by simpa using hw)]
            unfold r__law_is_sum_7
            simp! [mDGet2, mDisp, mDcons, mDnil, gx0]
            refine ⟨_, rfl, by decide, ⟨_, rfl⟩, .int (manyW w), ?_, ?_⟩
            · show some ((valP _ (Sum.inr w)).getD (.int (-1))) = _
              exact congrArg some (many_get w)
            rw [two_sum hw] at hR
            unfold r__law_is_sum_8
            simp! [l1, eqx_int]
            cases hd1 : decide (((r.length + 1 : Nat) : Int) = 1 + manyW w) with
            | false =>
              rw [hd1, Bool.false_and] at hR
              simp only [Bool.false_eq_true, if_false]
              exact hR
            | true =>
              rw [hd1, Bool.true_and] at hR
              simp only [if_true]
              refine ⟨.tup r, cut1 _ r, r, rfl, ?_⟩
              refine lc_pure (fun a => .bl (sumIn n a)) rfl (by rw [sizeLine_eq]; omega) (fun a ha => ⟨_, rfl, fun Q hQ => ?_⟩) ?_
              · obtain ⟨b1, b2, b3⟩ := mem_tgs htr ha
                simp!
                exact ⟨a, n, by congr 3; omega, by omega, b1, by omega, hQ⟩
              · refine ⟨.bl (r.all fun a => sumIn n a), ?_, hR⟩
                show (bls (r.map fun a => .bl (sumIn n a))).map _ = _
                rw [bls_map (fun a => sumIn n a)]
                simp
        | _ => first | (simp [tg] at y1; done) | (simp!; unfold r__law_is_sum_4; simp!; exact hR)
    | _ => first | (simp [tg] at hg; done) | (simp!; exact other (fun xs h => by cases h))
def oddL : List PV := [.int 10, .int (-1), .bl true, .bl false, .non, .str "", .str "abcdefghi", .str "aB", .str "a b", .int (10 ^ 30), .tup [], .lst [], .dic [], .tup [.str "plus", .int 1], .tup [.str "not"],
  .tup [.str "plus", .int 1, .int 2, .int 3], .lst [.str "plus", .int 1, .int 2], .tup [.str "waits", .int 3], .tup [.str "waits", .str "a", .str "b"], .tup [.str "waits", .str "Bell"],
  .tup [.str "waits"], .tup [.str "sum", .int 1, .int 2], .tup [.tup [], .int 1], .tup [.int 1], .tup [.int 1, .int 2, .int 3], .tup [.str "not", .int 1, .int 2], .tup [.str "less", .int 1, .non], .str "plus", .str "given"]
theorem odd_good : (oddL.all fun p => tg p && decide (kx p ≤ 40) && decide (dx p ≤ 2)) = true := by decide +kernel
theorem odd_mem {p : PV} (h : p ∈ oddL) : tg p = true ∧ kx p ≤ 40 ∧ dx p ≤ 2 := by
  have := List.all_eq_true.mp odd_good p h
  simp only [Bool.and_eq_true, decide_eq_true_eq] at this
  exact ⟨this.1.1, this.1.2, this.2⟩
def spOdd : FSpec := fun args et R => ∃ n, args = [.ref 1] ∧ et = pt (n + 1) ∧ ∀ p, tg p = true → kx p ≤ 40 → dx p ≤ 2 → R p (pt n)
theorem odd_ok (args : List PV) (et : Hi) (R : PV → Hi → Prop) (h : spOdd args et R) : r__law_odd spOf (env0 N__law_odd args) et (retK R) := by
  obtain ⟨n, rfl, rfl, hR⟩ := h
  show r__law_odd _ [.val (.ref 1), .no] _ (retK R)
  have big : (2000 : Nat) ≤ sizeLine := by decide
  unfold r__law_odd
  simp! [mDic0]
  refine ⟨.int (10 ^ 30), if_pos (by decide), by omega, by omega, by omega, by omega, by omega, ?_⟩
  have gc : ∀ xs ys : List PV, xs.length + ys.length ≤ 1000 → gCat (.lst xs) (.lst ys) = some (.lst (xs ++ ys)) := fun xs ys h => by
    show (if xs.length + ys.length ≤ sizeLine then some (PV.lst (xs ++ ys)) else none) = _
    rw [if_pos (by omega)]
  unfold r__law_odd_0
  simp!
  refine ⟨by omega, by omega, by omega, by omega, by omega, by omega, _, gc _ _ (by decide), ?_⟩
  unfold r__law_odd_1
  simp!
  refine ⟨by omega, by omega, by omega, by omega, by omega, by omega, by omega, by omega, by omega, _, gc _ _ (by decide), ?_⟩
  unfold r__law_odd_2
  simp!
  refine ⟨by omega, _, gc _ _ (by decide), ?_⟩
  unfold r__law_odd_3
  simp!
  refine ⟨n, oddL, rfl, rfl, by decide, by decide, fun p hp => ?_⟩
  obtain ⟨h1, h2, h3⟩ := odd_mem hp
  exact hR p h1 h2 h3
theorem tgs_cut {xs : List PV} (h : tgs xs = true) (lo hi : Option Int) : tgs (cutP xs lo hi) = true ∧ kxs (cutP xs lo hi) ≤ kxs xs ∧ dxs (cutP xs lo hi) ≤ dxs xs := by
  unfold cutP
  generalize HT.sIx xs.length 0 lo = a
  generalize HT.sIx xs.length xs.length hi - a = b
  have e1 : xs = xs.take a ++ xs.drop a := (List.take_append_drop a xs).symm
  rw [e1] at h
  obtain ⟨_, h2, h3, h4⟩ := tgs_of_app h
  rw [← e1] at h3 h4
  have e2 : xs.drop a = (xs.drop a).take b ++ (xs.drop a).drop b := (List.take_append_drop b _).symm
  rw [e2] at h2
  obtain ⟨g1, _, g3, g4⟩ := tgs_of_app h2
  rw [← e2] at g3 g4
  exact ⟨g1, by omega, by omega⟩
def Good (b k : Nat) (q : PV) : Prop := tg q = true ∧ kx q ≤ 2 * b + 200 ∧ dx q ≤ k + 3
theorem good_tup {b k : Nat} {xs : List PV} (h : tgs xs = true) (h1 : kxs xs ≤ 2 * b + 200) (h2 : dxs xs ≤ k + 2) : Good b k (.tup xs) := ⟨by simpa [tg] using h, h1, by simp only [dx]; omega⟩
def spBent : Nat → FSpec := fun j args et R => ∃ n p, args = [.ref 1, p] ∧ tg p = true ∧ kx p ≤ 100000 ∧ dx p < j ∧ et = pt (n + (2 * j + 6)) ∧ ∀ n' q, n ≤ n' → Good (kx p) (dx p) q → R q (pt n')
theorem gsl (xs : List PV) (lo hi : Option Int) : gSlA (.tup xs) lo hi = some (.tup (cutP xs lo hi)) := rfl
theorem bent2_ok (n : Nat) (p : PV) (s2 s3 s4 : Mw.Slot) (R : PV → Hi → Prop) (hg : tg p = true) (hk : kx p ≤ 100000) (hR : ∀ n' q, n ≤ n' → Good (kx p) (dx p) q → R q (pt n')) :
    r__law_bent_2 spTake spOf spOdd [.val (.ref 1), .val p, s2, s3, s4] (pt (n + 2 + 1)) (retK R) := by
  have big : (1000000 : Nat) ≤ sizeLine := by decide
  have fp := tg_fitP hg (by omega)
  have hd : ∀ et, deref et p = p := fun et => fit_deref fp
  unfold r__law_bent_2
  simp!
  refine take_pt (by decide) (by decide) fun d d0 d1 => ?_
  have tail : ∀ d : Int, r__law_bent_6 spOdd [.val (.ref 1), .val p, s2, .val (.int d), s4] (pt (n + 1 + 1)) (retK R) := fun d => by
    unfold r__law_bent_6
    have gq : gEq (.int d) (.int 4) = some (.bl (decide (d = 4))) := rfl
    simp! [gq]
    by_cases h4 : d = 4
    · rw [if_pos (decide_eq_true h4)]
      unfold r__law_bent_7
      simp!
      refine ⟨by omega, by omega, hR _ _ (by omega) ?_⟩
      have e3 : tg (.str "not") = true := by decide
      have e4 : tg (.str "both") = true := by decide
      have k3 : kx (.str "not") = 3 := rfl
      have k4 : kx (.str "both") = 4 := rfl
      refine ⟨?_, ?_, ?_⟩
      · show (tg (.str "not") && ((tg (.str "both") && (tg (.int 1) && (tg p && true))) && true)) = true
        rw [e3, e4, hg]
        rfl
      · simp only [kx, kxs] at k3 k4 ⊢; omega
      · simp only [dx, dxs]; omega
    · rw [if_neg (by simpa using h4)]
      unfold r__law_bent_8
      simp!
      refine ⟨n + 1, rfl, rfl, fun q q1 q2 q3 => hR _ _ (by omega) ⟨q1, by omega, by omega⟩⟩
  unfold r__law_bent_3
  simp! [hd, isi_tup fp]
  cases p with
  | tup xs =>
    simp!
    by_cases h4 : d < 4
    · rw [if_pos (decide_eq_true h4)]
      unfold r__law_bent_4
      simp!
      refine ⟨by omega, n + 1, _, rfl, rfl, by simp, by simp, fun w hw => ?_⟩
      have hw2 : tg w = true ∧ kx w ≤ 4 ∧ dx w = 0 := by
        have hall : (([.str "not", .str "plus", .str "Plus", .str ""] : List PV).all fun w => tg w && decide (kx w ≤ 4) && decide (dx w = 0)) = true := by decide +kernel
        have := List.all_eq_true.mp hall w hw
        simp only [Bool.and_eq_true, decide_eq_true_eq] at this
        exact ⟨this.1.1, this.1.2, this.2⟩
      have htg : tgs xs = true := by simpa [tg] using hg
      have hlx := len_kxs xs
      have hkx : kxs xs ≤ 100000 := hk
      unfold r__law_bent_5
      have gneg : gNeg (.int 1) = some (.int (-1)) := rfl
      have gl : gList [.tup xs] = some (.lst xs) := rfl
      simp! [gl, gsl, gneg]
      obtain ⟨c1, c2, c3⟩ := tgs_cut htg none (some (-1))
      obtain ⟨e1, e2, e3⟩ := tgs_cut htg (some (-1)) none
      obtain ⟨f1, f2, f3⟩ := tgs_cut htg (some 1) none
      have l1 := len_kxs (cutP xs (some (-1)) none)
      have l2 := len_kxs (cutP xs (some 1) none)
      obtain ⟨a1, a2, a3⟩ := tgs_app htg e1
      have gk : kx (.tup xs) = kxs xs := rfl
      have gd : dx (.tup xs) = dxs xs + 1 := rfl
      refine ⟨.tup (xs ++ cutP xs (some (-1)) none), if_pos (by omega), by omega, .tup (w :: cutP xs (some 1) none), if_pos (by omega), by omega, ?_⟩
      obtain ⟨m, rfl⟩ := Int.eq_ofNat_of_zero_le d0
      have hm : m = 0 ∨ m = 1 ∨ m = 2 ∨ m = 3 := by omega
      rcases hm with rfl | rfl | rfl | rfl
      · exact ⟨_, atI_nat (j := 0) rfl, hR _ _ (by omega) ⟨by simpa [tg] using htg, by show kxs xs ≤ _; omega, by show dxs xs + 1 ≤ _; omega⟩⟩
      · exact ⟨_, atI_nat (j := 1) rfl, hR _ _ (by omega) (good_tup c1 (by omega) (by omega))⟩
      · exact ⟨_, atI_nat (j := 2) rfl, hR _ _ (by omega) (good_tup a1 (by omega) (by omega))⟩
      · exact ⟨_, atI_nat (j := 3) rfl, hR _ _ (by omega) (good_tup (by simp only [tgs, hw2.1, f1, Bool.true_and]) (by simp only [kxs]; omega) (by simp only [dxs]; omega))⟩
    · rw [if_neg (by simpa using h4)]
      exact tail d
  | _ => first | (simp [tg] at hg; done) | (simp!; exact tail d)
theorem sl_takeT (xs : List PV) (n : Nat) : gSlA (.tup xs) none (some (n : Int)) = some (.tup (xs.take n)) := by
  show some (PV.tup (cutP xs none (some (n : Int)))) = _
  unfold cutP
  rw [HT.sIx_nat, HT.sIx_none]
  congr 2
  rw [List.drop_zero, Nat.sub_zero]
  by_cases h : n ≤ xs.length
  · rw [Nat.min_eq_left h]
  · rw [Nat.min_eq_right (by omega), List.take_length, List.take_of_length_le (by omega)]
theorem sl_dropT (xs : List PV) (n : Nat) : gSlA (.tup xs) (some (n : Int)) none = some (.tup (xs.drop n)) := by
  show some (PV.tup (cutP xs (some (n : Int)) none)) = _
  unfold cutP
  rw [HT.sIx_nat, HT.sIx_none]
  congr 2
  by_cases h : n ≤ xs.length
  · rw [Nat.min_eq_left h]
    exact List.take_of_length_le (by rw [List.length_drop]; exact Nat.le_refl _)
  · rw [Nat.min_eq_right (by omega), List.drop_eq_nil_of_le (Nat.le_refl _), List.drop_eq_nil_of_le (by omega)]; simp
theorem bent_ok (j : Nat) (args : List PV) (et : Hi) (R : PV → Hi → Prop) (h : spBent (j + 1) args et R) : r__law_bent spTake (spBent j) spOf spOdd (env0 N__law_bent args) et (retK R) := by
  obtain ⟨n, p, rfl, hg, hk, hdj, rfl, hR⟩ := h
  show r__law_bent _ _ _ _ [.val (.ref 1), .val p, .no, .no, .no] _ (retK R)
  have big : (1000000 : Nat) ≤ sizeLine := by decide
  have fp := tg_fitP hg (by omega)
  have hd : ∀ et, deref et p = p := fun et => fit_deref fp
  have tail : ∀ m, n + 3 ≤ m → r__law_bent_2 spTake spOf spOdd [.val (.ref 1), .val p, .no, .no, .no] (pt m) (retK R) := fun m hm => by
    obtain ⟨m2, rfl⟩ : ∃ m2, m = m2 + 2 + 1 := ⟨m - 3, by omega⟩
    exact bent2_ok m2 p .no .no .no R hg hk fun n' q hn hq => hR n' q (by omega) hq
  unfold r__law_bent
  simp! [hd, isi_tup fp]
  cases p with
  | tup xs =>
    have htg : tgs xs = true := by simpa [tg] using hg
    have hlx := len_kxs xs
    have hkx : kxs xs ≤ 100000 := hk
    have gl : gLen [.tup xs] = some (.int xs.length) := rfl
    simp! [gl]
    by_cases h1 : (1 : Int) < xs.length
    · simp only [h1, decide_true, if_true]
      have en : n + (2 * (j + 1) + 6) = (n + (2 * j + 6) + 1) + 1 := by omega
      rw [en]
      refine take_pt (by decide) (by decide) fun d d0 d1 => ?_
      simp!
      by_cases h0 : 0 < d
      · rw [if_pos (decide_eq_true h0)]
        unfold r__law_bent_0
        simp! [gl]
        refine take_pt (by omega) (by omega) fun a a0 a1 => ?_
        obtain ⟨m, rfl⟩ := Int.eq_ofNat_of_zero_le a0
        have hm : m + 1 < xs.length := by omega
        have ex : xs[m + 1]? = some xs[m + 1] := List.getElem?_eq_getElem hm
        have split : xs = xs.take (m + 1) ++ xs[m + 1] :: xs.drop (m + 2) := by
          rw [List.getElem_cons_drop, List.take_append_drop]
        generalize xs[m + 1] = x at ex split
        unfold r__law_bent_1
        have eat : (1 : Int) + (m : Int) = ((m + 1 : Nat) : Int) := by omega
        have gx : atI xs ((m + 1 : Nat) : Int) = some x := atI_nat ex
        obtain ⟨x1, x2, x3⟩ := mem_tgs htg (List.mem_of_getElem? ex)
        have gd : dx (.tup xs) = dxs xs + 1 := rfl
        rw [split] at htg
        obtain ⟨t1, t2, t3, t4⟩ := tgs_of_app htg
        rw [← split] at t3 t4
        simp only [tgs, Bool.and_eq_true] at t2
        simp only [kxs] at t3
        simp only [dxs] at t4
        simp! [eat, gx, sl_takeT]
        have gk : kx (.tup xs) = kxs xs := rfl
        refine ⟨n, x, rfl, x1, by omega, by omega, rfl, fun n' q hn hq => ?_⟩
        obtain ⟨q1, q2, q3⟩ := hq
        have e4 : ((m + 1 : Nat) : Int) + 1 = ((m + 2 : Nat) : Int) := by omega
        have tq : tgs [q] = true := by simp [tgs, q1]
        have kq : kxs [q] = kx q + 1 := by simp [kxs]
        have dq : dxs [q] = dx q := by simp [dxs]
        obtain ⟨u1, u2, u3⟩ := tgs_app t1 tq
        obtain ⟨v1, v2, v3⟩ := tgs_app u1 t2.2
        have lt := List.length_take_le' (m + 1) xs
        have ld : (xs.drop (m + 2)).length ≤ xs.length := by rw [List.length_drop]; omega
        refine ⟨by omega, .tup (xs.take (m + 1) ++ [q]), if_pos (by omega), .tup (xs.drop (m + 2)), by rw [e4]; exact sl_dropT _ _, .tup (xs.take (m + 1) ++ [q] ++ xs.drop (m + 2)), if_pos (by rw [List.length_append, List.length_singleton]; omega), ?_⟩
        exact hR n' _ hn (good_tup v1 (by omega) (by omega))
      · rw [if_neg (by simpa using h0)]
        exact tail _ (by omega)
    · simp only [h1, decide_false, Bool.false_eq_true, if_false]
      exact tail _ (by omega)
  | _ => first | (simp [tg] at hg; done) | (simp!; exact tail _ (by omega))
def spRight : FSpec := fun args et R => ∃ p, args = [p] ∧ tg p = true ∧ kx p ≤ 200000 ∧ dx p ≤ 60 ∧ R (.bl true) et
theorem right_ok (args : List PV) (et : Hi) (R : PV → Hi → Prop) (h : spRight args et R) : r__law_right spIsSum (spLSum 6) (env0 N__law_right args) et (retK R) := by
  obtain ⟨p, rfl, hg, hk, hdp, hR⟩ := h
  show r__law_right _ _ [.val p, .no, .no] et (retK R)
  have fp := tg_fitP hg (by omega)
  have hd : ∀ et, deref et p = p := fun et => fit_deref fp
  obtain ⟨t, ht⟩ := Th.shw (b := 200000) (k := 60) ⟨hg, hk, hdp⟩ (by omega) (by omega)
  unfold r__law_right
  simp! [hd, ht]
  unfold r__law_right_0
  simp!
  refine ⟨p, rfl, tg_fits 5 p hg (by omega), ?_⟩
  unfold r__law_right_1
  have g1 : gIsi [.bl (sumIn 5 p), .ty .bool] = some (.bl true) := rfl
  simp! [g1]
  refine ⟨p, 5, rfl, by omega, hg, by omega, ?_⟩
  have g2 : gEq (.bl (sumIn 5 p)) (.bl (sumIn 5 p)) = some (.bl true) := by cases sumIn 5 p <;> rfl
  have g3 : gEq (.str t) (.str t) = some (.bl true) := by show some (PV.bl (decide (t = t))) = _; simp
  simp! [g2, hd, ht, g3]
  exact hR
theorem tg_word {x : Str} (h : isWord x = true) : tg (.str x) = true ∧ kx (.str x) ≤ 8 := by
  unfold isWord at h
  simp only [Bool.and_eq_true, decide_eq_true_eq, List.all_eq_true] at h
  refine ⟨?_, h.1.2⟩
  simp only [tg, List.all_eq_true, decide_eq_true_eq]
  intro c hc
  have := h.2 c hc
  omega
theorem tg_sm {ws bs : List Str} (hw : ∀ x ∈ ws, isWord x = true) (hb : ∀ x ∈ bs, isWord x = true) : ∀ s : Sm, s.ok ws bs → tg s.pv = true ∧ kx s.pv + 10 ≤ 15 * 2 ^ s.dep ∧ dx s.pv ≤ s.dep
  | .val n, h => ⟨by have h : n ≤ 9 := h; simp [Sm.pv, tg]; omega, by simp [Sm.pv, kx, Sm.dep], Nat.zero_le _⟩
  | .wrd x, h => by
    have w := tg_word (hw x h)
    exact ⟨w.1, by have := w.2; simp only [Sm.pv, Sm.dep]; omega, Nat.zero_le _⟩
  | .wts x, h => by
    have w := tg_word (hb x h)
    have e1 : tg (.str "waits") = true := by decide
    have e2 : kx (.str "waits") = 5 := rfl
    refine ⟨?_, ?_, by simp [Sm.pv, dx, dxs, Sm.dep]⟩
    · show (tg (.str "waits") && (tg (.str x) && true)) = true
      rw [e1, w.1]
      rfl
    · have := w.2
      simp only [Sm.pv, Sm.dep]
      show kx (.str "waits") + 1 + (kx (.str x) + 1 + 0) + 10 ≤ _
      omega
  | .not a, h => by
    obtain ⟨h1, h2, h3⟩ := tg_sm hw hb a h
    have e1 : tg (.str "not") = true := by decide
    have e2 : kx (.str "not") = 3 := rfl
    refine ⟨?_, ?_, by simp only [Sm.pv, dx, dxs, Sm.dep]; omega⟩
    · show (tg (.str "not") && (tg a.pv && true)) = true
      rw [e1, h1]
      rfl
    · simp only [Sm.pv, Sm.dep, Nat.pow_succ]
      show kx (.str "not") + 1 + (kx a.pv + 1 + 0) + 10 ≤ _
      omega
  | .two t a b, h => by
    obtain ⟨h1, h2, h3⟩ := tg_sm hw hb a h.1
    obtain ⟨g1, g2, g3⟩ := tg_sm hw hb b h.2
    have ht : tg (.str t.str) = true ∧ kx (.str t.str) ≤ 5 := by cases t <;> decide +kernel
    have e1 : 2 ^ a.dep ≤ 2 ^ max a.dep b.dep := Nat.pow_le_pow_right (by decide) (Nat.le_max_left _ _)
    have e2 : 2 ^ b.dep ≤ 2 ^ max a.dep b.dep := Nat.pow_le_pow_right (by decide) (Nat.le_max_right _ _)
    refine ⟨?_, ?_, by simp only [Sm.pv, dx, dxs, Sm.dep]; omega⟩
    · show (tg (.str t.str) && (tg a.pv && (tg b.pv && true))) = true
      rw [ht.1, h1, g1]
      rfl
    · simp only [Sm.pv, Sm.dep, Nat.pow_succ]
      show kx (.str t.str) + 1 + (kx a.pv + 1 + (kx b.pv + 1 + 0)) + 10 ≤ _
      have := ht.2
      omega
theorem sl_drop (xs : List PV) (n : Nat) : gSlA (.lst xs) (some (n : Int)) none = some (.lst (xs.drop n)) := by
  show some (PV.lst (cutP xs (some (n : Int)) none)) = _
  unfold cutP
  rw [HT.sIx_nat, HT.sIx_none]
  congr 2
  by_cases h : n ≤ xs.length
  · rw [Nat.min_eq_left h]
    exact List.take_of_length_le (by rw [List.length_drop]; exact Nat.le_refl _)
  · rw [Nat.min_eq_right (by omega), List.drop_eq_nil_of_le (Nat.le_refl _), List.drop_eq_nil_of_le (by omega)]; simp
def lastL : List PV := [.non, .bl true, .int 0, .int 9, .int 10, .int (-1), .str "", .str "word", .str "Word", .tup [], .lst [], .dic [], .tup [.str "waits", .str "bell"], .tup [.str "not", .tup [.str "waits", .str "bell"]]]
theorem last_good : (lastL.all fun p => tg p && decide (kx p ≤ 40) && decide (dx p ≤ 2)) = true := by decide +kernel
theorem last_mem {p : PV} (h : p ∈ lastL) : tg p = true ∧ kx p ≤ 40 ∧ dx p ≤ 2 := by
  have := List.all_eq_true.mp last_good p h
  simp only [Bool.and_eq_true, decide_eq_true_eq] at this
  exact ⟨this.1.1, this.1.2, this.2⟩
theorem law_ok (args : List PV) (et : Hi) (R : PV → Hi → Prop) (h : Mw.spLaw args et R) : r_law spPot spWords (spSum 6) spTake spRight spIsSum (spBent 20) (env0 N_law args) et (retK R) := by
  obtain ⟨ns, rfl, hl, rfl, hR⟩ := h
  show r_law _ _ _ _ _ _ _ [.val (.scr ns), .no, .no, .no, .no, .no, .no] _ (retK R)
  have big : (100000 : Nat) ≤ sizeLine := by decide
  unfold r_law
  simp!
  refine ⟨ns, rfl, hl, ?_⟩
  show r_law_0 _ _ _ _ _ _ [.val (.scr ns), .val (.ref 1), .no, .no, .no, .no, .no] (pt 1099511627776) (retK R)
  unfold r_law_0
  simp!
  refine ⟨1099511627774, 6, rfl, by decide, rfl, fun ws wl hw _ => ?_⟩
  unfold r_law_1
  have hlen : gLen [.scr ns] = some (.int ns.length) := rfl
  have hmin : gMin2 [.int 60, .int ns.length] = some (.int (min 60 ns.length : Nat)) := by
    unfold gMin2
    simp only []
    split <;> (congr 2; omega)
  have hmax : gMax2 [.int 20, .int (min 60 ns.length : Nat)] = some (.int (max 20 (min 60 ns.length) : Nat)) := by
    unfold gMax2
    simp only []
    split <;> (congr 2; omega)
  simp! [hlen, hmin, hmax]
  refine ⟨(max 20 (min 60 ns.length) : Nat), rfl, by omega, by omega, fun i ep et1 => ∃ (n1 : Nat) (s3 s4 s5 s6 : Slot), ep = [.val (.scr ns), .val (.ref 1), .val (.lst (ws.map .str)), s3, s4, s5, s6] ∧ et1 = pt n1 ∧ 3000 * (60 - i) ≤ n1,
    ⟨1099511627774, _, _, _, _, rfl, rfl, by omega⟩, ?_⟩
  rintro i ep et1 ⟨n1, s3, s4, s5, s6, rfl, rfl, hn1⟩
  have hlenR : (rng 0 (max 20 (min 60 ns.length) : Nat)).length = max 20 (min 60 ns.length) := by simp [rng]
  refine ⟨rfl, fun p hp => ⟨_, rfl, ?_⟩, fun e => ?_⟩
  · have hi : i < max 20 (min 60 ns.length) := by
      have := (List.getElem?_eq_some_iff.mp hp).1
      simpa [rng] using this
    have hpe : p = .int (i : Int) := by
      simp only [Int.toNat_natCast] at hp
      unfold rng at hp
      rw [List.getElem?_map, List.getElem?_range (by omega)] at hp
      cases hp; simp
    subst hpe
    unfold r_law_2
    have gs : gSlA (.lst (ws.map .str)) (some 3) none = some (.lst ((ws.drop 3).map .str)) := by
      have := sl_drop (ws.map .str) 3
      rw [← List.map_drop] at this
      exact this
    simp! [gs]
    obtain ⟨n2, rfl⟩ : ∃ n2, n1 = n2 + 1 := ⟨n1 - 1, by omega⟩
    refine take_pt (by decide) (by decide) fun d d0 d1 => ?_
    obtain ⟨d, rfl⟩ := Int.eq_ofNat_of_zero_le d0
    have hdeep : (1 : Int) + (d : Int) = ((1 + d : Nat) : Int) := by omega
    simp! [hdeep]
    have hcs : cs (1 + d) ≤ 300 := by
      have : d = 0 ∨ d = 1 ∨ d = 2 ∨ d = 3 ∨ d = 4 := by omega
      rcases this with rfl | rfl | rfl | rfl | rfl <;> decide
    obtain ⟨n3, rfl⟩ : ∃ n3, n2 = n3 + cs (1 + d) := ⟨n2 - cs (1 + d), by omega⟩
    have hb : ∀ x ∈ ws.drop 3, isWord x = true := fun x hx => hw x (List.mem_of_mem_drop hx)
    refine ⟨n3, 1 + d, ws, ws.drop 3, rfl, by omega, hw, hb, by omega, by rw [List.length_drop]; omega, rfl, fun n4 hn4 s hs ho => ?_⟩
    obtain ⟨g1, g2, g3⟩ := tg_sm hw hb s ho
    have hdep : s.dep ≤ 5 := by omega
    have hpow : 2 ^ s.dep ≤ 2 ^ 5 := Nat.pow_le_pow_right (by decide) hdep
    have hsum : sumIn 5 s.pv = true := by rw [sumIn_sm hw hb s 5 ho]; exact decide_eq_true hdep
    generalize s.pv = p at g1 g2 g3 hsum
    show r_law_3 _ _ _ _ _ _ _
    unfold r_law_3
    simp!
    refine ⟨p, rfl, tg_fits 5 p g1 (by omega), ?_⟩
    rw [hsum]
    have gn : gIsNot (.bl true) (.bl true) = some (.bl false) := rfl
    simp! [gn]
    refine ⟨p, rfl, g1, by omega, by omega, ?_⟩
    simp!
    unfold r_law_5
    simp!
    obtain ⟨n5, rfl⟩ : ∃ n5, n4 = n5 + 1 := ⟨n4 - 1, by omega⟩
    refine take_pt (by decide) (by decide) fun a a0 a1 => ?_
    simp!
    refine ⟨1 + a, rfl, by omega, by omega, fun t ep et1 => ∃ (n6 : Nat) (q : PV) (s5 s6 : Slot), ep = [.val (.scr ns), .val (.ref 1), .val (.lst (ws.map .str)), .val (.int i), .val q, s5, s6] ∧ et1 = pt n6 ∧ n5 ≤ n6 + 100 * t ∧ tg q = true ∧ kx q + 200 ≤ 2 ^ t * 700 ∧ dx q ≤ 5 + 3 * t ∧ t ≤ 3,
      ⟨n5, p, _, _, rfl, rfl, by omega, g1, by omega, by omega, by omega⟩, ?_⟩
    rintro t ep et1 ⟨n6, q, s5, s6, rfl, rfl, hn6, q1, q2, q3, ht⟩
    refine ⟨rfl, fun z hz => ⟨_, rfl, ?_⟩, fun e => ?_⟩
    · have htl : t < (1 + a).toNat := by
        have := (List.getElem?_eq_some_iff.mp hz).1
        simpa [rng] using this
      have hp2 : 2 ^ t ≤ 2 ^ 2 := Nat.pow_le_pow_right (by decide) (by omega)
      have hq2 : kx q ≤ 2800 := by omega
      unfold r_law_6
      simp!
      obtain ⟨n7, rfl⟩ : ∃ n7, n6 = n7 + (2 * 20 + 6) := ⟨n6 - 46, by omega⟩
      refine ⟨n7, q, rfl, q1, by omega, by omega, rfl, fun n8 r hn8 hr => ?_⟩
      obtain ⟨r1, r2, r3⟩ := hr
      unfold r_law_7
      simp!
      refine ⟨r, rfl, r1, by omega, by omega, ?_⟩
      simp!
      have el : tg (.str "less") = true := by decide
      have kl : kx (.str "less") = 4 := rfl
      refine ⟨by omega, .tup [.str "less", r, .int 1], rfl, ?_, ?_, ?_, ?_⟩
      · show (tg (.str "less") && (tg r && (tg (.int 1) && true))) = true
        rw [el, r1]
        rfl
      · show kx (.str "less") + 1 + (kx r + 1 + (0 + 1 + 0)) ≤ _
        omega
      · simp only [dx, dxs]
        omega
      simp!
      refine ⟨n8, r, _, _, rfl, rfl, by omega, r1, ?_, by omega, by omega⟩
      rw [Nat.pow_succ]
      have : 1 ≤ 2 ^ t := Nat.one_le_two_pow
      omega
    · exact ⟨n6, _, _, _, _, rfl, rfl, by omega⟩
  · unfold r_law_9
    simp! [mDic0]
    refine ⟨by omega, by omega, by omega, by omega, by omega, by omega, ?_⟩
    unfold r_law_10
    simp!
    refine ⟨lastL, rfl, lc_pure (fun _ => .bl true) rfl (by show 14 ≤ sizeLine; omega) (fun p hp => ⟨_, rfl, fun Q hQ => ?_⟩) ?_⟩
    · obtain ⟨h1, h2, h3⟩ := last_mem hp
      simp!
      exact ⟨p, rfl, h1, by omega, by omega, hQ⟩
    · exact ⟨_, rfl, hR _⟩
end Q01
namespace K01
open PySem L2 Mw PyProof.Rows
def topS (i : Nat) : Stmt := PySem.Challenge.pw_calledroom_k01_sums_of_anything.main.body.getD i (.Pass ⟨0, 0, 0, 0⟩)
abbrev k_LETTERS : PV := .str "abcdefghijklmnopqrstuvwxyz"
abbrev k_MOST_DEEP : PV := .int 5
abbrev k_MOST_SIGNS : PV := .int 8
abbrev k_MOST_VALUE : PV := .int 9
abbrev k_TWO_PARTS : PV := .tup [.str "plus", .str "minus", .str "less", .str "same", .str "both"]
abbrev s_is_word : Stmt := topS 6
theorem sc_is_word : FnScope ["thing", "sign"] ["thing"] (defScope s_is_word) := ⟨rfl, rfl, rfl, by decide +kernel, rfl, by decide +kernel, by decide +kernel⟩
abbrev s_is_value : Stmt := topS 7
theorem sc_is_value : FnScope ["thing"] ["thing"] (defScope s_is_value) := ⟨rfl, rfl, rfl, by decide +kernel, rfl, by decide +kernel, by decide +kernel⟩
abbrev s_is_sum_within : Stmt := topS 8
theorem sc_is_sum_within : FnScope ["thing", "deep"] ["thing", "deep"] (defScope s_is_sum_within) := ⟨rfl, rfl, rfl, by decide +kernel, rfl, by decide +kernel, by decide +kernel⟩
abbrev s_is_sum : Stmt := topS 9
theorem sc_is_sum : FnScope ["thing"] ["thing"] (defScope s_is_sum) := ⟨rfl, rfl, rfl, by decide +kernel, rfl, by decide +kernel, by decide +kernel⟩
abbrev s__law_pot : Stmt := topS 11
theorem sc__law_pot : FnScope ["_law_script", "_law_seed", "_law_cell"] ["_law_script"] (defScope s__law_pot) := ⟨rfl, rfl, rfl, by decide +kernel, rfl, by decide +kernel, by decide +kernel⟩
abbrev s__law_take : Stmt := topS 12
theorem sc__law_take : FnScope ["_law_pot_here", "_law_many", "_law_digit", "_law_mixed"] ["_law_pot_here", "_law_many"] (defScope s__law_take) := ⟨rfl, rfl, rfl, by decide +kernel, rfl, by decide +kernel, by decide +kernel⟩
abbrev s__law_of : Stmt := topS 13
theorem sc__law_of : FnScope ["_law_pot_here", "_law_some"] ["_law_pot_here", "_law_some"] (defScope s__law_of) := ⟨rfl, rfl, rfl, by decide +kernel, rfl, by decide +kernel, by decide +kernel⟩
abbrev s__law_words : Stmt := topS 14
theorem sc__law_words : FnScope ["_law_pot_here", "_law_many", "_law_letters", "_law_first", "_law_turn", "_law_ends", "_law_found", "_law_k", "_law_sign"] ["_law_pot_here", "_law_many"] (defScope s__law_words) := ⟨rfl, rfl, rfl, by decide +kernel, rfl, by decide +kernel, by decide +kernel⟩
abbrev s__law_bare : Stmt := topS 15
theorem sc__law_bare : FnScope ["_law_pot_here", "_law_words_here", "_law_bells", "_law_way"] ["_law_pot_here", "_law_words_here", "_law_bells"] (defScope s__law_bare) := ⟨rfl, rfl, rfl, by decide +kernel, rfl, by decide +kernel, by decide +kernel⟩
abbrev s__law_sum : Stmt := topS 16
theorem sc__law_sum : FnScope ["_law_pot_here", "_law_words_here", "_law_bells", "_law_deep", "_law_way", "_law_word"] ["_law_pot_here", "_law_words_here", "_law_bells", "_law_deep"] (defScope s__law_sum) := ⟨rfl, rfl, rfl, by decide +kernel, rfl, by decide +kernel, by decide +kernel⟩
abbrev s__law_is_word : Stmt := topS 17
theorem sc__law_is_word : FnScope ["_law_thing"] ["_law_thing"] (defScope s__law_is_word) := ⟨rfl, rfl, rfl, by decide +kernel, rfl, by decide +kernel, by decide +kernel⟩
abbrev s__law_is_whole : Stmt := topS 18
theorem sc__law_is_whole : FnScope ["_law_thing", "_law_least", "_law_most"] ["_law_thing", "_law_least", "_law_most"] (defScope s__law_is_whole) := ⟨rfl, rfl, rfl, by decide +kernel, rfl, by decide +kernel, by decide +kernel⟩
abbrev s__law_is_sum : Stmt := topS 19
theorem sc__law_is_sum : FnScope ["_law_thing", "_law_deep", "_law_many", "_law_part"] ["_law_thing", "_law_deep"] (defScope s__law_is_sum) := ⟨rfl, rfl, rfl, by decide +kernel, rfl, by decide +kernel, by decide +kernel⟩
abbrev s__law_odd : Stmt := topS 20
theorem sc__law_odd : FnScope ["_law_pot_here", "_law_some"] ["_law_pot_here"] (defScope s__law_odd) := ⟨rfl, rfl, rfl, by decide +kernel, rfl, by decide +kernel, by decide +kernel⟩
abbrev s__law_bent : Stmt := topS 21
theorem sc__law_bent : FnScope ["_law_pot_here", "_law_thing", "_law_at", "_law_way", "_law_word"] ["_law_pot_here", "_law_thing"] (defScope s__law_bent) := ⟨rfl, rfl, rfl, by decide +kernel, rfl, by decide +kernel, by decide +kernel⟩
abbrev s__law_right : Stmt := topS 22
theorem sc__law_right : FnScope ["_law_thing", "_law_kept", "_law_found"] ["_law_thing"] (defScope s__law_right) := ⟨rfl, rfl, rfl, by decide +kernel, rfl, by decide +kernel, by decide +kernel⟩
abbrev s_law : Stmt := topS 23
theorem sc_law : FnScope ["_law_script", "_law_pot_here", "_law_words_here", "_law_k", "_law_thing", "_law_turn", "_law_odd_here"] ["_law_script"] (defScope s_law) := ⟨rfl, rfl, rfl, by decide +kernel, rfl, by decide +kernel, by decide +kernel⟩
structure Txt (K : PySem.W.Frag) (mg : Str → Option Value) where
  a_is_word : Addr
  f_is_word : FuncData
  F_is_word : Fun K "is_word" "is_word" s_is_word a_is_word f_is_word
  b_is_word : Binds K f_is_word ["thing"] []
  m_is_word : mg "is_word" = some (.ref a_is_word)
  a_is_value : Addr
  f_is_value : FuncData
  F_is_value : Fun K "is_value" "is_value" s_is_value a_is_value f_is_value
  b_is_value : Binds K f_is_value ["thing"] []
  m_is_value : mg "is_value" = some (.ref a_is_value)
  a_is_sum_within : Addr
  f_is_sum_within : FuncData
  F_is_sum_within : Fun K "is_sum_within" "is_sum_within" s_is_sum_within a_is_sum_within f_is_sum_within
  b_is_sum_within : Binds K f_is_sum_within ["thing", "deep"] []
  m_is_sum_within : mg "is_sum_within" = some (.ref a_is_sum_within)
  a_is_sum : Addr
  f_is_sum : FuncData
  F_is_sum : Fun K "is_sum" "is_sum" s_is_sum a_is_sum f_is_sum
  b_is_sum : Binds K f_is_sum ["thing"] []
  m_is_sum : mg "is_sum" = some (.ref a_is_sum)
  a__law_pot : Addr
  f__law_pot : FuncData
  F__law_pot : Fun K "_law_pot" "_law_pot" s__law_pot a__law_pot f__law_pot
  b__law_pot : Binds K f__law_pot ["_law_script"] []
  m__law_pot : mg "_law_pot" = some (.ref a__law_pot)
  a__law_take : Addr
  f__law_take : FuncData
  F__law_take : Fun K "_law_take" "_law_take" s__law_take a__law_take f__law_take
  b__law_take : Binds K f__law_take ["_law_pot_here", "_law_many"] []
  m__law_take : mg "_law_take" = some (.ref a__law_take)
  a__law_of : Addr
  f__law_of : FuncData
  F__law_of : Fun K "_law_of" "_law_of" s__law_of a__law_of f__law_of
  b__law_of : Binds K f__law_of ["_law_pot_here", "_law_some"] []
  m__law_of : mg "_law_of" = some (.ref a__law_of)
  a__law_words : Addr
  f__law_words : FuncData
  F__law_words : Fun K "_law_words" "_law_words" s__law_words a__law_words f__law_words
  b__law_words : Binds K f__law_words ["_law_pot_here", "_law_many"] []
  m__law_words : mg "_law_words" = some (.ref a__law_words)
  a__law_bare : Addr
  f__law_bare : FuncData
  F__law_bare : Fun K "_law_bare" "_law_bare" s__law_bare a__law_bare f__law_bare
  b__law_bare : Binds K f__law_bare ["_law_pot_here", "_law_words_here", "_law_bells"] []
  m__law_bare : mg "_law_bare" = some (.ref a__law_bare)
  a__law_sum : Addr
  f__law_sum : FuncData
  F__law_sum : Fun K "_law_sum" "_law_sum" s__law_sum a__law_sum f__law_sum
  b__law_sum : Binds K f__law_sum ["_law_pot_here", "_law_words_here", "_law_bells", "_law_deep"] []
  m__law_sum : mg "_law_sum" = some (.ref a__law_sum)
  a__law_is_word : Addr
  f__law_is_word : FuncData
  F__law_is_word : Fun K "_law_is_word" "_law_is_word" s__law_is_word a__law_is_word f__law_is_word
  b__law_is_word : Binds K f__law_is_word ["_law_thing"] []
  m__law_is_word : mg "_law_is_word" = some (.ref a__law_is_word)
  a__law_is_whole : Addr
  f__law_is_whole : FuncData
  F__law_is_whole : Fun K "_law_is_whole" "_law_is_whole" s__law_is_whole a__law_is_whole f__law_is_whole
  b__law_is_whole : Binds K f__law_is_whole ["_law_thing", "_law_least", "_law_most"] []
  m__law_is_whole : mg "_law_is_whole" = some (.ref a__law_is_whole)
  a__law_is_sum : Addr
  f__law_is_sum : FuncData
  F__law_is_sum : Fun K "_law_is_sum" "_law_is_sum" s__law_is_sum a__law_is_sum f__law_is_sum
  b__law_is_sum : Binds K f__law_is_sum ["_law_thing", "_law_deep"] []
  m__law_is_sum : mg "_law_is_sum" = some (.ref a__law_is_sum)
  a__law_odd : Addr
  f__law_odd : FuncData
  F__law_odd : Fun K "_law_odd" "_law_odd" s__law_odd a__law_odd f__law_odd
  b__law_odd : Binds K f__law_odd ["_law_pot_here"] []
  m__law_odd : mg "_law_odd" = some (.ref a__law_odd)
  a__law_bent : Addr
  f__law_bent : FuncData
  F__law_bent : Fun K "_law_bent" "_law_bent" s__law_bent a__law_bent f__law_bent
  b__law_bent : Binds K f__law_bent ["_law_pot_here", "_law_thing"] []
  m__law_bent : mg "_law_bent" = some (.ref a__law_bent)
  a__law_right : Addr
  f__law_right : FuncData
  F__law_right : Fun K "_law_right" "_law_right" s__law_right a__law_right f__law_right
  b__law_right : Binds K f__law_right ["_law_thing"] []
  m__law_right : mg "_law_right" = some (.ref a__law_right)
  a_law : Addr
  f_law : FuncData
  F_law : Fun K "law" "law" s_law a_law f_law
  b_law : Binds K f_law ["_law_script"] []
  m_law : mg "law" = some (.ref a_law)
  z_all : mg "all" = none
  z_bool : mg "bool" = none
  z_int : mg "int" = none
  z_isinstance : mg "isinstance" = none
  z_len : mg "len" = none
  z_list : mg "list" = none
  z_max : mg "max" = none
  z_min : mg "min" = none
  z_range : mg "range" = none
  z_repr : mg "repr" = none
  z_str : mg "str" = none
  z_tuple : mg "tuple" = none
  c_LETTERS : Glob K mg "LETTERS" k_LETTERS
  c_MOST_DEEP : Glob K mg "MOST_DEEP" k_MOST_DEEP
  c_MOST_SIGNS : Glob K mg "MOST_SIGNS" k_MOST_SIGNS
  c_MOST_VALUE : Glob K mg "MOST_VALUE" k_MOST_VALUE
  c_TWO_PARTS : Glob K mg "TWO_PARTS" k_TWO_PARTS
variable {P : Program} {w : World} {K : PySem.W.Frag} {mg : Str → Option Value} {base : Heap} {k : Nat}
def r_is_word_0 : SM := (mRet (mC (.bl false)))
def r_is_word_1 : SM := (mRet (mArg gAll (mCons (mLc (mIter (mVar 0)) [1] (tgN 1) mYes (mBin gIn (mPeek 1) (mC k_LETTERS))) mNil)))
def r_is_word : SM := (mSeq (mIf (mOrT (mNotT (mAsT (mArg gIsi (mCons (mPeek 0) (mCons (mC (.ty .str)) mNil))))) (mNotT (mChainT gLe gLe (mC (.int 1)) (mArg gLen (mCons (mPeek 0) mNil)) (mC k_MOST_SIGNS)))) (r_is_word_0) mNext) (r_is_word_1))
theorem ok_is_word {sp : FSpec} (T : Txt K mg) 
    (h : ∀ args et R, sp args et R → r_is_word  (env0 ["thing", "sign"] args) et (retK R)) :
    FnOk P w K mg base CX0 (k + 1) T.a_is_word T.f_is_word ["thing"] (FS K mg 1 sp) :=
  have nd := sc_is_word.nd
  fn_ok T.F_is_word sc_is_word (fun cdv A outer s H E hr => (ss_cons (s_if (PW.pt (sW_or (sT_not (sT_val (sE_callB call_isi oA_isi rfl T.z_isinstance boot_isinstance (sAP_cons (sP_var (pv 0)) (sAP_cons (SimE.p (sE_ty (t := .str) rfl T.z_str boot_str)) sAP_nil))))) (sW_or1 (sT_not (sT_chain op_le op_le o2_le o2_le (SimE.p sE_int) (SimE.p (sE_callB call_len oA_len rfl T.z_len boot_len (sAP_cons (sP_var (pv 0)) sAP_nil))) (SimE.p (T.c_MOST_SIGNS.e rfl)) (fun h1 h2 h3 => pt_chain op_le op_le h1 h2 h3)))))) (ss_one (s_ret sE_bl)) ss_nil)
    (ss_one (s_ret (sE_callB (cr_all rfl) oA_all rfl T.z_all boot_all (sAP_cons (SimN.p (sN_lc (own := [("sign", 1)]) (g_name 1) (by simp) rfl nd (sI_any (sE_var (pv 0))) (blkOk_by (N := ["thing", "sign"]) (sc := defScope s_is_word) (by decide +kernel)) (fun _ _ _ _ _ => (pg_name (i := 1) nd rfl (by first | exact Or.inl rfl | exact Or.inr rfl))) (fun _ _ _ _ _ => pts_yes) (fun _ _ _ _ _ => (sE_cmp (op_inA hr.h65) o2_in (sP_var (pv 1)) (SimE.p (T.c_LETTERS.e rfl)) rfl)))) sAP_nil)))))) h
def r_is_value : SM := (mRet (mAndE (mArg gIsi (mCons (mPeek 0) (mCons (mC (.ty .int)) mNil))) (mAndE (mNotE (mArg gIsi (mCons (mPeek 0) (mCons (mC (.ty .bool)) mNil)))) (mChain gLe gLe (mC (.int 0)) (mPeek 0) (mC k_MOST_VALUE)))))
theorem ok_is_value {sp : FSpec} (T : Txt K mg) 
    (h : ∀ args et R, sp args et R → r_is_value  (env0 ["thing"] args) et (retK R)) :
    FnOk P w K mg base CX0 (k + 1) T.a_is_value T.f_is_value ["thing"] (FS K mg 1 sp) :=
  have nd := sc_is_value.nd
  fn_ok T.F_is_value sc_is_value (fun cdv A outer s H E hr => (ss_one (s_ret (sE_and (sE_callB call_isi oA_isi rfl T.z_isinstance boot_isinstance (sAP_cons (sP_var (pv 0)) (sAP_cons (SimE.p (sE_ty (t := .int) rfl T.z_int boot_int)) sAP_nil))) (sE_and (sE_not (sE_callB call_isi oA_isi rfl T.z_isinstance boot_isinstance (sAP_cons (sP_var (pv 0)) (sAP_cons (SimE.p (sE_ty (t := .bool) rfl T.z_bool boot_bool)) sAP_nil)))) (sE_one (sE_chain op_le op_le o2_le o2_le (SimE.p sE_int) (sP_var (pv 0)) (SimE.p (T.c_MOST_VALUE.e rfl))))))))) h
def r_is_sum_within_0 : SM := (mRet (mC (.bl false)))
def r_is_sum_within_2 (S_is_word : FSpec) (S_is_value : FSpec) : SM := (mRet (mOrE (mCall 1 S_is_value (mCons (mVar 0) mNil)) (mCall 1 S_is_word (mCons (mVar 0) mNil))))
def r_is_sum_within_4 : SM := (mRet (mC (.bl false)))
def r_is_sum_within_6 (S_is_word : FSpec) : SM := (mRet (mAndE (mBin gEq (mArg gLen (mCons (mPeek 0) mNil)) (mC (.int 2))) (mCall 1 S_is_word (mCons (mBin gIx (mPeek 0) (mC (.int 1))) mNil))))
def r_is_sum_within_8 (S_is_sum_within : FSpec) : SM := (mRet (mAndE (mBin gEq (mArg gLen (mCons (mPeek 0) mNil)) (mC (.int 2))) (mCall 2 S_is_sum_within (mCons (mBin gIx (mPeek 0) (mC (.int 1))) (mCons (mBin gSubI (mPeek 1) (mC (.int 1))) mNil)))))
def r_is_sum_within_10 : SM := (mRet (mC (.bl false)))
def r_is_sum_within_11 (S_is_sum_within : FSpec) : SM := (mRet (mAndE (mCall 2 S_is_sum_within (mCons (mBin gIx (mPeek 0) (mC (.int 1))) (mCons (mBin gSubI (mPeek 1) (mC (.int 1))) mNil))) (mCall 2 S_is_sum_within (mCons (mBin gIx (mPeek 0) (mC (.int 2))) (mCons (mBin gSubI (mPeek 1) (mC (.int 1))) mNil)))))
def r_is_sum_within_9 (S_is_sum_within : FSpec) : SM := (mSeq (mIf (mOrT (mBinT gNotIn (mBin gIx (mPeek 0) (mC (.int 0))) (mC k_TWO_PARTS)) (mBinT gNe (mArg gLen (mCons (mPeek 0) mNil)) (mC (.int 3)))) (r_is_sum_within_10) mNext) (r_is_sum_within_11 S_is_sum_within))
def r_is_sum_within_7 (S_is_sum_within : FSpec) : SM := (mSeq (mIf (mBinT gEq (mBin gIx (mPeek 0) (mC (.int 0))) (mC (.str "not"))) (r_is_sum_within_8 S_is_sum_within) mNext) (r_is_sum_within_9 S_is_sum_within))
def r_is_sum_within_5 (S_is_word : FSpec) (S_is_sum_within : FSpec) : SM := (mSeq (mIf (mBinT gEq (mBin gIx (mPeek 0) (mC (.int 0))) (mC (.str "waits"))) (r_is_sum_within_6 S_is_word) mNext) (r_is_sum_within_7 S_is_sum_within))
def r_is_sum_within_3 (S_is_word : FSpec) (S_is_sum_within : FSpec) : SM := (mSeq (mIf (mOrT (mBinT gLt (mArg gLen (mCons (mPeek 0) mNil)) (mC (.int 2))) (mNotT (mAsT (mArg gIsi (mCons (mBin gIx (mPeek 0) (mC (.int 0))) (mCons (mC (.ty .str)) mNil)))))) (r_is_sum_within_4) mNext) (r_is_sum_within_5 S_is_word S_is_sum_within))
def r_is_sum_within_1 (S_is_word : FSpec) (S_is_value : FSpec) (S_is_sum_within : FSpec) : SM := (mSeq (mIf (mNotT (mAsT (mArg gIsi (mCons (mPeek 0) (mCons (mC (.ty .tup)) mNil))))) (r_is_sum_within_2 S_is_word S_is_value) mNext) (r_is_sum_within_3 S_is_word S_is_sum_within))
def r_is_sum_within (S_is_word : FSpec) (S_is_value : FSpec) (S_is_sum_within : FSpec) : SM := (mSeq (mIf (mBinT gEq (mPeek 1) (mC (.int 0))) (r_is_sum_within_0) mNext) (r_is_sum_within_1 S_is_word S_is_value S_is_sum_within))
theorem ok_is_sum_within {S_is_word : FSpec} {S_is_value : FSpec} {S_is_sum_within : FSpec} {sp : FSpec} (T : Txt K mg) (G_is_word : FnOk P w K mg base CX0 k T.a_is_word T.f_is_word ["thing"] (FS K mg 1 S_is_word)) (G_is_value : FnOk P w K mg base CX0 k T.a_is_value T.f_is_value ["thing"] (FS K mg 1 S_is_value)) (G_is_sum_within : FnOk P w K mg base CX0 k T.a_is_sum_within T.f_is_sum_within ["thing", "deep"] (FS K mg 2 S_is_sum_within))
    (h : ∀ args et R, sp args et R → r_is_sum_within S_is_word S_is_value S_is_sum_within (env0 ["thing", "deep"] args) et (retK R)) :
    FnOk P w K mg base CX0 (k + 1) T.a_is_sum_within T.f_is_sum_within ["thing", "deep"] (FS K mg 2 sp) :=
  have nd := sc_is_sum_within.nd
  fn_ok T.F_is_sum_within sc_is_sum_within (fun cdv A outer s H E hr => (ss_cons (s_if (sT_cmp (op_eqA hr.h64) o2_eq (sP_var (pv 1)) (SimE.p sE_int) (nomark _)) (ss_one (s_ret sE_bl)) ss_nil)
    (ss_cons (s_if (sT_not (sT_val (sE_callB call_isi oA_isi rfl T.z_isinstance boot_isinstance (sAP_cons (sP_var (pv 0)) (sAP_cons (SimE.p (sE_ty (t := .tup) rfl T.z_tuple boot_tuple)) sAP_nil))))) (ss_one (s_ret (sE_or (sE_call G_is_value hr rfl T.m_is_value T.F_is_value.kp T.b_is_value (sA_cons (sE_var (pv 0)) sA_nil)) (sE_one (sE_call G_is_word hr rfl T.m_is_word T.F_is_word.kp T.b_is_word (sA_cons (sE_var (pv 0)) sA_nil)))))) ss_nil)
    (ss_cons (s_if (PW.pt (sW_or (sT_cmp op_ltA o2_lt (SimE.p (sE_callB call_len oA_len rfl T.z_len boot_len (sAP_cons (sP_var (pv 0)) sAP_nil))) (SimE.p sE_int) (nomark _)) (sW_or1 (sT_not (sT_val (sE_callB call_isi oA_isi rfl T.z_isinstance boot_isinstance (sAP_cons (SimE.p (sE_ix (sP_var (pv 0)) (SimE.p sE_int))) (sAP_cons (SimE.p (sE_ty (t := .str) rfl T.z_str boot_str)) sAP_nil)))))))) (ss_one (s_ret sE_bl)) ss_nil)
    (ss_cons (s_if (sT_cmp (op_eqA hr.h64) o2_eq (SimE.p (sE_ix (sP_var (pv 0)) (SimE.p sE_int))) (SimE.p sE_str) (nomark _)) (ss_one (s_ret (sE_and (sE_cmp (op_eqA hr.h64) o2_eq (SimE.p (sE_callB call_len oA_len rfl T.z_len boot_len (sAP_cons (sP_var (pv 0)) sAP_nil))) (SimE.p sE_int) (nomark _)) (sE_one (sE_call G_is_word hr rfl T.m_is_word T.F_is_word.kp T.b_is_word (sA_cons (sE_ix (sP_var (pv 0)) (SimE.p sE_int)) sA_nil)))))) ss_nil)
    (ss_cons (s_if (sT_cmp (op_eqA hr.h64) o2_eq (SimE.p (sE_ix (sP_var (pv 0)) (SimE.p sE_int))) (SimE.p sE_str) (nomark _)) (ss_one (s_ret (sE_and (sE_cmp (op_eqA hr.h64) o2_eq (SimE.p (sE_callB call_len oA_len rfl T.z_len boot_len (sAP_cons (sP_var (pv 0)) sAP_nil))) (SimE.p sE_int) (nomark _)) (sE_one (sE_call G_is_sum_within hr rfl T.m_is_sum_within T.F_is_sum_within.kp T.b_is_sum_within (sA_cons (sE_ix (sP_var (pv 0)) (SimE.p sE_int)) (sA_cons (sE_op op_sub o2_sub (sP_var (pv 1)) (SimE.p sE_int)) sA_nil))))))) ss_nil)
    (ss_cons (s_if (PW.pt (sW_or (sT_cmp (op_notInA hr.h65) o2_notIn (SimE.p (sE_ix (sP_var (pv 0)) (SimE.p sE_int))) (SimE.p (T.c_TWO_PARTS.e rfl)) rfl) (sW_or1 (sT_cmp (op_neA hr.h64) o2_ne (SimE.p (sE_callB call_len oA_len rfl T.z_len boot_len (sAP_cons (sP_var (pv 0)) sAP_nil))) (SimE.p sE_int) (nomark _))))) (ss_one (s_ret sE_bl)) ss_nil)
    (ss_one (s_ret (sE_and (sE_call G_is_sum_within hr rfl T.m_is_sum_within T.F_is_sum_within.kp T.b_is_sum_within (sA_cons (sE_ix (sP_var (pv 0)) (SimE.p sE_int)) (sA_cons (sE_op op_sub o2_sub (sP_var (pv 1)) (SimE.p sE_int)) sA_nil))) (sE_one (sE_call G_is_sum_within hr rfl T.m_is_sum_within T.F_is_sum_within.kp T.b_is_sum_within (sA_cons (sE_ix (sP_var (pv 0)) (SimE.p sE_int)) (sA_cons (sE_op op_sub o2_sub (sP_var (pv 1)) (SimE.p sE_int)) sA_nil)))))))))))))) h
def r_is_sum (S_is_sum_within : FSpec) : SM := (mRet (mCall 2 S_is_sum_within (mCons (mVar 0) (mCons (mC k_MOST_DEEP) mNil))))
theorem ok_is_sum {S_is_sum_within : FSpec} {sp : FSpec} (T : Txt K mg) (G_is_sum_within : FnOk P w K mg base CX0 k T.a_is_sum_within T.f_is_sum_within ["thing", "deep"] (FS K mg 2 S_is_sum_within))
    (h : ∀ args et R, sp args et R → r_is_sum S_is_sum_within (env0 ["thing"] args) et (retK R)) :
    FnOk P w K mg base CX0 (k + 1) T.a_is_sum T.f_is_sum ["thing"] (FS K mg 1 sp) :=
  have nd := sc_is_sum.nd
  fn_ok T.F_is_sum sc_is_sum (fun cdv A outer s H E hr => (ss_one (s_ret (sE_call G_is_sum_within hr rfl T.m_is_sum_within T.F_is_sum_within.kp T.b_is_sum_within (sA_cons (sE_var (pv 0)) (sA_cons (T.c_MOST_DEEP.e rfl) sA_nil)))))) h
def r__law_pot_1 : SM := (mSet 1 (mBin gMod (mBin gAdd (mBin gAdd (mBin gMul (mPeek 1) (mC (.int 1000003))) (mBin gMod (mPeek 2) (mBin gPow (mC (.int 10)) (mC (.int 30))))) (mC (.int 13))) (mC (.int 2305843009213693951))))
def r__law_pot_2 : SM := (mRet (mShare (mLst (mCons (mShare (mLc (mIter (mSl gSlA (mPeek 0) mO0 (mO1 (mC (.int 63))))) [2] (tgN 2) (mBinT gGe (mPeek 2) (mBin gPow (mC (.int 10)) (mC (.int 18)))) (mVar 2))) (mCons (mVar 1) (mCons (mC (.int 0)) mNil))))))
def r__law_pot_0 : SM := (mSeq (mFor (mIter (mSl gSlA (mPeek 0) mO0 (mO1 (mC (.int 63))))) (tgN 2) (r__law_pot_1)) (r__law_pot_2))
def r__law_pot : SM := (mSeq (mSet 1 (mBin gAdd (mArg gLen (mCons (mPeek 0) mNil)) (mC (.int 7)))) (r__law_pot_0))
theorem ok__law_pot {sp : FSpec} (T : Txt K mg) 
    (h : ∀ args et R, sp args et R → r__law_pot  (env0 ["_law_script", "_law_seed", "_law_cell"] args) et (retK R)) :
    FnOk P w K mg base CX0 (k + 1) T.a__law_pot T.f__law_pot ["_law_script"] (FS K mg 1 sp) :=
  have nd := sc__law_pot.nd
  fn_ok T.F__law_pot sc__law_pot (fun cdv A outer s H E hr => (ss_cons (s_set (i := 1) nd rfl (by first | exact Or.inl rfl | exact Or.inr rfl) (sE_op op_addA o2_add (SimE.p (sE_callB call_len oA_len rfl T.z_len boot_len (sAP_cons (sP_var (pv 0)) sAP_nil))) (SimE.p sE_int)))
    (ss_cons (s_for PassesOwn.never rfl (sI_any (sE_slA (sP_var (pv 0)) sO_none (sO_some sE_int))) (pg_name (i := 2) nd rfl (by first | exact Or.inl rfl | exact Or.inr rfl)) (g_name 2) (ss_one (s_set (i := 1) nd rfl (by first | exact Or.inl rfl | exact Or.inr rfl) (sE_op op_mod o2_mod (SimE.p (sE_op op_addA o2_add (SimE.p (sE_op op_addA o2_add (SimE.p (sE_op op_mul o2_mul (sP_var (pv 1)) (SimE.p sE_int))) (SimE.p (sE_op op_mod o2_mod (sP_var (pv 2)) (SimE.p (sE_op op_pow o2_pow (SimE.p sE_int) (SimE.p sE_int))))))) (SimE.p sE_int))) (SimE.p sE_int)))))
    (ss_one (s_ret (sE_share (sN_lst (sA_cons (sE_share (sN_lc (own := [("_law_cell", 2)]) (g_name 2) (by simp) rfl nd (sI_any (sE_slA (sP_var (pv 0)) sO_none (sO_some sE_int))) (blkOk_by (N := ["_law_script", "_law_seed", "_law_cell"]) (sc := defScope s__law_pot) (by decide +kernel)) (fun _ _ _ _ _ => (pg_name (i := 2) nd rfl (by first | exact Or.inl rfl | exact Or.inr rfl))) (fun _ _ _ _ _ => pts_if (sT_cmp op_ge o2_ge (sP_var (pv 2)) (SimE.p (sE_op op_pow o2_pow (SimE.p sE_int) (SimE.p sE_int))) (nomark _))) (fun _ _ _ _ _ => (sE_var (pv 2))))) (sA_cons (sE_var (pv 1)) (sA_cons sE_int sA_nil)))))))))) h
def r__law_take_0 : SM := (mExpr (mMutR gmPopAt (mBin gIx (mPeek 0) (mC (.int 0))) (mCons (mC (.int 0)) mNil)))
def r__law_take_4 : SM := (mRet (mVar 2))
def r__law_take_3 : SM := (mSeq (mSubSet (mBin gDiv (mBin gIx (mBin gIx (mPeek 0) (mC (.int 0))) (mC (.int 0))) (mPeek 1)) (mBin gIx (mPeek 0) (mC (.int 0))) (mC (.int 0))) (r__law_take_4))
def r__law_take_2 : SM := (mSeq (mSet 2 (mBin gMod (mBin gIx (mBin gIx (mPeek 0) (mC (.int 0))) (mC (.int 0))) (mPeek 1))) (r__law_take_3))
def r__law_take_8 : SM := (mRet (mBin gMod (mBin gAdd (mBin gDiv (mPeek 3) (mC (.int 97))) (mBin gDiv (mPeek 3) (mC (.int 1000033)))) (mPeek 1)))
def r__law_take_7 : SM := (mSeq (mSet 3 (mBin gMod (mBin gMul (mPeek 3) (mBin gAdd (mBin gMod (mPeek 3) (mC (.int 1000003))) (mBin gMul (mC (.int 99991)) (mBin gIx (mPeek 0) (mC (.int 2)))))) (mC (.int 2305843009213693907)))) (r__law_take_8))
def r__law_take_6 : SM := (mSeq (mSet 3 (mBin gMod (mBin gMul (mBin gAdd (mBin gAdd (mBin gIx (mPeek 0) (mC (.int 1))) (mBin gMul (mBin gMul (mC (.int 65537)) (mBin gIx (mPeek 0) (mC (.int 2)))) (mBin gIx (mPeek 0) (mC (.int 2))))) (mC (.int 11))) (mC (.int 48271))) (mC (.int 2305843009213693921)))) (r__law_take_7))
def r__law_take_5 : SM := (mSeq (mSubSet (mBin gAdd (mBin gIx (mPeek 0) (mC (.int 2))) (mC (.int 1))) (mVar 0) (mC (.int 2))) (r__law_take_6))
def r__law_take_1 : SM := (mSeq (mIf (mBinT gNe (mBin gIx (mPeek 0) (mC (.int 0))) (mLst mNil)) (r__law_take_2) mNext) (r__law_take_5))
def r__law_take : SM := (mSeq (mWhile (mAndT (mBinT gNe (mBin gIx (mPeek 0) (mC (.int 0))) (mLst mNil)) (mBinT gEq (mBin gIx (mBin gIx (mPeek 0) (mC (.int 0))) (mC (.int 0))) (mC (.int 0)))) (r__law_take_0)) (r__law_take_1))
theorem ok__law_take {sp : FSpec} (T : Txt K mg) 
    (h : ∀ args et R, sp args et R → r__law_take  (env0 ["_law_pot_here", "_law_many", "_law_digit", "_law_mixed"] args) et (retK R)) :
    FnOk P w K mg base CX0 (k + 1) T.a__law_take T.f__law_take ["_law_pot_here", "_law_many"] (FS K mg 2 sp) :=
  have nd := sc__law_take.nd
  fn_ok T.F__law_take sc__law_take (fun cdv A outer s H E hr => (ss_cons (s_while PassesOwn.never (PW.pt (sW_and (sT_cmp (op_neA hr.h64) o2_ne (SimE.p (sE_ix (sP_var (pv 0)) (SimE.p sE_int))) (SimN.p (sN_lst sA_nil)) (nomark _)) (sW_and1 (sT_cmp (op_eqA hr.h64) o2_eq (SimE.p (sE_ix (SimE.p (sE_ix (sP_var (pv 0)) (SimE.p sE_int))) (SimE.p sE_int))) (SimE.p sE_int) (nomark _))))) (ss_one (s_expr (sE_mutR mo_popAt (sE_ix (sP_var (pv 0)) (SimE.p sE_int)) (sA_cons sE_int sA_nil) (fun h1 h2 => pe_bm PySem.F.plainAttrs_list PySem.F.slot_list_pop PySem.F.type_list_pop mt_popAt h1 h2)))))
    (ss_cons (s_if (sT_cmp (op_neA hr.h64) o2_ne (SimE.p (sE_ix (sP_var (pv 0)) (SimE.p sE_int))) (SimN.p (sN_lst sA_nil)) (nomark _)) (ss_cons (s_set (i := 2) nd rfl (by first | exact Or.inl rfl | exact Or.inr rfl) (sE_op op_mod o2_mod (SimE.p (sE_ix (SimE.p (sE_ix (sP_var (pv 0)) (SimE.p sE_int))) (SimE.p sE_int))) (sP_var (pv 1))))
    (ss_cons (s_subSet (sE_op op_fdiv o2_div (SimE.p (sE_ix (SimE.p (sE_ix (sP_var (pv 0)) (SimE.p sE_int))) (SimE.p sE_int))) (sP_var (pv 1))) (sE_ix (sP_var (pv 0)) (SimE.p sE_int)) sE_int (fun h1 h2 h3 => ps_asg h1 (pg_sub h2 h3 set_list)))
    (ss_one (s_ret (sE_var (pv 2)))))) ss_nil)
    (ss_cons (s_subSet (sE_op op_addA o2_add (SimE.p (sE_ix (sP_var (pv 0)) (SimE.p sE_int))) (SimE.p sE_int)) (sE_var (pv 0)) sE_int (fun h1 h2 h3 => ps_asg h1 (pg_sub h2 h3 set_list)))
    (ss_cons (s_set (i := 3) nd rfl (by first | exact Or.inl rfl | exact Or.inr rfl) (sE_op op_mod o2_mod (SimE.p (sE_op op_mul o2_mul (SimE.p (sE_op op_addA o2_add (SimE.p (sE_op op_addA o2_add (SimE.p (sE_ix (sP_var (pv 0)) (SimE.p sE_int))) (SimE.p (sE_op op_mul o2_mul (SimE.p (sE_op op_mul o2_mul (SimE.p sE_int) (SimE.p (sE_ix (sP_var (pv 0)) (SimE.p sE_int))))) (SimE.p (sE_ix (sP_var (pv 0)) (SimE.p sE_int))))))) (SimE.p sE_int))) (SimE.p sE_int))) (SimE.p sE_int)))
    (ss_cons (s_set (i := 3) nd rfl (by first | exact Or.inl rfl | exact Or.inr rfl) (sE_op op_mod o2_mod (SimE.p (sE_op op_mul o2_mul (sP_var (pv 3)) (SimE.p (sE_op op_addA o2_add (SimE.p (sE_op op_mod o2_mod (sP_var (pv 3)) (SimE.p sE_int))) (SimE.p (sE_op op_mul o2_mul (SimE.p sE_int) (SimE.p (sE_ix (sP_var (pv 0)) (SimE.p sE_int))))))))) (SimE.p sE_int)))
    (ss_one (s_ret (sE_op op_mod o2_mod (SimE.p (sE_op op_addA o2_add (SimE.p (sE_op op_fdiv o2_div (sP_var (pv 3)) (SimE.p sE_int))) (SimE.p (sE_op op_fdiv o2_div (sP_var (pv 3)) (SimE.p sE_int))))) (sP_var (pv 1))))))))))) h
def r__law_of (S__law_take : FSpec) : SM := (mRet (mBin gIx (mPeek 1) (mCall 2 S__law_take (mCons (mVar 0) (mCons (mArg gLen (mCons (mPeek 1) mNil)) mNil)))))
theorem ok__law_of {S__law_take : FSpec} {sp : FSpec} (T : Txt K mg) (G__law_take : FnOk P w K mg base CX0 k T.a__law_take T.f__law_take ["_law_pot_here", "_law_many"] (FS K mg 2 S__law_take))
    (h : ∀ args et R, sp args et R → r__law_of S__law_take (env0 ["_law_pot_here", "_law_some"] args) et (retK R)) :
    FnOk P w K mg base CX0 (k + 1) T.a__law_of T.f__law_of ["_law_pot_here", "_law_some"] (FS K mg 2 sp) :=
  have nd := sc__law_of.nd
  fn_ok T.F__law_of sc__law_of (fun cdv A outer s H E hr => (ss_one (s_ret (sE_ix (sP_var (pv 1)) (SimE.p (sE_call G__law_take hr rfl T.m__law_take T.F__law_take.kp T.b__law_take (sA_cons (sE_var (pv 0)) (sA_cons (sE_callB call_len oA_len rfl T.z_len boot_len (sAP_cons (sP_var (pv 1)) sAP_nil)) sA_nil)))))))) h
def r__law_words_5 : SM := (mExprX (mMut 6 gmAppend (mCons (mBin gAdd (mPeek 8) (mBin gIx (mPeek 5) (mBin gMod (mBin gAdd (mPeek 3) (mBin gMul (mPeek 7) (mPeek 7))) (mC (.int 5))))) mNil)))
def r__law_words_4 : SM := (mSeq (mSet 8 (mBin gIx (mPeek 2) (mBin gMod (mBin gAdd (mPeek 3) (mBin gMul (mPeek 4) (mPeek 7))) (mC (.int 26))))) (r__law_words_5))
def r__law_words_6 : SM := (mFrz [6] (mRet (mVar 6)))
def r__law_words_3 : SM := (mSeq (mFor (mRng1 (mCons (mVar 1) mNil)) (tgN 7) (r__law_words_4)) (r__law_words_6))
def r__law_words_2 : SM := (mSeq (mSetN 6 (mLst mNil)) (r__law_words_3))
def r__law_words_1 : SM := (mSeq (mSet 5 (mLst (mCons (mC (.str "")) (mCons (mC (.str "zq")) (mCons (mC (.str "x")) (mCons (mC (.str "qqzzx")) (mCons (mC (.str "zqzqzqz")) mNil))))))) (r__law_words_2))
def r__law_words_0 (S__law_of : FSpec) (S__law_take : FSpec) : SM := (mSeq (mPar 3 4 (mCons (mCall 2 S__law_take (mCons (mVar 0) (mCons (mC (.int 26)) mNil))) (mCons (mCall 2 S__law_of (mCons (mVar 0) (mCons (mLst (mCons (mC (.int 1)) (mCons (mC (.int 3)) (mCons (mC (.int 5)) (mCons (mC (.int 7)) (mCons (mC (.int 9)) (mCons (mC (.int 11)) mNil))))))) mNil))) mNil))) (r__law_words_1))
def r__law_words (S__law_of : FSpec) (S__law_take : FSpec) : SM := (mSeq (mSet 2 (mC (.str "abcdefghijklmnopqrstuvwxyz"))) (r__law_words_0 S__law_of S__law_take))
theorem ok__law_words {S__law_of : FSpec} {S__law_take : FSpec} {sp : FSpec} (T : Txt K mg) (G__law_of : FnOk P w K mg base CX0 k T.a__law_of T.f__law_of ["_law_pot_here", "_law_some"] (FS K mg 2 S__law_of)) (G__law_take : FnOk P w K mg base CX0 k T.a__law_take T.f__law_take ["_law_pot_here", "_law_many"] (FS K mg 2 S__law_take))
    (h : ∀ args et R, sp args et R → r__law_words S__law_of S__law_take (env0 ["_law_pot_here", "_law_many", "_law_letters", "_law_first", "_law_turn", "_law_ends", "_law_found", "_law_k", "_law_sign"] args) et (retK R)) :
    FnOk P w K mg base CX0 (k + 1) T.a__law_words T.f__law_words ["_law_pot_here", "_law_many"] (FS K mg 2 sp) :=
  have nd := sc__law_words.nd
  fn_ok T.F__law_words sc__law_words (fun cdv A outer s H E hr => (ss_cons (s_set (i := 2) nd rfl (by first | exact Or.inl rfl | exact Or.inr rfl) sE_str)
    (ss_cons (two_par (i := 3) (j := 4) rfl nd rfl rfl (by decide) (fun h => ps_par rfl nd rfl rfl (by decide) rfl rfl h rfl) (sA_cons (sE_call G__law_take hr rfl T.m__law_take T.F__law_take.kp T.b__law_take (sA_cons (sE_var (pv 0)) (sA_cons sE_int sA_nil))) (sA_cons (sE_call G__law_of hr rfl T.m__law_of T.F__law_of.kp T.b__law_of (sA_cons (sE_var (pv 0)) (sA_cons (SimN.e (sN_lst (sA_cons sE_int (sA_cons sE_int (sA_cons sE_int (sA_cons sE_int (sA_cons sE_int (sA_cons sE_int sA_nil)))))))) sA_nil))) sA_nil)))
    (ss_cons (s_set (i := 5) nd rfl (by first | exact Or.inl rfl | exact Or.inr rfl) (SimN.e (sN_lst (sA_cons sE_str (sA_cons sE_str (sA_cons sE_str (sA_cons sE_str (sA_cons sE_str sA_nil))))))))
    (ss_cons (s_setN (i := 6) nd rfl (by first | exact Or.inl rfl | exact Or.inr rfl) (sN_lst sA_nil))
    (ss_cons (s_for PassesOwn.never rfl (sI_rng1 rfl T.z_range (sA_cons (sE_var (pv 1)) sA_nil)) (pg_name (i := 7) nd rfl (by first | exact Or.inl rfl | exact Or.inr rfl)) (g_name 7) (ss_cons (s_set (i := 8) nd rfl (by first | exact Or.inl rfl | exact Or.inr rfl) (sE_ix (sP_var (pv 2)) (SimE.p (sE_op op_mod o2_mod (SimE.p (sE_op op_addA o2_add (sP_var (pv 3)) (SimE.p (sE_op op_mul o2_mul (sP_var (pv 4)) (sP_var (pv 7)))))) (SimE.p sE_int)))))
    (ss_one (s_exprX (sX_mut PySem.F.slot_list_append PySem.F.type_list_append mt_append mo_append (pv 6) (sA_cons (sE_op op_addA o2_add (sP_var (pv 8)) (SimE.p (sE_ix (sP_var (pv 5)) (SimE.p (sE_op op_mod o2_mod (SimE.p (sE_op op_addA o2_add (sP_var (pv 3)) (SimE.p (sE_op op_mul o2_mul (sP_var (pv 7)) (sP_var (pv 7)))))) (SimE.p sE_int)))))) sA_nil) (fun h1 h2 => pe_bm PySem.F.plainAttrs_list PySem.F.slot_list_append PySem.F.type_list_append mt_append h1 h2))))))
    (ss_one (s_frz [6] (s_ret (sE_var (pv 6))))))))))) h
def r__law_bare_1 (S__law_of : FSpec) : SM := (mRet (mCall 2 S__law_of (mCons (mVar 0) (mCons (mVar 1) mNil))))
def r__law_bare_3 (S__law_of : FSpec) : SM := (mRet (mTup (mCons (mC (.str "waits")) (mCons (mCall 2 S__law_of (mCons (mVar 0) (mCons (mVar 2) mNil))) mNil))))
def r__law_bare_4 (S__law_take : FSpec) : SM := (mRet (mCall 2 S__law_take (mCons (mVar 0) (mCons (mBin gIx (mLst (mCons (mC (.int 3)) (mCons (mC (.int 10)) mNil))) (mCall 2 S__law_take (mCons (mVar 0) (mCons (mC (.int 2)) mNil)))) mNil))))
def r__law_bare_2 (S__law_take : FSpec) (S__law_of : FSpec) : SM := (mSeq (mIf (mAndT (mBinT gEq (mPeek 3) (mC (.int 2))) (mBinT gNe (mPeek 2) (mLst mNil))) (r__law_bare_3 S__law_of) mNext) (r__law_bare_4 S__law_take))
def r__law_bare_0 (S__law_take : FSpec) (S__law_of : FSpec) : SM := (mSeq (mIf (mAndT (mBinT gLt (mPeek 3) (mC (.int 2))) (mBinT gNe (mPeek 1) (mLst mNil))) (r__law_bare_1 S__law_of) mNext) (r__law_bare_2 S__law_take S__law_of))
def r__law_bare (S__law_take : FSpec) (S__law_of : FSpec) : SM := (mSeq (mSet 3 (mCall 2 S__law_take (mCons (mVar 0) (mCons (mC (.int 6)) mNil)))) (r__law_bare_0 S__law_take S__law_of))
theorem ok__law_bare {S__law_take : FSpec} {S__law_of : FSpec} {sp : FSpec} (T : Txt K mg) (G__law_take : FnOk P w K mg base CX0 k T.a__law_take T.f__law_take ["_law_pot_here", "_law_many"] (FS K mg 2 S__law_take)) (G__law_of : FnOk P w K mg base CX0 k T.a__law_of T.f__law_of ["_law_pot_here", "_law_some"] (FS K mg 2 S__law_of))
    (h : ∀ args et R, sp args et R → r__law_bare S__law_take S__law_of (env0 ["_law_pot_here", "_law_words_here", "_law_bells", "_law_way"] args) et (retK R)) :
    FnOk P w K mg base CX0 (k + 1) T.a__law_bare T.f__law_bare ["_law_pot_here", "_law_words_here", "_law_bells"] (FS K mg 3 sp) :=
  have nd := sc__law_bare.nd
  fn_ok T.F__law_bare sc__law_bare (fun cdv A outer s H E hr => (ss_cons (s_set (i := 3) nd rfl (by first | exact Or.inl rfl | exact Or.inr rfl) (sE_call G__law_take hr rfl T.m__law_take T.F__law_take.kp T.b__law_take (sA_cons (sE_var (pv 0)) (sA_cons sE_int sA_nil))))
    (ss_cons (s_if (PW.pt (sW_and (sT_cmp op_ltA o2_lt (sP_var (pv 3)) (SimE.p sE_int) (nomark _)) (sW_and1 (sT_cmp (op_neA hr.h64) o2_ne (sP_var (pv 1)) (SimN.p (sN_lst sA_nil)) (nomark _))))) (ss_one (s_ret (sE_call G__law_of hr rfl T.m__law_of T.F__law_of.kp T.b__law_of (sA_cons (sE_var (pv 0)) (sA_cons (sE_var (pv 1)) sA_nil))))) ss_nil)
    (ss_cons (s_if (PW.pt (sW_and (sT_cmp (op_eqA hr.h64) o2_eq (sP_var (pv 3)) (SimE.p sE_int) (nomark _)) (sW_and1 (sT_cmp (op_neA hr.h64) o2_ne (sP_var (pv 2)) (SimN.p (sN_lst sA_nil)) (nomark _))))) (ss_one (s_ret (sE_tup (sA_cons sE_str (sA_cons (sE_call G__law_of hr rfl T.m__law_of T.F__law_of.kp T.b__law_of (sA_cons (sE_var (pv 0)) (sA_cons (sE_var (pv 2)) sA_nil))) sA_nil))))) ss_nil)
    (ss_one (s_ret (sE_call G__law_take hr rfl T.m__law_take T.F__law_take.kp T.b__law_take (sA_cons (sE_var (pv 0)) (sA_cons (sE_ix (SimN.p (sN_lst (sA_cons sE_int (sA_cons sE_int sA_nil)))) (SimE.p (sE_call G__law_take hr rfl T.m__law_take T.F__law_take.kp T.b__law_take (sA_cons (sE_var (pv 0)) (sA_cons sE_int sA_nil))))) sA_nil))))))))) h
def r__law_sum_1 (S__law_bare : FSpec) : SM := (mRet (mCall 3 S__law_bare (mCons (mVar 0) (mCons (mVar 1) (mCons (mVar 2) mNil)))))
def r__law_sum_3 (S__law_sum : FSpec) : SM := (mRet (mTup (mCons (mC (.str "not")) (mCons (mCall 4 S__law_sum (mCons (mVar 0) (mCons (mVar 1) (mCons (mVar 2) (mCons (mBin gSubI (mPeek 3) (mC (.int 1))) mNil))))) mNil))))
def r__law_sum_5 (S__law_sum : FSpec) : SM := (mRet (mTup (mCons (mVar 5) (mCons (mCall 4 S__law_sum (mCons (mVar 0) (mCons (mVar 1) (mCons (mVar 2) (mCons (mBin gSubI (mPeek 3) (mC (.int 1))) mNil))))) (mCons (mCall 4 S__law_sum (mCons (mVar 0) (mCons (mVar 1) (mCons (mVar 2) (mCons (mBin gSubI (mPeek 3) (mC (.int 1))) mNil))))) mNil)))))
def r__law_sum_4 (S__law_sum : FSpec) (S__law_of : FSpec) : SM := (mSeq (mSet 5 (mCall 2 S__law_of (mCons (mVar 0) (mCons (mLst (mCons (mC (.str "plus")) (mCons (mC (.str "minus")) (mCons (mC (.str "less")) (mCons (mC (.str "same")) (mCons (mC (.str "both")) mNil)))))) mNil)))) (r__law_sum_5 S__law_sum))
def r__law_sum_2 (S__law_sum : FSpec) (S__law_of : FSpec) : SM := (mSeq (mIf (mBinT gEq (mPeek 4) (mC (.int 2))) (r__law_sum_3 S__law_sum) mNext) (r__law_sum_4 S__law_sum S__law_of))
def r__law_sum_0 (S__law_bare : FSpec) (S__law_sum : FSpec) (S__law_of : FSpec) : SM := (mSeq (mIf (mOrT (mBinT gLt (mPeek 3) (mC (.int 2))) (mBinT gLt (mPeek 4) (mC (.int 2)))) (r__law_sum_1 S__law_bare) mNext) (r__law_sum_2 S__law_sum S__law_of))
def r__law_sum (S__law_take : FSpec) (S__law_bare : FSpec) (S__law_sum : FSpec) (S__law_of : FSpec) : SM := (mSeq (mSet 4 (mCall 2 S__law_take (mCons (mVar 0) (mCons (mC (.int 8)) mNil)))) (r__law_sum_0 S__law_bare S__law_sum S__law_of))
theorem ok__law_sum {S__law_take : FSpec} {S__law_bare : FSpec} {S__law_sum : FSpec} {S__law_of : FSpec} {sp : FSpec} (T : Txt K mg) (G__law_take : FnOk P w K mg base CX0 k T.a__law_take T.f__law_take ["_law_pot_here", "_law_many"] (FS K mg 2 S__law_take)) (G__law_bare : FnOk P w K mg base CX0 k T.a__law_bare T.f__law_bare ["_law_pot_here", "_law_words_here", "_law_bells"] (FS K mg 3 S__law_bare)) (G__law_sum : FnOk P w K mg base CX0 k T.a__law_sum T.f__law_sum ["_law_pot_here", "_law_words_here", "_law_bells", "_law_deep"] (FS K mg 4 S__law_sum)) (G__law_of : FnOk P w K mg base CX0 k T.a__law_of T.f__law_of ["_law_pot_here", "_law_some"] (FS K mg 2 S__law_of))
    (h : ∀ args et R, sp args et R → r__law_sum S__law_take S__law_bare S__law_sum S__law_of (env0 ["_law_pot_here", "_law_words_here", "_law_bells", "_law_deep", "_law_way", "_law_word"] args) et (retK R)) :
    FnOk P w K mg base CX0 (k + 1) T.a__law_sum T.f__law_sum ["_law_pot_here", "_law_words_here", "_law_bells", "_law_deep"] (FS K mg 4 sp) :=
  have nd := sc__law_sum.nd
  fn_ok T.F__law_sum sc__law_sum (fun cdv A outer s H E hr => (ss_cons (s_set (i := 4) nd rfl (by first | exact Or.inl rfl | exact Or.inr rfl) (sE_call G__law_take hr rfl T.m__law_take T.F__law_take.kp T.b__law_take (sA_cons (sE_var (pv 0)) (sA_cons sE_int sA_nil))))
    (ss_cons (s_if (PW.pt (sW_or (sT_cmp op_ltA o2_lt (sP_var (pv 3)) (SimE.p sE_int) (nomark _)) (sW_or1 (sT_cmp op_ltA o2_lt (sP_var (pv 4)) (SimE.p sE_int) (nomark _))))) (ss_one (s_ret (sE_call G__law_bare hr rfl T.m__law_bare T.F__law_bare.kp T.b__law_bare (sA_cons (sE_var (pv 0)) (sA_cons (sE_var (pv 1)) (sA_cons (sE_var (pv 2)) sA_nil)))))) ss_nil)
    (ss_cons (s_if (sT_cmp (op_eqA hr.h64) o2_eq (sP_var (pv 4)) (SimE.p sE_int) (nomark _)) (ss_one (s_ret (sE_tup (sA_cons sE_str (sA_cons (sE_call G__law_sum hr rfl T.m__law_sum T.F__law_sum.kp T.b__law_sum (sA_cons (sE_var (pv 0)) (sA_cons (sE_var (pv 1)) (sA_cons (sE_var (pv 2)) (sA_cons (sE_op op_sub o2_sub (sP_var (pv 3)) (SimE.p sE_int)) sA_nil))))) sA_nil))))) ss_nil)
    (ss_cons (s_set (i := 5) nd rfl (by first | exact Or.inl rfl | exact Or.inr rfl) (sE_call G__law_of hr rfl T.m__law_of T.F__law_of.kp T.b__law_of (sA_cons (sE_var (pv 0)) (sA_cons (SimN.e (sN_lst (sA_cons sE_str (sA_cons sE_str (sA_cons sE_str (sA_cons sE_str (sA_cons sE_str sA_nil))))))) sA_nil))))
    (ss_one (s_ret (sE_tup (sA_cons (sE_var (pv 5)) (sA_cons (sE_call G__law_sum hr rfl T.m__law_sum T.F__law_sum.kp T.b__law_sum (sA_cons (sE_var (pv 0)) (sA_cons (sE_var (pv 1)) (sA_cons (sE_var (pv 2)) (sA_cons (sE_op op_sub o2_sub (sP_var (pv 3)) (SimE.p sE_int)) sA_nil))))) (sA_cons (sE_call G__law_sum hr rfl T.m__law_sum T.F__law_sum.kp T.b__law_sum (sA_cons (sE_var (pv 0)) (sA_cons (sE_var (pv 1)) (sA_cons (sE_var (pv 2)) (sA_cons (sE_op op_sub o2_sub (sP_var (pv 3)) (SimE.p sE_int)) sA_nil))))) sA_nil))))))))))) h
def r__law_is_word_0 : SM := (mRet (mC (.bl false)))
def r__law_is_word_1 : SM := (mRet (mBin gEq (mMeth .str gStripChars (mPeek 0) (mCons (mC (.str "abcdefghijklmnopqrstuvwxyz")) mNil)) (mC (.str ""))))
def r__law_is_word : SM := (mSeq (mIf (mOrT (mNotT (mAsT (mArg gIsi (mCons (mPeek 0) (mCons (mC (.ty .str)) mNil))))) (mOrT (mBinT gEq (mArg gLen (mCons (mPeek 0) mNil)) (mC (.int 0))) (mBinT gGt (mArg gLen (mCons (mPeek 0) mNil)) (mC (.int 8))))) (r__law_is_word_0) mNext) (r__law_is_word_1))
theorem ok__law_is_word {sp : FSpec} (T : Txt K mg) 
    (h : ∀ args et R, sp args et R → r__law_is_word  (env0 ["_law_thing"] args) et (retK R)) :
    FnOk P w K mg base CX0 (k + 1) T.a__law_is_word T.f__law_is_word ["_law_thing"] (FS K mg 1 sp) :=
  have nd := sc__law_is_word.nd
  fn_ok T.F__law_is_word sc__law_is_word (fun cdv A outer s H E hr => (ss_cons (s_if (PW.pt (sW_or (sT_not (sT_val (sE_callB call_isi oA_isi rfl T.z_isinstance boot_isinstance (sAP_cons (sP_var (pv 0)) (sAP_cons (SimE.p (sE_ty (t := .str) rfl T.z_str boot_str)) sAP_nil))))) (sW_or (sT_cmp (op_eqA hr.h64) o2_eq (SimE.p (sE_callB call_len oA_len rfl T.z_len boot_len (sAP_cons (sP_var (pv 0)) sAP_nil))) (SimE.p sE_int) (nomark _)) (sW_or1 (sT_cmp op_gt o2_gt (SimE.p (sE_callB call_len oA_len rfl T.z_len boot_len (sAP_cons (sP_var (pv 0)) sAP_nil))) (SimE.p sE_int) (nomark _)))))) (ss_one (s_ret sE_bl)) ss_nil)
    (ss_one (s_ret (sE_cmp (op_eqA hr.h64) o2_eq (SimE.p (sE_bm (t := .str) oM_stripChars (sP_var (pv 0)) (sAP_cons (SimE.p sE_str) sAP_nil) (fun h1 h2 => pe_bm PySem.F.plainAttrs_str PySem.F.slot_str_strip PySem.F.type_str_strip mt_stripChars h1 h2))) (SimE.p sE_str) (nomark _)))))) h
def r__law_is_whole : SM := (mRet (mAndE (mArg gIsi (mCons (mPeek 0) (mCons (mC (.ty .int)) mNil))) (mAndE (mNotE (mArg gIsi (mCons (mPeek 0) (mCons (mC (.ty .bool)) mNil)))) (mChain gLe gLe (mPeek 1) (mPeek 0) (mPeek 2)))))
theorem ok__law_is_whole {sp : FSpec} (T : Txt K mg) 
    (h : ∀ args et R, sp args et R → r__law_is_whole  (env0 ["_law_thing", "_law_least", "_law_most"] args) et (retK R)) :
    FnOk P w K mg base CX0 (k + 1) T.a__law_is_whole T.f__law_is_whole ["_law_thing", "_law_least", "_law_most"] (FS K mg 3 sp) :=
  have nd := sc__law_is_whole.nd
  fn_ok T.F__law_is_whole sc__law_is_whole (fun cdv A outer s H E hr => (ss_one (s_ret (sE_and (sE_callB call_isi oA_isi rfl T.z_isinstance boot_isinstance (sAP_cons (sP_var (pv 0)) (sAP_cons (SimE.p (sE_ty (t := .int) rfl T.z_int boot_int)) sAP_nil))) (sE_and (sE_not (sE_callB call_isi oA_isi rfl T.z_isinstance boot_isinstance (sAP_cons (sP_var (pv 0)) (sAP_cons (SimE.p (sE_ty (t := .bool) rfl T.z_bool boot_bool)) sAP_nil)))) (sE_one (sE_chain op_le op_le o2_le o2_le (sP_var (pv 1)) (sP_var (pv 0)) (sP_var (pv 2))))))))) h
def r__law_is_sum_0 : SM := (mRet (mC (.bl false)))
def r__law_is_sum_2 (S__law_is_word : FSpec) (S__law_is_whole : FSpec) : SM := (mRet (mOrE (mCall 3 S__law_is_whole (mCons (mVar 0) (mCons (mC (.int 0)) (mCons (mC (.int 9)) mNil)))) (mCall 1 S__law_is_word (mCons (mVar 0) mNil))))
def r__law_is_sum_4 : SM := (mRet (mC (.bl false)))
def r__law_is_sum_6 (S__law_is_word : FSpec) : SM := (mRet (mAndE (mBin gEqX (mArg gLen (mCons (mPeek 0) mNil)) (mC (.int 2))) (mCall 1 S__law_is_word (mCons (mBin gIx (mPeek 0) (mC (.int 1))) mNil))))
def r__law_is_sum_8 (S__law_is_sum : FSpec) : SM := (mRet (mAndE (mBin gEqX (mArg gLen (mCons (mPeek 0) mNil)) (mBin gAdd (mC (.int 1)) (mPeek 2))) (mArg gAll (mCons (mLc (mIter (mSl gSlA (mPeek 0) (mO1 (mC (.int 1))) mO0)) [3] (tgN 3) mYes (mCall 2 S__law_is_sum (mCons (mVar 3) (mCons (mBin gSubI (mPeek 1) (mC (.int 1))) mNil)))) mNil))))
def r__law_is_sum_7 (S__law_is_sum : FSpec) : SM := (mSeq (mSet 2 (mDGet2 (mDisp (mDcons (mC (.str "not")) (mC (.int 1)) (mDcons (mC (.str "plus")) (mC (.int 2)) (mDcons (mC (.str "minus")) (mC (.int 2)) (mDcons (mC (.str "less")) (mC (.int 2)) (mDcons (mC (.str "same")) (mC (.int 2)) (mDcons (mC (.str "both")) (mC (.int 2)) mDnil))))))) (mBin gIx (mPeek 0) (mC (.int 0))) (mUn gNeg (mC (.int 1))))) (r__law_is_sum_8 S__law_is_sum))
def r__law_is_sum_5 (S__law_is_word : FSpec) (S__law_is_sum : FSpec) : SM := (mSeq (mIf (mBinT gEqX (mBin gIx (mPeek 0) (mC (.int 0))) (mC (.str "waits"))) (r__law_is_sum_6 S__law_is_word) mNext) (r__law_is_sum_7 S__law_is_sum))
def r__law_is_sum_3 (S__law_is_word : FSpec) (S__law_is_sum : FSpec) : SM := (mSeq (mIf (mOrT (mBinT gEqX (mPeek 0) (mTup mNil)) (mNotT (mAsT (mArg gIsi (mCons (mBin gIx (mPeek 0) (mC (.int 0))) (mCons (mC (.ty .str)) mNil)))))) (r__law_is_sum_4) mNext) (r__law_is_sum_5 S__law_is_word S__law_is_sum))
def r__law_is_sum_1 (S__law_is_word : FSpec) (S__law_is_whole : FSpec) (S__law_is_sum : FSpec) : SM := (mSeq (mIf (mNotT (mAsT (mArg gIsi (mCons (mPeek 0) (mCons (mC (.ty .tup)) mNil))))) (r__law_is_sum_2 S__law_is_word S__law_is_whole) mNext) (r__law_is_sum_3 S__law_is_word S__law_is_sum))
def r__law_is_sum (S__law_is_word : FSpec) (S__law_is_whole : FSpec) (S__law_is_sum : FSpec) : SM := (mSeq (mIf (mBinT gLt (mPeek 1) (mC (.int 1))) (r__law_is_sum_0) mNext) (r__law_is_sum_1 S__law_is_word S__law_is_whole S__law_is_sum))
theorem ok__law_is_sum {S__law_is_word : FSpec} {S__law_is_whole : FSpec} {S__law_is_sum : FSpec} {sp : FSpec} (T : Txt K mg) (G__law_is_word : FnOk P w K mg base CX0 k T.a__law_is_word T.f__law_is_word ["_law_thing"] (FS K mg 1 S__law_is_word)) (G__law_is_whole : FnOk P w K mg base CX0 k T.a__law_is_whole T.f__law_is_whole ["_law_thing", "_law_least", "_law_most"] (FS K mg 3 S__law_is_whole)) (G__law_is_sum : FnOk P w K mg base CX0 k T.a__law_is_sum T.f__law_is_sum ["_law_thing", "_law_deep"] (FS K mg 2 S__law_is_sum))
    (h : ∀ args et R, sp args et R → r__law_is_sum S__law_is_word S__law_is_whole S__law_is_sum (env0 ["_law_thing", "_law_deep", "_law_many", "_law_part"] args) et (retK R)) :
    FnOk P w K mg base CX0 (k + 1) T.a__law_is_sum T.f__law_is_sum ["_law_thing", "_law_deep"] (FS K mg 2 sp) :=
  have nd := sc__law_is_sum.nd
  fn_ok T.F__law_is_sum sc__law_is_sum (fun cdv A outer s H E hr => (ss_cons (s_if (sT_cmp op_ltA o2_lt (sP_var (pv 1)) (SimE.p sE_int) (nomark _)) (ss_one (s_ret sE_bl)) ss_nil)
    (ss_cons (s_if (sT_not (sT_val (sE_callB call_isi oA_isi rfl T.z_isinstance boot_isinstance (sAP_cons (sP_var (pv 0)) (sAP_cons (SimE.p (sE_ty (t := .tup) rfl T.z_tuple boot_tuple)) sAP_nil))))) (ss_one (s_ret (sE_or (sE_call G__law_is_whole hr rfl T.m__law_is_whole T.F__law_is_whole.kp T.b__law_is_whole (sA_cons (sE_var (pv 0)) (sA_cons sE_int (sA_cons sE_int sA_nil)))) (sE_one (sE_call G__law_is_word hr rfl T.m__law_is_word T.F__law_is_word.kp T.b__law_is_word (sA_cons (sE_var (pv 0)) sA_nil)))))) ss_nil)
    (ss_cons (s_if (PW.pt (sW_or (sT_cmp (op_eqXA hr.h64) o2_eqX (sP_var (pv 0)) (SimE.p (sE_tup sA_nil)) (nomark _)) (sW_or1 (sT_not (sT_val (sE_callB call_isi oA_isi rfl T.z_isinstance boot_isinstance (sAP_cons (SimE.p (sE_ix (sP_var (pv 0)) (SimE.p sE_int))) (sAP_cons (SimE.p (sE_ty (t := .str) rfl T.z_str boot_str)) sAP_nil)))))))) (ss_one (s_ret sE_bl)) ss_nil)
    (ss_cons (s_if (sT_cmp (op_eqXA hr.h64) o2_eqX (SimE.p (sE_ix (sP_var (pv 0)) (SimE.p sE_int))) (SimE.p sE_str) (nomark _)) (ss_one (s_ret (sE_and (sE_cmp (op_eqXA hr.h64) o2_eqX (SimE.p (sE_callB call_len oA_len rfl T.z_len boot_len (sAP_cons (sP_var (pv 0)) sAP_nil))) (SimE.p sE_int) (nomark _)) (sE_one (sE_call G__law_is_word hr rfl T.m__law_is_word T.F__law_is_word.kp T.b__law_is_word (sA_cons (sE_ix (sP_var (pv 0)) (SimE.p sE_int)) sA_nil)))))) ss_nil)
    (ss_cons (s_set (i := 2) nd rfl (by first | exact Or.inl rfl | exact Or.inr rfl) (sE_dget2 hr.h1 (SimN.p (sN_disp (sD_cons sE_str sE_int (sD_cons sE_str sE_int (sD_cons sE_str sE_int (sD_cons sE_str sE_int (sD_cons sE_str sE_int (sD_cons sE_str sE_int sD_nil)))))) rfl rfl (by simp) (by decide))) (SimE.p (sE_ix (sP_var (pv 0)) (SimE.p sE_int))) (sE_un un_neg oU_neg (SimE.p sE_int)) ⟨rfl, rfl, rfl, rfl⟩))
    (ss_one (s_ret (sE_and (sE_cmp (op_eqXA hr.h64) o2_eqX (SimE.p (sE_callB call_len oA_len rfl T.z_len boot_len (sAP_cons (sP_var (pv 0)) sAP_nil))) (SimE.p (sE_op op_addA o2_add (SimE.p sE_int) (sP_var (pv 2)))) (nomark _)) (sE_one (sE_callB (cr_all rfl) oA_all rfl T.z_all boot_all (sAP_cons (SimN.p (sN_lc (own := [("_law_part", 3)]) (g_name 3) (by simp) rfl nd (sI_any (sE_slA (sP_var (pv 0)) (sO_some sE_int) sO_none)) (blkOk_by (N := ["_law_thing", "_law_deep", "_law_many", "_law_part"]) (sc := defScope s__law_is_sum) (by decide +kernel)) (fun _ _ _ _ _ => (pg_name (i := 3) nd rfl (by first | exact Or.inl rfl | exact Or.inr rfl))) (fun _ _ _ _ _ => pts_yes) (fun _ _ _ _ _ => (sE_call G__law_is_sum hr rfl T.m__law_is_sum T.F__law_is_sum.kp T.b__law_is_sum (sA_cons (sE_var (pv 3)) (sA_cons (sE_op op_sub o2_sub (sP_var (pv 1)) (SimE.p sE_int)) sA_nil)))))) sAP_nil)))))))))))) h
def r__law_odd_3 (S__law_of : FSpec) : SM := (mRet (mCall 2 S__law_of (mCons (mVar 0) (mCons (mVar 1) mNil))))
def r__law_odd_2 (S__law_of : FSpec) : SM := (mSeq (mSet 1 (mBin gCat (mPeek 1) (mLst (mCons (mC (.str "plus")) (mCons (mC (.str "given")) mNil))))) (r__law_odd_3 S__law_of))
def r__law_odd_1 (S__law_of : FSpec) : SM := (mSeq (mSet 1 (mBin gCat (mPeek 1) (mLst (mCons (mTup (mCons (mC (.str "waits")) mNil)) (mCons (mTup (mCons (mC (.str "sum")) (mCons (mC (.int 1)) (mCons (mC (.int 2)) mNil)))) (mCons (mTup (mCons (mTup mNil) (mCons (mC (.int 1)) mNil))) (mCons (mTup (mCons (mC (.int 1)) mNil)) (mCons (mTup (mCons (mC (.int 1)) (mCons (mC (.int 2)) (mCons (mC (.int 3)) mNil)))) (mCons (mTup (mCons (mC (.str "not")) (mCons (mC (.int 1)) (mCons (mC (.int 2)) mNil)))) (mCons (mTup (mCons (mC (.str "less")) (mCons (mC (.int 1)) (mCons (mC .non) mNil)))) mNil)))))))))) (r__law_odd_2 S__law_of))
def r__law_odd_0 (S__law_of : FSpec) : SM := (mSeq (mSet 1 (mBin gCat (mPeek 1) (mLst (mCons (mTup (mCons (mC (.str "plus")) (mCons (mC (.int 1)) (mCons (mC (.int 2)) (mCons (mC (.int 3)) mNil))))) (mCons (mLst (mCons (mC (.str "plus")) (mCons (mC (.int 1)) (mCons (mC (.int 2)) mNil)))) (mCons (mTup (mCons (mC (.str "waits")) (mCons (mC (.int 3)) mNil))) (mCons (mTup (mCons (mC (.str "waits")) (mCons (mC (.str "a")) (mCons (mC (.str "b")) mNil)))) (mCons (mTup (mCons (mC (.str "waits")) (mCons (mC (.str "Bell")) mNil))) mNil)))))))) (r__law_odd_1 S__law_of))
def r__law_odd (S__law_of : FSpec) : SM := (mSeq (mSet 1 (mLst (mCons (mC (.int 10)) (mCons (mUn gNeg (mC (.int 1))) (mCons (mC (.bl true)) (mCons (mC (.bl false)) (mCons (mC .non) (mCons (mC (.str "")) (mCons (mC (.str "abcdefghi")) (mCons (mC (.str "aB")) (mCons (mC (.str "a b")) (mCons (mBin gPow (mC (.int 10)) (mC (.int 30))) (mCons (mTup mNil) (mCons (mLst mNil) (mCons mDic0 (mCons (mTup (mCons (mC (.str "plus")) (mCons (mC (.int 1)) mNil))) (mCons (mTup (mCons (mC (.str "not")) mNil)) mNil))))))))))))))))) (r__law_odd_0 S__law_of))
theorem ok__law_odd {S__law_of : FSpec} {sp : FSpec} (T : Txt K mg) (G__law_of : FnOk P w K mg base CX0 k T.a__law_of T.f__law_of ["_law_pot_here", "_law_some"] (FS K mg 2 S__law_of))
    (h : ∀ args et R, sp args et R → r__law_odd S__law_of (env0 ["_law_pot_here", "_law_some"] args) et (retK R)) :
    FnOk P w K mg base CX0 (k + 1) T.a__law_odd T.f__law_odd ["_law_pot_here"] (FS K mg 1 sp) :=
  have nd := sc__law_odd.nd
  fn_ok T.F__law_odd sc__law_odd (fun cdv A outer s H E hr => (ss_cons (s_set (i := 1) nd rfl (by first | exact Or.inl rfl | exact Or.inr rfl) (SimN.e (sN_lst (sA_cons sE_int (sA_cons (sE_un un_neg oU_neg (SimE.p sE_int)) (sA_cons sE_bl (sA_cons sE_bl (sA_cons sE_non (sA_cons sE_str (sA_cons sE_str (sA_cons sE_str (sA_cons sE_str (sA_cons (sE_op op_pow o2_pow (SimE.p sE_int) (SimE.p sE_int)) (sA_cons (sE_tup sA_nil) (sA_cons (SimN.e (sN_lst sA_nil)) (sA_cons (SimN.e sN_dic0) (sA_cons (sE_tup (sA_cons sE_str (sA_cons sE_int sA_nil))) (sA_cons (sE_tup (sA_cons sE_str sA_nil)) sA_nil))))))))))))))))))
    (ss_cons (s_set (i := 1) nd rfl (by first | exact Or.inl rfl | exact Or.inr rfl) (SimN.e (sN_op op_cat o2_cat (sP_var (pv 1)) (SimN.p (sN_lst (sA_cons (sE_tup (sA_cons sE_str (sA_cons sE_int (sA_cons sE_int (sA_cons sE_int sA_nil))))) (sA_cons (SimN.e (sN_lst (sA_cons sE_str (sA_cons sE_int (sA_cons sE_int sA_nil))))) (sA_cons (sE_tup (sA_cons sE_str (sA_cons sE_int sA_nil))) (sA_cons (sE_tup (sA_cons sE_str (sA_cons sE_str (sA_cons sE_str sA_nil)))) (sA_cons (sE_tup (sA_cons sE_str (sA_cons sE_str sA_nil))) sA_nil))))))))))
    (ss_cons (s_set (i := 1) nd rfl (by first | exact Or.inl rfl | exact Or.inr rfl) (SimN.e (sN_op op_cat o2_cat (sP_var (pv 1)) (SimN.p (sN_lst (sA_cons (sE_tup (sA_cons sE_str sA_nil)) (sA_cons (sE_tup (sA_cons sE_str (sA_cons sE_int (sA_cons sE_int sA_nil)))) (sA_cons (sE_tup (sA_cons (sE_tup sA_nil) (sA_cons sE_int sA_nil))) (sA_cons (sE_tup (sA_cons sE_int sA_nil)) (sA_cons (sE_tup (sA_cons sE_int (sA_cons sE_int (sA_cons sE_int sA_nil)))) (sA_cons (sE_tup (sA_cons sE_str (sA_cons sE_int (sA_cons sE_int sA_nil)))) (sA_cons (sE_tup (sA_cons sE_str (sA_cons sE_int (sA_cons sE_non sA_nil)))) sA_nil))))))))))))
    (ss_cons (s_set (i := 1) nd rfl (by first | exact Or.inl rfl | exact Or.inr rfl) (SimN.e (sN_op op_cat o2_cat (sP_var (pv 1)) (SimN.p (sN_lst (sA_cons sE_str (sA_cons sE_str sA_nil)))))))
    (ss_one (s_ret (sE_call G__law_of hr rfl T.m__law_of T.F__law_of.kp T.b__law_of (sA_cons (sE_var (pv 0)) (sA_cons (sE_var (pv 1)) sA_nil)))))))))) h
def r__law_bent_1 (S__law_bent : FSpec) : SM := (mRet (mBin gAdd (mBin gAdd (mSl gSlA (mPeek 1) mO0 (mO1 (mVar 2))) (mTup (mCons (mCall 2 S__law_bent (mCons (mVar 0) (mCons (mBin gIx (mPeek 1) (mPeek 2)) mNil))) mNil))) (mSl gSlA (mPeek 1) (mO1 (mBin gAdd (mPeek 2) (mC (.int 1)))) mO0)))
def r__law_bent_0 (S__law_take : FSpec) (S__law_bent : FSpec) : SM := (mSeq (mSet 2 (mBin gAdd (mC (.int 1)) (mCall 2 S__law_take (mCons (mVar 0) (mCons (mBin gSubI (mArg gLen (mCons (mPeek 1) mNil)) (mC (.int 1))) mNil))))) (r__law_bent_1 S__law_bent))
def r__law_bent_5 : SM := (mRet (mBin gIx (mLst (mCons (mArg gList (mCons (mPeek 1) mNil)) (mCons (mSl gSlA (mPeek 1) mO0 (mO1 (mUn gNeg (mC (.int 1))))) (mCons (mBin gAdd (mPeek 1) (mSl gSlA (mPeek 1) (mO1 (mUn gNeg (mC (.int 1)))) mO0)) (mCons (mBin gAdd (mTup (mCons (mVar 4) mNil)) (mSl gSlA (mPeek 1) (mO1 (mC (.int 1))) mO0)) mNil))))) (mPeek 3)))
def r__law_bent_4 (S__law_of : FSpec) : SM := (mSeq (mSet 4 (mCall 2 S__law_of (mCons (mVar 0) (mCons (mLst (mCons (mC (.str "not")) (mCons (mC (.str "plus")) (mCons (mC (.str "Plus")) (mCons (mC (.str "")) mNil))))) mNil)))) (r__law_bent_5))
def r__law_bent_7 : SM := (mRet (mTup (mCons (mC (.str "not")) (mCons (mTup (mCons (mC (.str "both")) (mCons (mC (.int 1)) (mCons (mVar 1) mNil)))) mNil))))
def r__law_bent_8 (S__law_odd : FSpec) : SM := (mRet (mCall 1 S__law_odd (mCons (mVar 0) mNil)))
def r__law_bent_6 (S__law_odd : FSpec) : SM := (mSeq (mIf (mBinT gEq (mPeek 3) (mC (.int 4))) (r__law_bent_7) mNext) (r__law_bent_8 S__law_odd))
def r__law_bent_3 (S__law_of : FSpec) (S__law_odd : FSpec) : SM := (mSeq (mIf (mAndT (mAsT (mArg gIsi (mCons (mPeek 1) (mCons (mC (.ty .tup)) mNil)))) (mBinT gLt (mPeek 3) (mC (.int 4)))) (r__law_bent_4 S__law_of) mNext) (r__law_bent_6 S__law_odd))
def r__law_bent_2 (S__law_take : FSpec) (S__law_of : FSpec) (S__law_odd : FSpec) : SM := (mSeq (mSet 3 (mCall 2 S__law_take (mCons (mVar 0) (mCons (mC (.int 6)) mNil)))) (r__law_bent_3 S__law_of S__law_odd))
def r__law_bent (S__law_take : FSpec) (S__law_bent : FSpec) (S__law_of : FSpec) (S__law_odd : FSpec) : SM := (mSeq (mIf (mAndT (mAsT (mArg gIsi (mCons (mPeek 1) (mCons (mC (.ty .tup)) mNil)))) (mAndT (mBinT gGt (mArg gLen (mCons (mPeek 1) mNil)) (mC (.int 1))) (mBinT gGt (mCall 2 S__law_take (mCons (mVar 0) (mCons (mC (.int 5)) mNil))) (mC (.int 0))))) (r__law_bent_0 S__law_take S__law_bent) mNext) (r__law_bent_2 S__law_take S__law_of S__law_odd))
theorem ok__law_bent {S__law_take : FSpec} {S__law_bent : FSpec} {S__law_of : FSpec} {S__law_odd : FSpec} {sp : FSpec} (T : Txt K mg) (G__law_take : FnOk P w K mg base CX0 k T.a__law_take T.f__law_take ["_law_pot_here", "_law_many"] (FS K mg 2 S__law_take)) (G__law_bent : FnOk P w K mg base CX0 k T.a__law_bent T.f__law_bent ["_law_pot_here", "_law_thing"] (FS K mg 2 S__law_bent)) (G__law_of : FnOk P w K mg base CX0 k T.a__law_of T.f__law_of ["_law_pot_here", "_law_some"] (FS K mg 2 S__law_of)) (G__law_odd : FnOk P w K mg base CX0 k T.a__law_odd T.f__law_odd ["_law_pot_here"] (FS K mg 1 S__law_odd))
    (h : ∀ args et R, sp args et R → r__law_bent S__law_take S__law_bent S__law_of S__law_odd (env0 ["_law_pot_here", "_law_thing", "_law_at", "_law_way", "_law_word"] args) et (retK R)) :
    FnOk P w K mg base CX0 (k + 1) T.a__law_bent T.f__law_bent ["_law_pot_here", "_law_thing"] (FS K mg 2 sp) :=
  have nd := sc__law_bent.nd
  fn_ok T.F__law_bent sc__law_bent (fun cdv A outer s H E hr => (ss_cons (s_if (PW.pt (sW_and (sT_val (sE_callB call_isi oA_isi rfl T.z_isinstance boot_isinstance (sAP_cons (sP_var (pv 1)) (sAP_cons (SimE.p (sE_ty (t := .tup) rfl T.z_tuple boot_tuple)) sAP_nil)))) (sW_and (sT_cmp op_gt o2_gt (SimE.p (sE_callB call_len oA_len rfl T.z_len boot_len (sAP_cons (sP_var (pv 1)) sAP_nil))) (SimE.p sE_int) (nomark _)) (sW_and1 (sT_cmp op_gt o2_gt (SimE.p (sE_call G__law_take hr rfl T.m__law_take T.F__law_take.kp T.b__law_take (sA_cons (sE_var (pv 0)) (sA_cons sE_int sA_nil)))) (SimE.p sE_int) (nomark _)))))) (ss_cons (s_set (i := 2) nd rfl (by first | exact Or.inl rfl | exact Or.inr rfl) (sE_op op_addA o2_add (SimE.p sE_int) (SimE.p (sE_call G__law_take hr rfl T.m__law_take T.F__law_take.kp T.b__law_take (sA_cons (sE_var (pv 0)) (sA_cons (sE_op op_sub o2_sub (SimE.p (sE_callB call_len oA_len rfl T.z_len boot_len (sAP_cons (sP_var (pv 1)) sAP_nil))) (SimE.p sE_int)) sA_nil))))))
    (ss_one (s_ret (sE_op op_addA o2_add (SimE.p (sE_op op_addA o2_add (SimE.p (sE_slA (sP_var (pv 1)) sO_none (sO_some (sE_var (pv 2))))) (SimE.p (sE_tup (sA_cons (sE_call G__law_bent hr rfl T.m__law_bent T.F__law_bent.kp T.b__law_bent (sA_cons (sE_var (pv 0)) (sA_cons (sE_ix (sP_var (pv 1)) (sP_var (pv 2))) sA_nil))) sA_nil))))) (SimE.p (sE_slA (sP_var (pv 1)) (sO_some (sE_op op_addA o2_add (sP_var (pv 2)) (SimE.p sE_int))) sO_none)))))) ss_nil)
    (ss_cons (s_set (i := 3) nd rfl (by first | exact Or.inl rfl | exact Or.inr rfl) (sE_call G__law_take hr rfl T.m__law_take T.F__law_take.kp T.b__law_take (sA_cons (sE_var (pv 0)) (sA_cons sE_int sA_nil))))
    (ss_cons (s_if (PW.pt (sW_and (sT_val (sE_callB call_isi oA_isi rfl T.z_isinstance boot_isinstance (sAP_cons (sP_var (pv 1)) (sAP_cons (SimE.p (sE_ty (t := .tup) rfl T.z_tuple boot_tuple)) sAP_nil)))) (sW_and1 (sT_cmp op_ltA o2_lt (sP_var (pv 3)) (SimE.p sE_int) (nomark _))))) (ss_cons (s_set (i := 4) nd rfl (by first | exact Or.inl rfl | exact Or.inr rfl) (sE_call G__law_of hr rfl T.m__law_of T.F__law_of.kp T.b__law_of (sA_cons (sE_var (pv 0)) (sA_cons (SimN.e (sN_lst (sA_cons sE_str (sA_cons sE_str (sA_cons sE_str (sA_cons sE_str sA_nil)))))) sA_nil))))
    (ss_one (s_ret (sE_ix (SimN.p (sN_lst (sA_cons (SimN.e (sN_callTy call_list_of oA_list rfl T.z_list boot_list (sAP_cons (sP_var (pv 1)) sAP_nil))) (sA_cons (sE_slA (sP_var (pv 1)) sO_none (sO_some (sE_un un_neg oU_neg (SimE.p sE_int)))) (sA_cons (sE_op op_addA o2_add (sP_var (pv 1)) (SimE.p (sE_slA (sP_var (pv 1)) (sO_some (sE_un un_neg oU_neg (SimE.p sE_int))) sO_none))) (sA_cons (sE_op op_addA o2_add (SimE.p (sE_tup (sA_cons (sE_var (pv 4)) sA_nil))) (SimE.p (sE_slA (sP_var (pv 1)) (sO_some sE_int) sO_none))) sA_nil)))))) (sP_var (pv 3)))))) ss_nil)
    (ss_cons (s_if (sT_cmp (op_eqA hr.h64) o2_eq (sP_var (pv 3)) (SimE.p sE_int) (nomark _)) (ss_one (s_ret (sE_tup (sA_cons sE_str (sA_cons (sE_tup (sA_cons sE_str (sA_cons sE_int (sA_cons (sE_var (pv 1)) sA_nil)))) sA_nil))))) ss_nil)
    (ss_one (s_ret (sE_call G__law_odd hr rfl T.m__law_odd T.F__law_odd.kp T.b__law_odd (sA_cons (sE_var (pv 0)) sA_nil))))))))) h
def r__law_right_1 (S__law_is_sum : FSpec) : SM := (mRet (mAndE (mArg gIsi (mCons (mPeek 2) (mCons (mC (.ty .bool)) mNil))) (mAndE (mBin gEq (mPeek 2) (mCall 2 S__law_is_sum (mCons (mVar 0) (mCons (mC (.int 5)) mNil)))) (mBin gEq (mArg gReprX (mCons (mPeek 0) mNil)) (mPeek 1)))))
def r__law_right_0 (S_is_sum : FSpec) (S__law_is_sum : FSpec) : SM := (mSeq (mSet 2 (mCall 1 S_is_sum (mCons (mVar 0) mNil))) (r__law_right_1 S__law_is_sum))
def r__law_right (S_is_sum : FSpec) (S__law_is_sum : FSpec) : SM := (mSeq (mSet 1 (mArg gReprX (mCons (mPeek 0) mNil))) (r__law_right_0 S_is_sum S__law_is_sum))
theorem ok__law_right {S_is_sum : FSpec} {S__law_is_sum : FSpec} {sp : FSpec} (T : Txt K mg) (G_is_sum : FnOk P w K mg base CX0 k T.a_is_sum T.f_is_sum ["thing"] (FS K mg 1 S_is_sum)) (G__law_is_sum : FnOk P w K mg base CX0 k T.a__law_is_sum T.f__law_is_sum ["_law_thing", "_law_deep"] (FS K mg 2 S__law_is_sum))
    (h : ∀ args et R, sp args et R → r__law_right S_is_sum S__law_is_sum (env0 ["_law_thing", "_law_kept", "_law_found"] args) et (retK R)) :
    FnOkG P w K mg base CX0 (k + 1) T.a__law_right T.f__law_right ["_law_thing"] (FS K mg 1 sp) :=
  have nd := sc__law_right.nd
  fn_okG T.F__law_right sc__law_right (fun cdv A outer s H E hr hgd => (ss_cons (s_set (i := 1) nd rfl (by first | exact Or.inl rfl | exact Or.inr rfl) (sE_callB (call_reprXR hgd hr.h64) oA_reprX rfl T.z_repr boot_repr (sAP_cons (sP_var (pv 0)) sAP_nil)))
    (ss_cons (s_set (i := 2) nd rfl (by first | exact Or.inl rfl | exact Or.inr rfl) (sE_call G_is_sum hr rfl T.m_is_sum T.F_is_sum.kp T.b_is_sum (sA_cons (sE_var (pv 0)) sA_nil)))
    (ss_one (s_ret (sE_and (sE_callB call_isi oA_isi rfl T.z_isinstance boot_isinstance (sAP_cons (sP_var (pv 2)) (sAP_cons (SimE.p (sE_ty (t := .bool) rfl T.z_bool boot_bool)) sAP_nil))) (sE_and (sE_cmp (op_eqA hr.h64) o2_eq (sP_var (pv 2)) (SimE.p (sE_call G__law_is_sum hr rfl T.m__law_is_sum T.F__law_is_sum.kp T.b__law_is_sum (sA_cons (sE_var (pv 0)) (sA_cons sE_int sA_nil)))) (nomark _)) (sE_one (sE_cmp (op_eqA hr.h64) o2_eq (SimE.p (sE_callB (call_reprXR hgd hr.h64) oA_reprX rfl T.z_repr boot_repr (sAP_cons (sP_var (pv 0)) sAP_nil))) (sP_var (pv 1)) (nomark _)))))))))) h
def r_law_4 : SM := (mRet (mC (.bl false)))
def r_law_8 : SM := (mRet (mC (.bl false)))
def r_law_7 (S__law_right : FSpec) : SM := (mIf (mOrT (mNotT (mAsT (mCall 1 S__law_right (mCons (mVar 4) mNil)))) (mNotT (mAsT (mCall 1 S__law_right (mCons (mTup (mCons (mC (.str "less")) (mCons (mVar 4) (mCons (mC (.int 1)) mNil)))) mNil))))) (r_law_8) mNext)
def r_law_6 (S__law_right : FSpec) (S__law_bent : FSpec) : SM := (mSeq (mSet 4 (mCall 2 S__law_bent (mCons (mVar 1) (mCons (mVar 4) mNil)))) (r_law_7 S__law_right))
def r_law_5 (S__law_take : FSpec) (S__law_right : FSpec) (S__law_bent : FSpec) : SM := (mFor (mRng1 (mCons (mBin gAdd (mC (.int 1)) (mCall 2 S__law_take (mCons (mVar 1) (mCons (mC (.int 3)) mNil)))) mNil)) (tgN 5) (r_law_6 S__law_right S__law_bent))
def r_law_3 (S__law_take : FSpec) (S__law_right : FSpec) (S_is_sum : FSpec) (S__law_bent : FSpec) : SM := (mSeq (mIf (mOrT (mBinT gIsNot (mCall 1 S_is_sum (mCons (mVar 4) mNil)) (mC (.bl true))) (mNotT (mAsT (mCall 1 S__law_right (mCons (mVar 4) mNil))))) (r_law_4) mNext) (r_law_5 S__law_take S__law_right S__law_bent))
def r_law_2 (S__law_sum : FSpec) (S__law_take : FSpec) (S__law_right : FSpec) (S_is_sum : FSpec) (S__law_bent : FSpec) : SM := (mSeq (mSet 4 (mCall 4 S__law_sum (mCons (mVar 1) (mCons (mVar 2) (mCons (mSl gSlA (mPeek 2) (mO1 (mC (.int 3))) mO0) (mCons (mBin gAdd (mC (.int 1)) (mCall 2 S__law_take (mCons (mVar 1) (mCons (mC (.int 5)) mNil)))) mNil)))))) (r_law_3 S__law_take S__law_right S_is_sum S__law_bent))
def r_law_10 (S__law_right : FSpec) : SM := (mRet (mArg gAll (mCons (mLc (mIter (mVar 6)) [4] (tgN 4) mYes (mCall 1 S__law_right (mCons (mVar 4) mNil))) mNil)))
def r_law_9 (S__law_right : FSpec) : SM := (mSeq (mSet 6 (mLst (mCons (mC .non) (mCons (mC (.bl true)) (mCons (mC (.int 0)) (mCons (mC (.int 9)) (mCons (mC (.int 10)) (mCons (mUn gNeg (mC (.int 1))) (mCons (mC (.str "")) (mCons (mC (.str "word")) (mCons (mC (.str "Word")) (mCons (mTup mNil) (mCons (mLst mNil) (mCons mDic0 (mCons (mTup (mCons (mC (.str "waits")) (mCons (mC (.str "bell")) mNil))) (mCons (mTup (mCons (mC (.str "not")) (mCons (mTup (mCons (mC (.str "waits")) (mCons (mC (.str "bell")) mNil))) mNil))) mNil)))))))))))))))) (r_law_10 S__law_right))
def r_law_1 (S__law_sum : FSpec) (S__law_take : FSpec) (S__law_right : FSpec) (S_is_sum : FSpec) (S__law_bent : FSpec) : SM := (mSeq (mFor (mRng1 (mCons (mArg gMax2 (mCons (mC (.int 20)) (mCons (mArg gMin2 (mCons (mC (.int 60)) (mCons (mArg gLen (mCons (mPeek 0) mNil)) mNil))) mNil))) mNil)) (tgN 3) (r_law_2 S__law_sum S__law_take S__law_right S_is_sum S__law_bent)) (r_law_9 S__law_right))
def r_law_0 (S__law_words : FSpec) (S__law_sum : FSpec) (S__law_take : FSpec) (S__law_right : FSpec) (S_is_sum : FSpec) (S__law_bent : FSpec) : SM := (mSeq (mSet 2 (mCall 2 S__law_words (mCons (mVar 1) (mCons (mC (.int 6)) mNil)))) (r_law_1 S__law_sum S__law_take S__law_right S_is_sum S__law_bent))
def r_law (S__law_pot : FSpec) (S__law_words : FSpec) (S__law_sum : FSpec) (S__law_take : FSpec) (S__law_right : FSpec) (S_is_sum : FSpec) (S__law_bent : FSpec) : SM := (mSeq (mSet 1 (mCall 1 S__law_pot (mCons (mVar 0) mNil))) (r_law_0 S__law_words S__law_sum S__law_take S__law_right S_is_sum S__law_bent))
theorem ok_law {S__law_pot : FSpec} {S__law_words : FSpec} {S__law_sum : FSpec} {S__law_take : FSpec} {S__law_right : FSpec} {S_is_sum : FSpec} {S__law_bent : FSpec} {sp : FSpec} (T : Txt K mg) (G__law_pot : FnOk P w K mg base CX0 k T.a__law_pot T.f__law_pot ["_law_script"] (FS K mg 1 S__law_pot)) (G__law_words : FnOk P w K mg base CX0 k T.a__law_words T.f__law_words ["_law_pot_here", "_law_many"] (FS K mg 2 S__law_words)) (G__law_sum : FnOk P w K mg base CX0 k T.a__law_sum T.f__law_sum ["_law_pot_here", "_law_words_here", "_law_bells", "_law_deep"] (FS K mg 4 S__law_sum)) (G__law_take : FnOk P w K mg base CX0 k T.a__law_take T.f__law_take ["_law_pot_here", "_law_many"] (FS K mg 2 S__law_take)) (G__law_right : FnOkG P w K mg base CX0 k T.a__law_right T.f__law_right ["_law_thing"] (FS K mg 1 S__law_right)) (G_is_sum : FnOk P w K mg base CX0 k T.a_is_sum T.f_is_sum ["thing"] (FS K mg 1 S_is_sum)) (G__law_bent : FnOk P w K mg base CX0 k T.a__law_bent T.f__law_bent ["_law_pot_here", "_law_thing"] (FS K mg 2 S__law_bent))
    (h : ∀ args et R, sp args et R → r_law S__law_pot S__law_words S__law_sum S__law_take S__law_right S_is_sum S__law_bent (env0 ["_law_script", "_law_pot_here", "_law_words_here", "_law_k", "_law_thing", "_law_turn", "_law_odd_here"] args) et (retK R)) :
    FnOkG P w K mg base CX0 (k + 1) T.a_law T.f_law ["_law_script"] (FS K mg 1 sp) :=
  have nd := sc_law.nd
  fn_okG T.F_law sc_law (fun cdv A outer s H E hr hgd => (ss_cons (s_set (i := 1) nd rfl (by first | exact Or.inl rfl | exact Or.inr rfl) (sE_call G__law_pot hr rfl T.m__law_pot T.F__law_pot.kp T.b__law_pot (sA_cons (sE_var (pv 0)) sA_nil)))
    (ss_cons (s_set (i := 2) nd rfl (by first | exact Or.inl rfl | exact Or.inr rfl) (sE_call G__law_words hr rfl T.m__law_words T.F__law_words.kp T.b__law_words (sA_cons (sE_var (pv 1)) (sA_cons sE_int sA_nil))))
    (ss_cons (s_for PassesOwn.never rfl (sI_rng1 rfl T.z_range (sA_cons (sE_callB (call_max2 rfl) oA_max2 rfl T.z_max boot_max (sAP_cons (SimE.p sE_int) (sAP_cons (SimE.p (sE_callB (call_min2 rfl) oA_min2 rfl T.z_min boot_min (sAP_cons (SimE.p sE_int) (sAP_cons (SimE.p (sE_callB call_len oA_len rfl T.z_len boot_len (sAP_cons (sP_var (pv 0)) sAP_nil))) sAP_nil)))) sAP_nil))) sA_nil)) (pg_name (i := 3) nd rfl (by first | exact Or.inl rfl | exact Or.inr rfl)) (g_name 3) (ss_cons (s_set (i := 4) nd rfl (by first | exact Or.inl rfl | exact Or.inr rfl) (sE_call G__law_sum hr rfl T.m__law_sum T.F__law_sum.kp T.b__law_sum (sA_cons (sE_var (pv 1)) (sA_cons (sE_var (pv 2)) (sA_cons (sE_slA (sP_var (pv 2)) (sO_some sE_int) sO_none) (sA_cons (sE_op op_addA o2_add (SimE.p sE_int) (SimE.p (sE_call G__law_take hr rfl T.m__law_take T.F__law_take.kp T.b__law_take (sA_cons (sE_var (pv 1)) (sA_cons sE_int sA_nil))))) sA_nil))))))
    (ss_cons (s_if (PW.pt (sW_or (sT_cmp op_isNotA o2_isNot (SimE.p (sE_call G_is_sum hr rfl T.m_is_sum T.F_is_sum.kp T.b_is_sum (sA_cons (sE_var (pv 4)) sA_nil))) (SimE.p sE_bl) (nomark _)) (sW_or1 (sT_not (sT_val (sE_callGd G__law_right hgd hr rfl T.m__law_right T.F__law_right.kp T.b__law_right (sA_cons (sE_var (pv 4)) sA_nil))))))) (ss_one (s_ret sE_bl)) ss_nil)
    (ss_one (s_for PassesOwn.never rfl (sI_rng1 rfl T.z_range (sA_cons (sE_op op_addA o2_add (SimE.p sE_int) (SimE.p (sE_call G__law_take hr rfl T.m__law_take T.F__law_take.kp T.b__law_take (sA_cons (sE_var (pv 1)) (sA_cons sE_int sA_nil))))) sA_nil)) (pg_name (i := 5) nd rfl (by first | exact Or.inl rfl | exact Or.inr rfl)) (g_name 5) (ss_cons (s_set (i := 4) nd rfl (by first | exact Or.inl rfl | exact Or.inr rfl) (sE_call G__law_bent hr rfl T.m__law_bent T.F__law_bent.kp T.b__law_bent (sA_cons (sE_var (pv 1)) (sA_cons (sE_var (pv 4)) sA_nil))))
    (ss_one (s_if (PW.pt (sW_or (sT_not (sT_val (sE_callGd G__law_right hgd hr rfl T.m__law_right T.F__law_right.kp T.b__law_right (sA_cons (sE_var (pv 4)) sA_nil)))) (sW_or1 (sT_not (sT_val (sE_callGd G__law_right hgd hr rfl T.m__law_right T.F__law_right.kp T.b__law_right (sA_cons (sE_tup (sA_cons sE_str (sA_cons (sE_var (pv 4)) (sA_cons sE_int sA_nil)))) sA_nil))))))) (ss_one (s_ret sE_bl)) ss_nil))))))))
    (ss_cons (s_set (i := 6) nd rfl (by first | exact Or.inl rfl | exact Or.inr rfl) (SimN.e (sN_lst (sA_cons sE_non (sA_cons sE_bl (sA_cons sE_int (sA_cons sE_int (sA_cons sE_int (sA_cons (sE_un un_neg oU_neg (SimE.p sE_int)) (sA_cons sE_str (sA_cons sE_str (sA_cons sE_str (sA_cons (sE_tup sA_nil) (sA_cons (SimN.e (sN_lst sA_nil)) (sA_cons (SimN.e sN_dic0) (sA_cons (sE_tup (sA_cons sE_str (sA_cons sE_str sA_nil))) (sA_cons (sE_tup (sA_cons sE_str (sA_cons (sE_tup (sA_cons sE_str (sA_cons sE_str sA_nil))) sA_nil))) sA_nil)))))))))))))))))
    (ss_one (s_ret (sE_callB (cr_all rfl) oA_all rfl T.z_all boot_all (sAP_cons (SimN.p (sN_lc (own := [("_law_thing", 4)]) (g_name 4) (by simp) rfl nd (sI_any (sE_var (pv 6))) (blkOk_by (N := ["_law_script", "_law_pot_here", "_law_words_here", "_law_k", "_law_thing", "_law_turn", "_law_odd_here"]) (sc := defScope s_law) (by decide +kernel)) (fun _ _ _ _ _ => (pg_name (i := 4) nd rfl (by first | exact Or.inl rfl | exact Or.inr rfl))) (fun _ _ _ _ _ => pts_yes) (fun _ _ _ _ _ => (sE_callGd G__law_right hgd hr rfl T.m__law_right T.F__law_right.kp T.b__law_right (sA_cons (sE_var (pv 4)) sA_nil))))) sAP_nil))))))))) h
end K01
namespace K01
open PySem L2 Mw PyProof.Rows
variable {P : Program} {w : World} {K : PySem.W.Frag} {mg : Str → Option Value} {base : Heap} {k : Nat}
theorem txt_mk {K : PySem.W.Frag} {h : Heap} {mg : Str → Option Value} {fa : Addr} (X : K.In h) (G : h.Ns mainGlobals mg) (hfa : mg "law" = some (.ref fa))
    {f0 f1 f2 f3 f4 f5 f6 f7 f8 f9 f10 f11 f12 f13 f14 f15 f16 : Addr} {od0 an0 od1 an1 od2 an2 od3 an3 od4 an4 od5 an5 od6 an6 od7 an7 od8 an8 od9 an9 od10 an10 od11 an11 od12 an12 od13 an13 od14 an14 od15 an15 od16 an16 : Option Addr} {sl0 sl1 sl2 sl3 sl4 sl5 sl6 sl7 sl8 sl9 sl10 sl11 sl12 sl13 sl14 sl15 sl16 : Array (Option Value)} {oc0 kV0 dc0 pm0 cd0 ct0 oc1 kV1 dc1 pm1 cd1 ct1 oc2 kV2 dc2 pm2 cd2 ct2 oc3 kV3 dc3 pm3 cd3 ct3 oc4 kV4 dc4 pm4 cd4 ct4 oc5 kV5 dc5 pm5 cd5 ct5 oc6 kV6 dc6 pm6 cd6 ct6 oc7 kV7 dc7 pm7 cd7 ct7 oc8 kV8 dc8 pm8 cd8 ct8 oc9 kV9 dc9 pm9 cd9 ct9 oc10 kV10 dc10 pm10 cd10 ct10 oc11 kV11 dc11 pm11 cd11 ct11 oc12 kV12 dc12 pm12 cd12 ct12 oc13 kV13 dc13 pm13 cd13 ct13 oc14 kV14 dc14 pm14 cd14 ct14 oc15 kV15 dc15 pm15 cd15 ct15 oc16 kV16 dc16 pm16 cd16 ct16 : Value}
    (a0 : PySem.W.nsIn K mainGlobals "is_word" = some (some (.ref f0)))
    (l0 : K.lookup f0 = some ⟨oc0, od0, .func (PySem.W.fnOf "is_word" "is_word" (defArgs s_is_word) (defBody s_is_word) (defScope s_is_word) .none kV0 dc0 pm0 an0 cd0 ct0), sl0⟩) (c0 : PySem.W.codeIn K cd0 "is_word" = true) (k0 : PySem.W.keepIn K (.ref f0) = true)
    (a1 : PySem.W.nsIn K mainGlobals "is_value" = some (some (.ref f1)))
    (l1 : K.lookup f1 = some ⟨oc1, od1, .func (PySem.W.fnOf "is_value" "is_value" (defArgs s_is_value) (defBody s_is_value) (defScope s_is_value) .none kV1 dc1 pm1 an1 cd1 ct1), sl1⟩) (c1 : PySem.W.codeIn K cd1 "is_value" = true) (k1 : PySem.W.keepIn K (.ref f1) = true)
    (a2 : PySem.W.nsIn K mainGlobals "is_sum_within" = some (some (.ref f2)))
    (l2 : K.lookup f2 = some ⟨oc2, od2, .func (PySem.W.fnOf "is_sum_within" "is_sum_within" (defArgs s_is_sum_within) (defBody s_is_sum_within) (defScope s_is_sum_within) .none kV2 dc2 pm2 an2 cd2 ct2), sl2⟩) (c2 : PySem.W.codeIn K cd2 "is_sum_within" = true) (k2 : PySem.W.keepIn K (.ref f2) = true)
    (a3 : PySem.W.nsIn K mainGlobals "is_sum" = some (some (.ref f3)))
    (l3 : K.lookup f3 = some ⟨oc3, od3, .func (PySem.W.fnOf "is_sum" "is_sum" (defArgs s_is_sum) (defBody s_is_sum) (defScope s_is_sum) .none kV3 dc3 pm3 an3 cd3 ct3), sl3⟩) (c3 : PySem.W.codeIn K cd3 "is_sum" = true) (k3 : PySem.W.keepIn K (.ref f3) = true)
    (a4 : PySem.W.nsIn K mainGlobals "_law_pot" = some (some (.ref f4)))
    (l4 : K.lookup f4 = some ⟨oc4, od4, .func (PySem.W.fnOf "_law_pot" "_law_pot" (defArgs s__law_pot) (defBody s__law_pot) (defScope s__law_pot) .none kV4 dc4 pm4 an4 cd4 ct4), sl4⟩) (c4 : PySem.W.codeIn K cd4 "_law_pot" = true) (k4 : PySem.W.keepIn K (.ref f4) = true)
    (a5 : PySem.W.nsIn K mainGlobals "_law_take" = some (some (.ref f5)))
    (l5 : K.lookup f5 = some ⟨oc5, od5, .func (PySem.W.fnOf "_law_take" "_law_take" (defArgs s__law_take) (defBody s__law_take) (defScope s__law_take) .none kV5 dc5 pm5 an5 cd5 ct5), sl5⟩) (c5 : PySem.W.codeIn K cd5 "_law_take" = true) (k5 : PySem.W.keepIn K (.ref f5) = true)
    (a6 : PySem.W.nsIn K mainGlobals "_law_of" = some (some (.ref f6)))
    (l6 : K.lookup f6 = some ⟨oc6, od6, .func (PySem.W.fnOf "_law_of" "_law_of" (defArgs s__law_of) (defBody s__law_of) (defScope s__law_of) .none kV6 dc6 pm6 an6 cd6 ct6), sl6⟩) (c6 : PySem.W.codeIn K cd6 "_law_of" = true) (k6 : PySem.W.keepIn K (.ref f6) = true)
    (a7 : PySem.W.nsIn K mainGlobals "_law_words" = some (some (.ref f7)))
    (l7 : K.lookup f7 = some ⟨oc7, od7, .func (PySem.W.fnOf "_law_words" "_law_words" (defArgs s__law_words) (defBody s__law_words) (defScope s__law_words) .none kV7 dc7 pm7 an7 cd7 ct7), sl7⟩) (c7 : PySem.W.codeIn K cd7 "_law_words" = true) (k7 : PySem.W.keepIn K (.ref f7) = true)
    (a8 : PySem.W.nsIn K mainGlobals "_law_bare" = some (some (.ref f8)))
    (l8 : K.lookup f8 = some ⟨oc8, od8, .func (PySem.W.fnOf "_law_bare" "_law_bare" (defArgs s__law_bare) (defBody s__law_bare) (defScope s__law_bare) .none kV8 dc8 pm8 an8 cd8 ct8), sl8⟩) (c8 : PySem.W.codeIn K cd8 "_law_bare" = true) (k8 : PySem.W.keepIn K (.ref f8) = true)
    (a9 : PySem.W.nsIn K mainGlobals "_law_sum" = some (some (.ref f9)))
    (l9 : K.lookup f9 = some ⟨oc9, od9, .func (PySem.W.fnOf "_law_sum" "_law_sum" (defArgs s__law_sum) (defBody s__law_sum) (defScope s__law_sum) .none kV9 dc9 pm9 an9 cd9 ct9), sl9⟩) (c9 : PySem.W.codeIn K cd9 "_law_sum" = true) (k9 : PySem.W.keepIn K (.ref f9) = true)
    (a10 : PySem.W.nsIn K mainGlobals "_law_is_word" = some (some (.ref f10)))
    (l10 : K.lookup f10 = some ⟨oc10, od10, .func (PySem.W.fnOf "_law_is_word" "_law_is_word" (defArgs s__law_is_word) (defBody s__law_is_word) (defScope s__law_is_word) .none kV10 dc10 pm10 an10 cd10 ct10), sl10⟩) (c10 : PySem.W.codeIn K cd10 "_law_is_word" = true) (k10 : PySem.W.keepIn K (.ref f10) = true)
    (a11 : PySem.W.nsIn K mainGlobals "_law_is_whole" = some (some (.ref f11)))
    (l11 : K.lookup f11 = some ⟨oc11, od11, .func (PySem.W.fnOf "_law_is_whole" "_law_is_whole" (defArgs s__law_is_whole) (defBody s__law_is_whole) (defScope s__law_is_whole) .none kV11 dc11 pm11 an11 cd11 ct11), sl11⟩) (c11 : PySem.W.codeIn K cd11 "_law_is_whole" = true) (k11 : PySem.W.keepIn K (.ref f11) = true)
    (a12 : PySem.W.nsIn K mainGlobals "_law_is_sum" = some (some (.ref f12)))
    (l12 : K.lookup f12 = some ⟨oc12, od12, .func (PySem.W.fnOf "_law_is_sum" "_law_is_sum" (defArgs s__law_is_sum) (defBody s__law_is_sum) (defScope s__law_is_sum) .none kV12 dc12 pm12 an12 cd12 ct12), sl12⟩) (c12 : PySem.W.codeIn K cd12 "_law_is_sum" = true) (k12 : PySem.W.keepIn K (.ref f12) = true)
    (a13 : PySem.W.nsIn K mainGlobals "_law_odd" = some (some (.ref f13)))
    (l13 : K.lookup f13 = some ⟨oc13, od13, .func (PySem.W.fnOf "_law_odd" "_law_odd" (defArgs s__law_odd) (defBody s__law_odd) (defScope s__law_odd) .none kV13 dc13 pm13 an13 cd13 ct13), sl13⟩) (c13 : PySem.W.codeIn K cd13 "_law_odd" = true) (k13 : PySem.W.keepIn K (.ref f13) = true)
    (a14 : PySem.W.nsIn K mainGlobals "_law_bent" = some (some (.ref f14)))
    (l14 : K.lookup f14 = some ⟨oc14, od14, .func (PySem.W.fnOf "_law_bent" "_law_bent" (defArgs s__law_bent) (defBody s__law_bent) (defScope s__law_bent) .none kV14 dc14 pm14 an14 cd14 ct14), sl14⟩) (c14 : PySem.W.codeIn K cd14 "_law_bent" = true) (k14 : PySem.W.keepIn K (.ref f14) = true)
    (a15 : PySem.W.nsIn K mainGlobals "_law_right" = some (some (.ref f15)))
    (l15 : K.lookup f15 = some ⟨oc15, od15, .func (PySem.W.fnOf "_law_right" "_law_right" (defArgs s__law_right) (defBody s__law_right) (defScope s__law_right) .none kV15 dc15 pm15 an15 cd15 ct15), sl15⟩) (c15 : PySem.W.codeIn K cd15 "_law_right" = true) (k15 : PySem.W.keepIn K (.ref f15) = true)
    (a16 : PySem.W.nsIn K mainGlobals "law" = some (some (.ref f16)))
    (l16 : K.lookup f16 = some ⟨oc16, od16, .func (PySem.W.fnOf "law" "law" (defArgs s_law) (defBody s_law) (defScope s_law) .none kV16 dc16 pm16 an16 cd16 ct16), sl16⟩) (c16 : PySem.W.codeIn K cd16 "law" = true) (k16 : PySem.W.keepIn K (.ref f16) = true)
    (z_all : PySem.W.nsIn K mainGlobals "all" = some none)
    (z_bool : PySem.W.nsIn K mainGlobals "bool" = some none)
    (z_int : PySem.W.nsIn K mainGlobals "int" = some none)
    (z_isinstance : PySem.W.nsIn K mainGlobals "isinstance" = some none)
    (z_len : PySem.W.nsIn K mainGlobals "len" = some none)
    (z_list : PySem.W.nsIn K mainGlobals "list" = some none)
    (z_max : PySem.W.nsIn K mainGlobals "max" = some none)
    (z_min : PySem.W.nsIn K mainGlobals "min" = some none)
    (z_range : PySem.W.nsIn K mainGlobals "range" = some none)
    (z_repr : PySem.W.nsIn K mainGlobals "repr" = some none)
    (z_str : PySem.W.nsIn K mainGlobals "str" = some none)
    (z_tuple : PySem.W.nsIn K mainGlobals "tuple" = some none)
    {t_LETTERS : Tok} (n_LETTERS : PySem.W.nsIn K mainGlobals "LETTERS" = some (some (.str "abcdefghijklmnopqrstuvwxyz" t_LETTERS)))
    {t_MOST_DEEP : Tok} (n_MOST_DEEP : PySem.W.nsIn K mainGlobals "MOST_DEEP" = some (some (.int (5) t_MOST_DEEP)))
    {t_MOST_SIGNS : Tok} (n_MOST_SIGNS : PySem.W.nsIn K mainGlobals "MOST_SIGNS" = some (some (.int (8) t_MOST_SIGNS)))
    {t_MOST_VALUE : Tok} (n_MOST_VALUE : PySem.W.nsIn K mainGlobals "MOST_VALUE" = some (some (.int (9) t_MOST_VALUE)))
    {t_TWO_PARTS_0 t_TWO_PARTS_1 t_TWO_PARTS_2 t_TWO_PARTS_3 t_TWO_PARTS_4 : Tok} {a_TWO_PARTS : Addr} {j_TWO_PARTS : Nat} {sl_TWO_PARTS : Array (Option Value)} (n_TWO_PARTS : PySem.W.nsIn K mainGlobals "TWO_PARTS" = some (some (.ref a_TWO_PARTS))) (e_TWO_PARTS : K.lookup a_TWO_PARTS = some ⟨.type "tuple", none, .seq (List.toArray [.str "plus" t_TWO_PARTS_0, .str "minus" t_TWO_PARTS_1, .str "less" t_TWO_PARTS_2, .str "same" t_TWO_PARTS_3, .str "both" t_TWO_PARTS_4]) j_TWO_PARTS, sl_TWO_PARTS⟩)
    : ∃ T : Txt K mg, T.a_law = fa ∧ ∀ (s : Shared) (v : Value), BindsTo s T.f_law ⟨[v], []⟩ [("_law_script", v)] := by
  have e := hfa.symm.trans (PySem.W.mg_of X G a16)
  cases e
  exact ⟨{
    a_is_word := f0,
    f_is_word := _,
    F_is_word := fun_mk (st := s_is_word) l0 c0 k0,
    b_is_word := (fun_mk (st := s_is_word) l0 c0 k0).binds (ps := ["thing"]) fun _ _ _ _ _ _ us hl => match us, hl with | [_], _ => rfl,
    m_is_word := PySem.W.mg_of X G a0,
    a_is_value := f1,
    f_is_value := _,
    F_is_value := fun_mk (st := s_is_value) l1 c1 k1,
    b_is_value := (fun_mk (st := s_is_value) l1 c1 k1).binds (ps := ["thing"]) fun _ _ _ _ _ _ us hl => match us, hl with | [_], _ => rfl,
    m_is_value := PySem.W.mg_of X G a1,
    a_is_sum_within := f2,
    f_is_sum_within := _,
    F_is_sum_within := fun_mk (st := s_is_sum_within) l2 c2 k2,
    b_is_sum_within := (fun_mk (st := s_is_sum_within) l2 c2 k2).binds (ps := ["thing", "deep"]) fun _ _ _ _ _ _ us hl => match us, hl with | [_, _], _ => rfl,
    m_is_sum_within := PySem.W.mg_of X G a2,
    a_is_sum := f3,
    f_is_sum := _,
    F_is_sum := fun_mk (st := s_is_sum) l3 c3 k3,
    b_is_sum := (fun_mk (st := s_is_sum) l3 c3 k3).binds (ps := ["thing"]) fun _ _ _ _ _ _ us hl => match us, hl with | [_], _ => rfl,
    m_is_sum := PySem.W.mg_of X G a3,
    a__law_pot := f4,
    f__law_pot := _,
    F__law_pot := fun_mk (st := s__law_pot) l4 c4 k4,
    b__law_pot := (fun_mk (st := s__law_pot) l4 c4 k4).binds (ps := ["_law_script"]) fun _ _ _ _ _ _ us hl => match us, hl with | [_], _ => rfl,
    m__law_pot := PySem.W.mg_of X G a4,
    a__law_take := f5,
    f__law_take := _,
    F__law_take := fun_mk (st := s__law_take) l5 c5 k5,
    b__law_take := (fun_mk (st := s__law_take) l5 c5 k5).binds (ps := ["_law_pot_here", "_law_many"]) fun _ _ _ _ _ _ us hl => match us, hl with | [_, _], _ => rfl,
    m__law_take := PySem.W.mg_of X G a5,
    a__law_of := f6,
    f__law_of := _,
    F__law_of := fun_mk (st := s__law_of) l6 c6 k6,
    b__law_of := (fun_mk (st := s__law_of) l6 c6 k6).binds (ps := ["_law_pot_here", "_law_some"]) fun _ _ _ _ _ _ us hl => match us, hl with | [_, _], _ => rfl,
    m__law_of := PySem.W.mg_of X G a6,
    a__law_words := f7,
    f__law_words := _,
    F__law_words := fun_mk (st := s__law_words) l7 c7 k7,
    b__law_words := (fun_mk (st := s__law_words) l7 c7 k7).binds (ps := ["_law_pot_here", "_law_many"]) fun _ _ _ _ _ _ us hl => match us, hl with | [_, _], _ => rfl,
    m__law_words := PySem.W.mg_of X G a7,
    a__law_bare := f8,
    f__law_bare := _,
    F__law_bare := fun_mk (st := s__law_bare) l8 c8 k8,
    b__law_bare := (fun_mk (st := s__law_bare) l8 c8 k8).binds (ps := ["_law_pot_here", "_law_words_here", "_law_bells"]) fun _ _ _ _ _ _ us hl => match us, hl with | [_, _, _], _ => rfl,
    m__law_bare := PySem.W.mg_of X G a8,
    a__law_sum := f9,
    f__law_sum := _,
    F__law_sum := fun_mk (st := s__law_sum) l9 c9 k9,
    b__law_sum := (fun_mk (st := s__law_sum) l9 c9 k9).binds (ps := ["_law_pot_here", "_law_words_here", "_law_bells", "_law_deep"]) fun _ _ _ _ _ _ us hl => match us, hl with | [_, _, _, _], _ => rfl,
    m__law_sum := PySem.W.mg_of X G a9,
    a__law_is_word := f10,
    f__law_is_word := _,
    F__law_is_word := fun_mk (st := s__law_is_word) l10 c10 k10,
    b__law_is_word := (fun_mk (st := s__law_is_word) l10 c10 k10).binds (ps := ["_law_thing"]) fun _ _ _ _ _ _ us hl => match us, hl with | [_], _ => rfl,
    m__law_is_word := PySem.W.mg_of X G a10,
    a__law_is_whole := f11,
    f__law_is_whole := _,
    F__law_is_whole := fun_mk (st := s__law_is_whole) l11 c11 k11,
    b__law_is_whole := (fun_mk (st := s__law_is_whole) l11 c11 k11).binds (ps := ["_law_thing", "_law_least", "_law_most"]) fun _ _ _ _ _ _ us hl => match us, hl with | [_, _, _], _ => rfl,
    m__law_is_whole := PySem.W.mg_of X G a11,
    a__law_is_sum := f12,
    f__law_is_sum := _,
    F__law_is_sum := fun_mk (st := s__law_is_sum) l12 c12 k12,
    b__law_is_sum := (fun_mk (st := s__law_is_sum) l12 c12 k12).binds (ps := ["_law_thing", "_law_deep"]) fun _ _ _ _ _ _ us hl => match us, hl with | [_, _], _ => rfl,
    m__law_is_sum := PySem.W.mg_of X G a12,
    a__law_odd := f13,
    f__law_odd := _,
    F__law_odd := fun_mk (st := s__law_odd) l13 c13 k13,
    b__law_odd := (fun_mk (st := s__law_odd) l13 c13 k13).binds (ps := ["_law_pot_here"]) fun _ _ _ _ _ _ us hl => match us, hl with | [_], _ => rfl,
    m__law_odd := PySem.W.mg_of X G a13,
    a__law_bent := f14,
    f__law_bent := _,
    F__law_bent := fun_mk (st := s__law_bent) l14 c14 k14,
    b__law_bent := (fun_mk (st := s__law_bent) l14 c14 k14).binds (ps := ["_law_pot_here", "_law_thing"]) fun _ _ _ _ _ _ us hl => match us, hl with | [_, _], _ => rfl,
    m__law_bent := PySem.W.mg_of X G a14,
    a__law_right := f15,
    f__law_right := _,
    F__law_right := fun_mk (st := s__law_right) l15 c15 k15,
    b__law_right := (fun_mk (st := s__law_right) l15 c15 k15).binds (ps := ["_law_thing"]) fun _ _ _ _ _ _ us hl => match us, hl with | [_], _ => rfl,
    m__law_right := PySem.W.mg_of X G a15,
    a_law := _,
    f_law := _,
    F_law := fun_mk (st := s_law) l16 c16 k16,
    b_law := (fun_mk (st := s_law) l16 c16 k16).binds (ps := ["_law_script"]) fun _ _ _ _ _ _ us hl => match us, hl with | [_], _ => rfl,
    m_law := PySem.W.mg_of X G a16,
    z_all := PySem.W.mg_none_of X G z_all,
    z_bool := PySem.W.mg_none_of X G z_bool,
    z_int := PySem.W.mg_none_of X G z_int,
    z_isinstance := PySem.W.mg_none_of X G z_isinstance,
    z_len := PySem.W.mg_none_of X G z_len,
    z_list := PySem.W.mg_none_of X G z_list,
    z_max := PySem.W.mg_none_of X G z_max,
    z_min := PySem.W.mg_none_of X G z_min,
    z_range := PySem.W.mg_none_of X G z_range,
    z_repr := PySem.W.mg_none_of X G z_repr,
    z_str := PySem.W.mg_none_of X G z_str,
    z_tuple := PySem.W.mg_none_of X G z_tuple,
    c_LETTERS := Glob.str (PySem.W.mg_of X G n_LETTERS),
    c_MOST_DEEP := Glob.int (PySem.W.mg_of X G n_MOST_DEEP),
    c_MOST_SIGNS := Glob.int (PySem.W.mg_of X G n_MOST_SIGNS),
    c_MOST_VALUE := Glob.int (PySem.W.mg_of X G n_MOST_VALUE),
    c_TWO_PARTS := Glob.tup (PySem.W.mg_of X G n_TWO_PARTS) e_TWO_PARTS (Nat.le_of_ble_eq_true rfl) rfl rfl (.cons ⟨_, rfl⟩ (.cons ⟨_, rfl⟩ (.cons ⟨_, rfl⟩ (.cons ⟨_, rfl⟩ (.cons ⟨_, rfl⟩ (.nil)))))) }, rfl, fun s v => .of_eq rfl⟩
theorem q__law_pot (T : Txt K mg) : FnOk P w K mg base CX0 1 T.a__law_pot T.f__law_pot ["_law_script"] (FS K mg 1 spPot) :=
  (ok__law_pot (k := 0) T  Lw.pot_ok).imp fun _ _ _ _ z => pot_imp z
theorem q__law_take (T : Txt K mg) : FnOk P w K mg base CX0 1 T.a__law_take T.f__law_take ["_law_pot_here", "_law_many"] (FS K mg 2 spTake) :=
  (ok__law_take (k := 0) T  Lw.take_ok).imp fun _ _ _ _ z => take_imp z
theorem q__law_of (T : Txt K mg) : FnOk P w K mg base CX0 2 T.a__law_of T.f__law_of ["_law_pot_here", "_law_some"] (FS K mg 2 Lw.spOf) :=
  ok__law_of (k := 1) T (q__law_take T) Lw.of_ok
theorem q__law_words (T : Txt K mg) : FnOk P w K mg base CX0 3 T.a__law_words T.f__law_words ["_law_pot_here", "_law_many"] (FS K mg 2 Lw.spWords) :=
  ok__law_words (k := 2) T (q__law_of T) ((q__law_take T).mono (by decide)) Lw.words_ok
theorem q__law_bare (T : Txt K mg) : FnOk P w K mg base CX0 3 T.a__law_bare T.f__law_bare ["_law_pot_here", "_law_words_here", "_law_bells"] (FS K mg 3 Lw.spBare) :=
  ok__law_bare (k := 2) T ((q__law_take T).mono (by decide)) (q__law_of T) Lw.bare_ok
theorem q__law_sum (T : Txt K mg) : ∀ j, FnOk P w K mg base CX0 (j + 4) T.a__law_sum T.f__law_sum ["_law_pot_here", "_law_words_here", "_law_bells", "_law_deep"] (FS K mg 4 (Lw.spSum j))
  | 0 => fs_none fun args et R ⟨n, d, _, _, _, h, _⟩ => by omega
  | j + 1 => ok__law_sum T ((q__law_take T).mono (by omega)) ((q__law_bare T).mono (by omega)) (q__law_sum T j) ((q__law_of T).mono (by omega)) (Lw.sum_ok j)
theorem q_is_word (T : Txt K mg) : FnOk P w K mg base CX0 1 T.a_is_word T.f_is_word ["thing"] (FS K mg 1 Sq.spWord) :=
  ok_is_word (k := 0) T  Sq.is_word_ok
theorem q_is_value (T : Txt K mg) : FnOk P w K mg base CX0 1 T.a_is_value T.f_is_value ["thing"] (FS K mg 1 Sq.spValue) :=
  ok_is_value (k := 0) T  Sq.is_value_ok
theorem q_is_sum_within (T : Txt K mg) : ∀ j, FnOk P w K mg base CX0 (j + 2) T.a_is_sum_within T.f_is_sum_within ["thing", "deep"] (FS K mg 2 (Sq.spWithin j))
  | 0 => fs_none fun args et R ⟨p, d, _, h, _⟩ => by omega
  | j + 1 => ok_is_sum_within T ((q_is_word T).mono (by omega)) ((q_is_value T).mono (by omega)) (q_is_sum_within T j) (Sq.within_ok j)
theorem q_is_sum (T : Txt K mg) : FnOk P w K mg base CX0 9 T.a_is_sum T.f_is_sum ["thing"] (FS K mg 1 Sq.spIsSum) :=
  ok_is_sum (k := 8) T (q_is_sum_within T 6) Sq.is_sum_ok
theorem q__law_is_word (T : Txt K mg) : FnOk P w K mg base CX0 1 T.a__law_is_word T.f__law_is_word ["_law_thing"] (FS K mg 1 Q01.spLWord) :=
  ok__law_is_word (k := 0) T  Q01.lword_ok
theorem q__law_is_whole (T : Txt K mg) : FnOk P w K mg base CX0 1 T.a__law_is_whole T.f__law_is_whole ["_law_thing", "_law_least", "_law_most"] (FS K mg 3 Q01.spWhole) :=
  ok__law_is_whole (k := 0) T  Q01.whole_ok
theorem q__law_is_sum (T : Txt K mg) : ∀ j, FnOk P w K mg base CX0 (j + 2) T.a__law_is_sum T.f__law_is_sum ["_law_thing", "_law_deep"] (FS K mg 2 (Q01.spLSum j))
  | 0 => fs_none fun args et R ⟨p, d, _, h, _⟩ => by omega
  | j + 1 => ok__law_is_sum T ((q__law_is_word T).mono (by omega)) ((q__law_is_whole T).mono (by omega)) (q__law_is_sum T j) (Q01.lsum_ok j)
theorem q__law_right (T : Txt K mg) : FnOkG P w K mg base CX0 10 T.a__law_right T.f__law_right ["_law_thing"] (FS K mg 1 Q01.spRight) :=
  ok__law_right (k := 9) T (q_is_sum T) ((q__law_is_sum T 6).mono (by decide)) Q01.right_ok
theorem q__law_odd (T : Txt K mg) : FnOk P w K mg base CX0 3 T.a__law_odd T.f__law_odd ["_law_pot_here"] (FS K mg 1 Q01.spOdd) :=
  ok__law_odd (k := 2) T (q__law_of T) Q01.odd_ok
theorem q__law_bent (T : Txt K mg) : ∀ j, FnOk P w K mg base CX0 (j + 4) T.a__law_bent T.f__law_bent ["_law_pot_here", "_law_thing"] (FS K mg 2 (Q01.spBent j))
  | 0 => fs_none fun args et R ⟨n, p, _, _, _, h, _⟩ => by omega
  | j + 1 => ok__law_bent T ((q__law_take T).mono (by omega)) (q__law_bent T j) ((q__law_of T).mono (by omega)) ((q__law_odd T).mono (by omega)) (Q01.bent_ok j)
theorem all_ok (T : Txt K mg) : FnOkG P w K mg base CX0 25 T.a_law T.f_law ["_law_script"] (FS K mg 1 spLaw) :=
  ok_law (k := 24) T ((q__law_pot T).mono (by decide)) ((q__law_words T).mono (by decide)) ((q__law_sum T 6).mono (by decide)) ((q__law_take T).mono (by decide)) ((q__law_right T).mono (by decide)) ((q_is_sum T).mono (by decide)) (q__law_bent T 20) Q01.law_ok
end K01
open PySem PySem.W PyProof.Rows
set_option maxRecDepth 100000 in
set_option maxHeartbeats 0 in
theorem PySem.Challenge.cw_calledroom_k01_sums_of_anything_holds : PySem.Challenge.rw_calledroom_k01_sums_of_anything.Holds := by
  w_on; o_law; k_head; (case hw => w_witness2)
  k_fill
  refine Mw.top_walkG (l := PySem.Challenge.rw_calledroom_k01_sums_of_anything) (k := 25) (x := "_law_script") rfl rfl ⟨rfl, by decide, by decide⟩ (fun w h Y => PySem.W.kIn_of Y) ?F
  case F =>
    intro w mg fa h KX G hmg
    refine (fun z : ∃ T : K01.Txt _ mg, T.a_law = fa ∧ ∀ (s : Shared) (v : Value), BindsTo s T.f_law ⟨[v], []⟩ [("_law_script", v)] => z.elim fun T z => ⟨T.f_law, z.2, fun base _ _ => z.1 ▸ K01.all_ok T⟩) ?_
    refine' K01.txt_mk KX G hmg ?a0 ?l0 ?c0 ?k0 ?a1 ?l1 ?c1 ?k1 ?a2 ?l2 ?c2 ?k2 ?a3 ?l3 ?c3 ?k3 ?a4 ?l4 ?c4 ?k4 ?a5 ?l5 ?c5 ?k5 ?a6 ?l6 ?c6 ?k6 ?a7 ?l7 ?c7 ?k7 ?a8 ?l8 ?c8 ?k8 ?a9 ?l9 ?c9 ?k9 ?a10 ?l10 ?c10 ?k10 ?a11 ?l11 ?c11 ?k11 ?a12 ?l12 ?c12 ?k12 ?a13 ?l13 ?c13 ?k13 ?a14 ?l14 ?c14 ?k14 ?a15 ?l15 ?c15 ?k15 ?a16 ?l16 ?c16 ?k16 ?z_all ?z_bool ?z_int ?z_isinstance ?z_len ?z_list ?z_max ?z_min ?z_range ?z_repr ?z_str ?z_tuple ?n_LETTERS ?n_MOST_DEEP ?n_MOST_SIGNS ?n_MOST_VALUE ?n_TWO_PARTS ?e_TWO_PARTS
    (case a0 => k_is); (case l0 => k_is); (case c0 => k_is); (case k0 => k_is); (case a1 => k_is); (case l1 => k_is)
    (case c1 => k_is); (case k1 => k_is); (case a2 => k_is); (case l2 => k_is); (case c2 => k_is); (case k2 => k_is)
    (case a3 => k_is); (case l3 => k_is); (case c3 => k_is); (case k3 => k_is); (case a4 => k_is); (case l4 => k_is)
    (case c4 => k_is); (case k4 => k_is); (case a5 => k_is); (case l5 => k_is); (case c5 => k_is); (case k5 => k_is)
    (case a6 => k_is); (case l6 => k_is); (case c6 => k_is); (case k6 => k_is); (case a7 => k_is); (case l7 => k_is)
    (case c7 => k_is); (case k7 => k_is); (case a8 => k_is); (case l8 => k_is); (case c8 => k_is); (case k8 => k_is)
    (case a9 => k_is); (case l9 => k_is); (case c9 => k_is); (case k9 => k_is); (case a10 => k_is); (case l10 => k_is)
    (case c10 => k_is); (case k10 => k_is); (case a11 => k_is); (case l11 => k_is); (case c11 => k_is); (case k11 => k_is)
    (case a12 => k_is); (case l12 => k_is); (case c12 => k_is); (case k12 => k_is); (case a13 => k_is); (case l13 => k_is)
    (case c13 => k_is); (case k13 => k_is); (case a14 => k_is); (case l14 => k_is); (case c14 => k_is); (case k14 => k_is)
    (case a15 => k_is); (case l15 => k_is); (case c15 => k_is); (case k15 => k_is); (case a16 => k_is); (case l16 => k_is)
    (case c16 => k_is); (case k16 => k_is); (case z_all => k_is); (case z_bool => k_is); (case z_int => k_is); (case z_isinstance => k_is)
    (case z_len => k_is); (case z_list => k_is); (case z_max => k_is); (case z_min => k_is); (case z_range => k_is); (case z_repr => k_is)
    (case z_str => k_is); (case z_tuple => k_is); (case n_LETTERS => k_is); (case n_MOST_DEEP => k_is); (case n_MOST_SIGNS => k_is); (case n_MOST_VALUE => k_is)
    (case n_TWO_PARTS => k_is); (case e_TWO_PARTS => k_is)
